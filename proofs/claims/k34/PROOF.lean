import PyProof.Rows.All
import Wide.All
import OpenK.AllK
import Wide.FinOn
import HandS.ForMost
import HandS.ForExc
import HandS.CallSlots
import HandS.IsInst
import HandS.TupAny
import HandS.Style
import HandS.TupLe
import HandS.SortInts
import HandS.Conv
import HandS.TupLen
import HandS.Small
import HandS.More
import KE.KSortedM
import HandS.Comp
import HandS.Iter
import HandS.ExcInit
import HandS.Nested
import HandS.WordsExc
import KE.KExcSuper
import HandS.ExcField
import HandS.TryMany
import HandS.Text
import PyProof.StrBlock2
import PyProof.Rows.StrMul
import HandS.Dict
import HandS.SortKw
import KE.SortKeyHeap
import KE.DataCmp
import PySem.Challenge.RW_surely_k34_whole_standings
set_option Elab.async false
set_option linter.all false
set_option maxRecDepth 100000
set_option maxHeartbeats 4000000
/-! SmA: plain data, a plain heap, how both stand in the model's abstract heap; results; readings by a plain function. -/
namespace Sm
open PySem L2

/-! ### plain data -/
inductive D where
  | non | bl (b : Bool) | int (i : Int) | str (x : Str) | tup (ds : List D) | fls (ds : List D) | ref (n : Nat)
inductive O where
  | lst (xs : List D) | dK (kvs : List (Key × D)) | dT (kvs : List (List Key × D)) | ins (c : Nat) (fs : List (Option D)) | dead
abbrev Hh := List O
abbrev Ev := List (Option D)
/-- classes by number: where they stand, their attributes in order -/
structure Cl where
  at_ : Nat → Addr
  nm : Nat → List Str

/-- a tuple of the module's own top -/
def KT (K : PySem.W.Frag) (a : Addr) (xs : List V) : Prop := ∃ (o : Obj) (its : Array Value) (n : Nat), K.lookup a = some o ∧ o.cls = .type "tuple" ∧ o.data = .seq its n ∧ its.size ≤ sizeLine ∧ Vals xs its.toList
/-- a list that stands still: the script -/
def FL (K : PySem.W.Frag) (H : Hp) (a : Addr) (xs : List V) : Prop := (∃ o, H a = some (.frz o (.lst xs))) ∨
  ∃ (o : Obj) (its : Array Value) (n : Nat), K.lookup a = some o ∧ o.cls = .type "list" ∧ o.dict = none ∧ o.data = .seq its n ∧ its.size ≤ sizeLine ∧ Vals xs its.toList
theorem FL.sq {K : PySem.W.Frag} {H : Hp} {a : Addr} {xs : List V} (h : FL K H a xs) : SqL K H a xs := h.elim (fun ⟨o, e⟩ => .inl (.inr ⟨o, e⟩)) .inr
def D.isStr : D → Bool
  | .str _ => true
  | _ => false
/-- what such a tuple looks like: words, or ((), 0) -/
def isK : List D → Bool
  | [.str _] => true
  | [.tup [], .int _] => true
  | ds => decide (2 ≤ ds.length) && ds.all D.isStr
section
variable (K : PySem.W.Frag) (ρ : List Addr) (H : Hp)
mutual
inductive Rv : V → D → Prop where
  | non : Rv .non .non
  | bl (b : Bool) : Rv (.bl b) (.bl b)
  | int (i : Int) : Rv (.int i) (.int i)
  | str (x : Str) : Rv (.str x) (.str x)
  | tup {a : Addr} {vs : List V} {ds : List D} : H a = some (.tup vs) → Rvs vs ds → Rv (.ref a) (.tup ds)
  | ktp {a : Addr} {vs : List V} {ds : List D} : KT K a vs → isK ds = true → Rvs vs ds → Rv (.ref a) (.tup ds)
  | fls {a : Addr} {vs : List V} {ds : List D} : FL K H a vs → Rvs vs ds → Rv (.ref a) (.fls ds)
  | ref {n : Nat} {a : Addr} : ρ[n]? = some a → Rv (.ref a) (.ref n)
inductive Rvs : List V → List D → Prop where
  | nil : Rvs [] []
  | cons {v : V} {vs : List V} {d : D} {ds : List D} : Rv v d → Rvs vs ds → Rvs (v :: vs) (d :: ds)
end
end

/-- later: more addresses are known, tuples stand as they did -/
structure Ex (K : PySem.W.Frag) (ρ : List Addr) (H : Hp) (ρ' : List Addr) (H' : Hp) : Prop where
  pre : ∀ (n : Nat) (a : Addr), ρ[n]? = some a → ρ'[n]? = some a
  tup : ∀ a vs, H a = some (.tup vs) → H' a = some (.tup vs)
  frz : ∀ a o u, H a = some (.frz o u) → H' a = some (.frz o u)
  xds : ∀ a fs, H a = some (.xd fs) → H' a = some (.xd fs)
theorem Ex.refl {K : PySem.W.Frag} {ρ : List Addr} {H : Hp} : Ex K ρ H ρ H := ⟨fun _ _ h => h, fun _ _ h => h, fun _ _ _ h => h, fun _ _ h => h⟩
theorem Ex.trans {K : PySem.W.Frag} {ρ ρ1 ρ2 : List Addr} {H H1 H2 : Hp} (a : Ex K ρ H ρ1 H1) (b : Ex K ρ1 H1 ρ2 H2) : Ex K ρ H ρ2 H2 :=
  ⟨fun n x h => b.pre n x (a.pre n x h), fun x vs h => b.tup x vs (a.tup x vs h), fun x o u h => b.frz x o u (a.frz x o u h), fun x fs h => b.xds x fs (a.xds x fs h)⟩

section
variable {K : PySem.W.Frag} {ρ ρ' : List Addr} {H H' : Hp}
mutual
theorem Rv.mono (e : Ex K ρ H ρ' H') : ∀ {v : V} {d : D}, Rv K ρ H v d → Rv K ρ' H' v d
  | _, _, .non => .non
  | _, _, .bl b => .bl b
  | _, _, .int i => .int i
  | _, _, .str x => .str x
  | _, _, .tup h r => .tup (e.tup _ _ h) (Rvs.mono e r)
  | _, _, .ktp h q r => .ktp h q (Rvs.mono e r)
  | _, _, .fls h r => .fls (h.imp (fun ⟨o, z⟩ => ⟨o, e.frz _ _ _ z⟩) id) (Rvs.mono e r)
  | _, _, .ref h => .ref (e.pre _ _ h)
theorem Rvs.mono (e : Ex K ρ H ρ' H') : ∀ {vs : List V} {ds : List D}, Rvs K ρ H vs ds → Rvs K ρ' H' vs ds
  | _, _, .nil => .nil
  | _, _, .cons h r => .cons (Rv.mono e h) (Rvs.mono e r)
end
theorem Rv.sqT {v : V} {ds : List D} (r : Rv K ρ H v (.tup ds)) : ∃ a vs, v = .ref a ∧ SqT K H a vs ∧ Rvs K ρ H vs ds := by
  cases r with
  | tup h r => exact ⟨_, _, rfl, SqT.of h, r⟩
  | ktp h _ r => exact ⟨_, _, rfl, .inr h, r⟩
theorem Rvs.length : ∀ {vs : List V} {ds : List D}, Rvs K ρ H vs ds → vs.length = ds.length
  | _, _, .nil => rfl
  | _, _, .cons _ r => by rw [List.length_cons, List.length_cons, Rvs.length r]
theorem Rvs.get : ∀ {vs : List V} {ds : List D} {i : Nat} {d : D}, Rvs K ρ H vs ds → ds[i]? = some d → ∃ v, vs[i]? = some v ∧ Rv K ρ H v d
  | _, _, _, _, .nil, e => by simp at e
  | _, _, 0, _, .cons h r, e => by simp at e; subst e; exact ⟨_, rfl, h⟩
  | _, _, i + 1, _, .cons h r, e => by
    obtain ⟨v, h1, h2⟩ := Rvs.get (i := i) r (by simpa using e)
    exact ⟨v, by simpa using h1, h2⟩
theorem Rvs.getV : ∀ {vs : List V} {ds : List D} {i : Nat} {v : V}, Rvs K ρ H vs ds → vs[i]? = some v → ∃ d, ds[i]? = some d ∧ Rv K ρ H v d
  | _, _, _, _, .nil, e => by simp at e
  | _, _, 0, _, .cons h r, e => by simp at e; subst e; exact ⟨_, rfl, h⟩
  | _, _, i + 1, _, .cons h r, e => by
    obtain ⟨v, h1, h2⟩ := Rvs.getV (i := i) r (by simpa using e)
    exact ⟨v, by simpa using h1, h2⟩
theorem Rvs.append : ∀ {vs ws : List V} {ds es : List D}, Rvs K ρ H vs ds → Rvs K ρ H ws es → Rvs K ρ H (vs ++ ws) (ds ++ es)
  | _, _, _, _, .nil, s => s
  | _, _, _, _, .cons h r, s => .cons h (Rvs.append r s)
theorem Rvs.set {v : V} {d : D} (h : Rv K ρ H v d) : ∀ {vs : List V} {ds : List D} (i : Nat), Rvs K ρ H vs ds → Rvs K ρ H (vs.set i v) (ds.set i d)
  | _, _, _, .nil => .nil
  | _, _, 0, .cons _ r => .cons h r
  | _, _, i + 1, .cons q r => .cons q (Rvs.set h i r)
theorem Rvs.take : ∀ {vs : List V} {ds : List D} (n : Nat), Rvs K ρ H vs ds → Rvs K ρ H (vs.take n) (ds.take n)
  | _, _, 0, _ => .nil
  | _, _, _ + 1, .nil => .nil
  | _, _, n + 1, .cons h r => .cons h (Rvs.take n r)
theorem Rvs.drop : ∀ {vs : List V} {ds : List D} (n : Nat), Rvs K ρ H vs ds → Rvs K ρ H (vs.drop n) (ds.drop n)
  | _, _, 0, r => r
  | _, _, _ + 1, .nil => .nil
  | _, _, n + 1, .cons _ r => Rvs.drop n r
theorem Rvs.reverse {vs : List V} {ds : List D} (h : Rvs K ρ H vs ds) : Rvs K ρ H vs.reverse ds.reverse := by
  induction vs generalizing ds with
  | nil => cases h; exact .nil
  | cons v vs ih =>
    cases h with
    | cons h r =>
      rw [List.reverse_cons, List.reverse_cons]
      exact (ih r).append (.cons h .nil)
theorem Rvs.dropLast {vs : List V} {ds : List D} (h : Rvs K ρ H vs ds) : Rvs K ρ H vs.dropLast ds.dropLast := by
  rw [List.dropLast_eq_take, List.dropLast_eq_take, h.length]
  exact h.take _
theorem Rvs.ints : ∀ {vs : List V} {ns : List Int}, Rvs K ρ H vs (ns.map D.int) → vs = ns.map V.int
  | _, [], h => by cases h; rfl
  | _, n :: ns, h => by
    cases h with
    | cons h r =>
      cases h
      rw [Rvs.ints r]
      rfl
theorem Rvs.of_ints : ∀ ns : List Int, Rvs K ρ H (ns.map V.int) (ns.map D.int)
  | [] => .nil
  | n :: ns => .cons (.int n) (Rvs.of_ints ns)
end

/-! ### the plain heap in the abstract one -/
section
variable (K : PySem.W.Frag) (G : Cl) (ρ : List Addr) (H : Hp)
/-- how many fields are there -/
def setN (ds : List (Option D)) : Nat := (ds.filter fun o => o.isSome).length
def RoF : Option V → Option D → Prop
  | some v, some d => Rv K ρ H v d
  | none, none => True
  | _, _ => False
inductive Ro (a : Addr) : O → Prop where
  | lst {vs : List V} {ds : List D} : H a = some (.lst vs) → Rvs K ρ H vs ds → Ro a (.lst ds)
  | dK {kvs : List (Key × V)} {ds : List (Key × D)} : H a = some (.dK kvs) → Paired (fun (p : Key × V) (q : Key × D) => p.1 = q.1 ∧ Rv K ρ H p.2 q.2) kvs ds → Ro a (.dK ds)
  | dT {kvs : List (List Key × V)} {ds : List (List Key × D)} : H a = some (.dT kvs) → Paired (fun (p : List Key × V) (q : List Key × D) => p.1 = q.1 ∧ Rv K ρ H p.2 q.2) kvs ds → Ro a (.dT ds)
  | ins {c : Nat} {dx : Addr} {fs : List (Str × V)} {ds : List (Option D)} : H a = some (.ins (G.at_ c) dx fs) → ds.length = (G.nm c).length → (∀ (i : Nat) (f : Str), (G.nm c)[i]? = some f → RoF K ρ H (fs.lookup f) (ds[i]?.join)) →
      (∀ f, f ∉ G.nm c → fs.lookup f = none) → fs.length = setN ds → Ro a (.ins c ds)
  | dead {u : HO} : H a = some u → Ro a .dead
structure Rh (h : Hh) : Prop where
  len : ρ.length = h.length
  inj : ∀ (i j : Nat) (a : Addr), ρ[i]? = some a → ρ[j]? = some a → i = j
  obj : ∀ (n : Nat) (o : O), h[n]? = some o → ∃ a : Addr, ρ[n]? = some a ∧ Ro K G ρ H a o
structure Re (σ : L2.St) (env : Ev) : Prop where
  len : σ.length = env.length
  get : ∀ (i : Nat) (d : D), env[i]? = some (some d) → ∃ v : V, σ[i]? = some (some v) ∧ Rv K ρ H v d
/-- an exception's dict -/
def Rx (d : Option Addr) (c : Nat) (fs : List D) : Prop := ∃ (x : Addr) (vfs : List (Str × V)), d = some x ∧ H x = some (.xd vfs) ∧ fs.length = (G.nm c).length ∧ ∀ (i : Nat) (f : Str), (G.nm c)[i]? = some f → ∃ (v : V) (y : D), vfs.lookup f = some v ∧ fs[i]? = some y ∧ Rv K ρ H v y
end

section
variable {K : PySem.W.Frag} {G : Cl} {ρ ρ' : List Addr} {H H' : Hp} {h h' : Hh} {a : Addr} {o : O} {σ : L2.St} {env : Ev}
theorem Rx.mono (e : Ex K ρ H ρ' H') {d : Option Addr} {c : Nat} {fs : List D} (r : Rx K G ρ H d c fs) : Rx K G ρ' H' d c fs := by
  obtain ⟨x, vfs, h1, h2, h3, h4⟩ := r
  exact ⟨x, vfs, h1, e.xds _ _ h2, h3, fun i f hf => by
    obtain ⟨v, y, k1, k2, k3⟩ := h4 i f hf
    exact ⟨v, y, k1, k2, k3.mono e⟩⟩
theorem RoF.mono (e : Ex K ρ H ρ' H') {v : Option V} {d : Option D} (r : RoF K ρ H v d) : RoF K ρ' H' v d := by
  cases v with
  | none => cases d with | none => trivial | some d => exact r.elim
  | some v => cases d with | none => exact r.elim | some d => exact Rv.mono e r
theorem Ro.mono (e : Ex K ρ H ρ' H') (ha : H' a = H a) (r : Ro K G ρ H a o) : Ro K G ρ' H' a o := by
  cases r with
  | lst q r => exact .lst (ha.trans q) (r.mono e)
  | dK q r => exact .dK (ha.trans q) (Paired.mapP r fun _ _ z => ⟨z.1, z.2.mono e⟩)
  | dT q r => exact .dT (ha.trans q) (Paired.mapP r fun _ _ z => ⟨z.1, z.2.mono e⟩)
  | ins q l r n z => exact .ins (ha.trans q) l (fun i f hf => (r i f hf).mono e) n z
  | dead q => exact .dead (ha.trans q)
theorem Ro.there (r : Ro K G ρ H a o) : ∃ u, H a = some u ∧ (o ≠ .dead → (∀ xs, u ≠ .tup xs) ∧ (∀ ob w, u ≠ .frz ob w) ∧ (∀ fs, u ≠ .xd fs)) := by
  cases r with
  | lst q _ => exact ⟨_, q, fun _ => ⟨(fun xs z => by cases z), (fun ob xs z => by cases z), (fun fs z => by cases z)⟩⟩
  | dK q _ => exact ⟨_, q, fun _ => ⟨(fun xs z => by cases z), (fun ob xs z => by cases z), (fun fs z => by cases z)⟩⟩
  | dT q _ => exact ⟨_, q, fun _ => ⟨(fun xs z => by cases z), (fun ob xs z => by cases z), (fun fs z => by cases z)⟩⟩
  | ins q _ _ _ _ => exact ⟨_, q, fun _ => ⟨(fun xs z => by cases z), (fun ob xs z => by cases z), (fun fs z => by cases z)⟩⟩
  | dead q => exact ⟨_, q, fun z => absurd rfl z⟩
theorem Re.mono (e : Ex K ρ H ρ' H') (r : Re K ρ H σ env) : Re K ρ' H' σ env := ⟨r.len, fun i d h => by
  obtain ⟨v, h1, h2⟩ := r.get i d h
  exact ⟨v, h1, h2.mono e⟩⟩
theorem Re.set (r : Re K ρ H σ env) {v : V} {d : D} (q : Rv K ρ H v d) (i : Nat) : Re K ρ H (σ.set i (some v)) (env.set i (some d)) := ⟨by rw [List.length_set, List.length_set, r.len], fun j x h => by
  by_cases e : i = j
  · subst e
    by_cases l : i < env.length
    · rw [List.getElem?_set_self l] at h
      cases h
      exact ⟨v, List.getElem?_set_self (by rw [r.len]; exact l), q⟩
    · rw [List.getElem?_eq_none (by rw [List.length_set]; omega)] at h
      cases h
  · rw [List.getElem?_set_ne e] at h ⊢
    exact r.get j x h⟩
theorem tup_upd {p : Addr} {u : HO} (n : ∀ vs, H p ≠ some (.tup vs)) {a : Addr} {vs : List V} (h : H a = some (.tup vs)) : upd H p u a = some (.tup vs) := by
  rw [upd_ne (fun z => by rw [z] at h; exact n _ h)]
  exact h
theorem frz_upd {p : Addr} {u : HO} (n : ∀ o w, H p ≠ some (.frz o w)) {a : Addr} {o : Obj} {w : HO} (h : H a = some (.frz o w)) : upd H p u a = some (.frz o w) := by
  rw [upd_ne (fun z => by rw [z] at h; exact n _ _ h)]
  exact h
theorem xd_upd {p : Addr} {u : HO} (n : ∀ fs, H p ≠ some (.xd fs)) {a : Addr} {fs : List (Str × V)} (h : H a = some (.xd fs)) : upd H p u a = some (.xd fs) := by
  rw [upd_ne (fun z => by rw [z] at h; exact n _ h)]
  exact h
theorem Ex.fresh {p : Addr} {u : HO} (n : H p = none) : Ex K ρ H ρ (upd H p u) := ⟨fun _ _ h => h, fun a vs h => tup_upd (fun vs z => by rw [n] at z; cases z) h, fun a o w h => frz_upd (fun o w z => by rw [n] at z; cases z) h, fun a fs h => xd_upd (fun fs z => by rw [n] at z; cases z) h⟩
/-- a further object, not of the plain heap -/
theorem Rh.aux {p : Addr} {u : HO} (r : Rh K G ρ H h) (n : H p = none) : Rh K G ρ (upd H p u) h := ⟨r.len, r.inj, fun m o q => by
  obtain ⟨a, h1, h2⟩ := r.obj m o q
  obtain ⟨w, hw, _⟩ := h2.there
  exact ⟨a, h1, h2.mono (Ex.fresh n) (upd_ne (ne_of_none hw n))⟩⟩
theorem get_push {α : Type} {l : List α} {x y : α} {n : Nat} (e : (l ++ [x])[n]? = some y) : (n < l.length ∧ l[n]? = some y) ∨ (n = l.length ∧ x = y) := by
  by_cases q : n < l.length
  · rw [List.getElem?_append_left q] at e
    exact .inl ⟨q, e⟩
  · rw [List.getElem?_append_right (by omega)] at e
    by_cases q2 : n = l.length
    · subst q2
      simp at e
      exact .inr ⟨rfl, e⟩
    · rw [List.getElem?_eq_none (by simp; omega)] at e
      cases e
theorem get_push_lt {α : Type} {l : List α} {x y : α} {n : Nat} (e : l[n]? = some y) : (l ++ [x])[n]? = some y := by
  have q : n < l.length := (List.getElem?_eq_some_iff.mp e).1
  rw [List.getElem?_append_left q]
  exact e
theorem get_push_eq {α : Type} {l : List α} {x : α} : (l ++ [x])[l.length]? = some x := by simp
theorem Ex.push {p : Addr} {u : HO} (n : H p = none) : Ex K ρ H (ρ ++ [p]) (upd H p u) := ⟨fun m a e => get_push_lt e, (Ex.fresh (K := K) (ρ := ρ) n).tup, (Ex.fresh (K := K) (ρ := ρ) n).frz, (Ex.fresh (K := K) (ρ := ρ) n).xds⟩
/-- a new object of the plain heap -/
theorem Rh.new {p : Addr} {u : HO} (r : Rh K G ρ H h) (n : H p = none) (ro : Ro K G (ρ ++ [p]) (upd H p u) p o) : Rh K G (ρ ++ [p]) (upd H p u) (h ++ [o]) := by
  have far : ∀ (m : Nat), ρ[m]? ≠ some p := fun m z => by
    have hm : m < h.length := by rw [← r.len]; exact (List.getElem?_eq_some_iff.mp z).1
    obtain ⟨a, h1, h2⟩ := r.obj m h[m] (by simp [hm])
    rw [z] at h1
    cases h1
    obtain ⟨w, hw, _⟩ := h2.there
    rw [n] at hw
    cases hw
  refine ⟨by rw [List.length_append, List.length_append, r.len]; rfl, fun i j a h1 h2 => ?_, fun m o' q => ?_⟩
  · rcases get_push h1 with ⟨l1, e1⟩ | ⟨l1, e1⟩
    · rcases get_push h2 with ⟨l2, e2⟩ | ⟨l2, e2⟩
      · exact r.inj i j a e1 e2
      · subst e2
        exact absurd e1 (far i)
    · rcases get_push h2 with ⟨l2, e2⟩ | ⟨l2, e2⟩
      · subst e1
        exact absurd e2 (far j)
      · rw [l1, l2]
  · rcases get_push q with ⟨l1, e1⟩ | ⟨l1, e1⟩
    · obtain ⟨a, h1, h2⟩ := r.obj m o' e1
      obtain ⟨w, hw, _⟩ := h2.there
      exact ⟨a, get_push_lt h1, h2.mono (Ex.push n) (upd_ne (ne_of_none hw n))⟩
    · subst e1
      refine ⟨p, ?_, ro⟩
      rw [l1, ← r.len]
      exact get_push_eq
/-- an object of the plain heap is changed -/
theorem Ex.write {n : Nat} {u : HO} (r : Rh K G ρ H h) (ha : ρ[n]? = some a) (ho : h[n]? = some o) (hd : o ≠ .dead := by nofun) : Ex K ρ H ρ (upd H a u) := by
  obtain ⟨a', h1, h2⟩ := r.obj n o ho
  rw [ha] at h1
  cases h1
  obtain ⟨w, hw, t⟩ := h2.there
  obtain ⟨t1, t2, t3⟩ := t hd
  refine ⟨fun _ _ h => h, fun b vs h => tup_upd (fun vs z => ?_) h, fun b o w h => frz_upd (fun o w z => ?_) h, fun b fs h => xd_upd (fun fs z => ?_) h⟩
  · rw [hw] at z
    exact t1 vs (Option.some.inj z)
  · rw [hw] at z
    exact t2 o w (Option.some.inj z)
  · rw [hw] at z
    exact t3 fs (Option.some.inj z)
theorem Rh.write {n : Nat} {u : HO} {o' : O} (r : Rh K G ρ H h) (ha : ρ[n]? = some a) (ho : h[n]? = some o) (ro : Ro K G ρ (upd H a u) a o') (hd : o ≠ .dead := by nofun) : Rh K G ρ (upd H a u) (h.set n o') := by
  refine ⟨by rw [List.length_set]; exact r.len, r.inj, fun m o2 q => ?_⟩
  have hn : n < h.length := (List.getElem?_eq_some_iff.mp ho).1
  by_cases e : n = m
  · subst e
    rw [List.getElem?_set_self hn] at q
    cases q
    exact ⟨a, ha, ro⟩
  · rw [List.getElem?_set_ne e] at q
    obtain ⟨b, h1, h2⟩ := r.obj m o2 q
    refine ⟨b, h1, h2.mono (Ex.write r ha ho hd) (upd_ne fun z => ?_)⟩
    rw [z] at h1
    exact e (r.inj n m a ha h1)
theorem Rh.at_ {n : Nat} (r : Rh K G ρ H h) (ha : ρ[n]? = some a) (ho : h[n]? = some o) : Ro K G ρ H a o := by
  obtain ⟨b, h1, h2⟩ := r.obj n o ho
  rw [ha] at h1
  cases h1
  exact h2
end

/-! ### results -/
inductive R (α : Type) where
  | ok (a : α) (h : Hh) | exc (c : Nat) (fs : List D) (h : Hh) | bad
def R.bind {α β : Type} (r : R α) (f : α → Hh → R β) : R β := match r with
  | .ok a h => f a h
  | .exc c fs h => .exc c fs h
  | .bad => .bad
@[simp] theorem R.bind_ok {α β : Type} (a : α) (h : Hh) (f : α → Hh → R β) : (R.ok a h).bind f = f a h := rfl
@[simp] theorem R.bind_exc {α β : Type} (c : Nat) (fs : List D) (h : Hh) (f : α → Hh → R β) : (R.exc c fs h : R α).bind f = .exc c fs h := rfl
@[simp] theorem R.bind_bad {α β : Type} (f : α → Hh → R β) : (R.bad : R α).bind f = .bad := rfl
/-- of an option -/
def R.opt {α : Type} : Option (α × Hh) → R α
  | some (a, h) => .ok a h
  | none => .bad
@[simp] theorem R.opt_some {α : Type} (a : α) (h : Hh) : R.opt (some (a, h)) = .ok a h := rfl
@[simp] theorem R.opt_none {α : Type} : R.opt (none : Option (α × Hh)) = .bad := rfl

section
variable (K : PySem.W.Frag) (G : Cl)
/-- what a result promises -/
def Po {α β : Type} (rel : List Addr → Hp → β → α → Prop) (W : WX) (ρ : List Addr) (H : Hp) (σ : L2.St) (r : R α) (Q : β → Hp → Prop) : Prop := match r with
  | .ok d h' => ∀ ρ' H' v, Ex K ρ H ρ' H' → Rh K G ρ' H' h' → rel ρ' H' v d → Q v H'
  | .exc c fs h' => ∀ ρ' H' d, Ex K ρ H ρ' H' → Rh K G ρ' H' h' → Rx K G ρ' H' d c fs → W (.ref (G.at_ c)) d σ H'
  | .bad => False
def tG {α β : Type} (rel : List Addr → Hp → β → α → Prop) (W : WX) (m : Ev → Hh → R α) : L2.St → Hp → (β → Hp → Prop) → Prop := fun σ H Q =>
  ∃ ρ h env, Rh K G ρ H h ∧ Re K ρ H σ env ∧ Po K G rel W ρ H σ (m env h) Q
abbrev relV : List Addr → Hp → V → D → Prop := fun ρ H => Rv K ρ H
abbrev relVs : List Addr → Hp → List V → List D → Prop := fun ρ H => Rvs K ρ H
abbrev relB : List Addr → Hp → Bool → Bool → Prop := fun _ _ b c => b = c
abbrev tM (W : WX) (m : Ev → Hh → R D) : TE := tG K G (relV K) W m
abbrev tL (W : WX) (m : Ev → Hh → R (List D)) : TA := tG K G (relVs K) W m
abbrev tT (W : WX) (m : Ev → Hh → R Bool) : TT := tG K G relB W m
end
section
variable {K : PySem.W.Frag} {G : Cl} {α β γ δ : Type} {rel : List Addr → Hp → β → α → Prop} {rel2 : List Addr → Hp → δ → γ → Prop} {W : WX} {ρ ρ1 : List Addr} {H H1 : Hp} {σ : L2.St} {Q : β → Hp → Prop} {h : Hh} {env : Ev}
theorem Po.shift {r : R α} (p : Po K G rel W ρ H σ r Q) (e : Ex K ρ H ρ1 H1) : Po K G rel W ρ1 H1 σ r Q := by
  cases r with
  | ok d h' => exact fun ρ' H' v e' => p ρ' H' v (e.trans e')
  | exc c fs h' => exact fun ρ' H' d e' => p ρ' H' d (e.trans e')
  | bad => exact p
theorem Po.imp {Q' : β → Hp → Prop} {r : R α} (p : Po K G rel W ρ H σ r Q) (hq : ∀ v H, Q v H → Q' v H) : Po K G rel W ρ H σ r Q' := by
  cases r with
  | ok d h' => exact fun ρ' H' v e a b => hq _ _ (p ρ' H' v e a b)
  | exc c fs h' => exact p
  | bad => exact p
/-- where one stands behind a first step -/
def Thn (K : PySem.W.Frag) (G : Cl) (rel : List Addr → Hp → β → α → Prop) (rel2 : List Addr → Hp → δ → γ → Prop) (W : WX) (σ : L2.St) (env : Ev) (f : α → Hh → R γ) (Q : δ → Hp → Prop) (ρ : List Addr) (H : Hp) (v : β) (H1 : Hp) : Prop :=
  ∃ ρ1 h1 d, Ex K ρ H ρ1 H1 ∧ Rh K G ρ1 H1 h1 ∧ Re K ρ1 H1 σ env ∧ rel ρ1 H1 v d ∧ Po K G rel2 W ρ1 H1 σ (f d h1) Q
theorem Po.bind {r : R α} {f : α → Hh → R γ} {Q : δ → Hp → Prop} (he : Re K ρ H σ env) (p : Po K G rel2 W ρ H σ (r.bind f) Q) : Po K G rel W ρ H σ r (Thn K G rel rel2 W σ env f Q ρ H) := by
  cases r with
  | ok d h' => exact fun ρ' H' v e a b => ⟨ρ', h', d, e, a, he.mono e, b, Po.shift p e⟩
  | exc c fs h' => exact p
  | bad => exact p
theorem tG_bind {m : Ev → Hh → R α} {f : α → Hh → R γ} {Q : δ → Hp → Prop} (hr : Rh K G ρ H h) (he : Re K ρ H σ env) (p : Po K G rel2 W ρ H σ ((m env h).bind f) Q) : tG K G rel W m σ H (Thn K G rel rel2 W σ env f Q ρ H) :=
  ⟨ρ, h, env, hr, he, Po.bind he p⟩
end
/-! a reading may be replaced by a stronger one -/
theorem peImp {X : Cx} {e : Expr} {t t' : TE} (h : PE X e t) (i : ∀ σ H Q, t' σ H Q → t σ H Q) : PE X e t' := ⟨fun pins s σ H Q I q => h.run pins s σ H Q I (i σ H Q q)⟩
theorem ptImp {X : Cx} {e : Expr} {t t' : TT} (h : PT X e t) (i : ∀ σ H Q, t' σ H Q → t σ H Q) : PT X e t' := ⟨fun pins s σ H Q I q => h.run pins s σ H Q I (i σ H Q q)⟩
theorem pwImp {X : Cx} {e : Expr} {t t' : TT} (h : PW X e t) (i : ∀ σ H Q, t' σ H Q → t σ H Q) : PW X e t' := ⟨fun wh pins s σ H Q I q => h.run wh pins s σ H Q I (i σ H Q q)⟩
theorem paImp {X : Cx} {e : List Expr} {t t' : TA} (h : PA X e t) (i : ∀ σ H Q, t' σ H Q → t σ H Q) : PA X e t' := ⟨fun pos pins s σ H Q I q => h.run pos pins s σ H Q I (i σ H Q q)⟩
theorem psImp {X : Cx} {e : Stmt} {t t' : TS} (h : PS X e t) (i : ∀ D σ H, t' D σ H → t D σ H) : PS X e t' := ⟨fun pins s σ H D I q => h.run pins s σ H D I (i D σ H q)⟩
theorem pssImp {X : Cx} {e : List Stmt} {t t' : TS} (h : PSs X e t) (i : ∀ D σ H, t' D σ H → t D σ H) : PSs X e t' := ⟨fun pins s σ H D I q => h.run pins s σ H D I (i D σ H q)⟩
end Sm
/-! SmB: expressions. -/
namespace Sm
open PySem L2 PyProof.Rows

abbrev M := Ev → Hh → R D
section
variable {K : PySem.W.Frag} {G : Cl} {α β γ δ : Type} {rel : List Addr → Hp → β → α → Prop} {W : WX} {ρ ρ1 : List Addr} {H H1 : Hp} {σ : L2.St} {h : Hh} {env : Ev}
theorem tG_mono {m : Ev → Hh → R α} {Q Q' : β → Hp → Prop} (t : tG K G rel W m σ H Q) (hq : ∀ v H, Q v H → Q' v H) : tG K G rel W m σ H Q' := by
  obtain ⟨ρ, h, env, hr, he, p⟩ := t
  exact ⟨ρ, h, env, hr, he, p.imp hq⟩
theorem Po.ok {d : α} {Q : β → Hp → Prop} {v : β} (p : Po K G rel W ρ H σ (.ok d h) Q) (hr : Rh K G ρ H h) (r : rel ρ H v d) : Q v H := p ρ H v Ex.refl hr r
/-- an option's promise, once it is known -/
theorem Po.opt {o : Option (α × Hh)} {Q : β → Hp → Prop} (p : Po K G rel W ρ H σ (R.opt o) Q) : ∃ d h', o = some (d, h') ∧ ∀ ρ' H' v, Ex K ρ H ρ' H' → Rh K G ρ' H' h' → rel ρ' H' v d → Q v H' := by
  cases o with
  | none => exact p.elim
  | some q => exact ⟨q.1, q.2, rfl, p⟩
/-- the frame: known to be known -/
theorem tG_intro {m : Ev → Hh → R α} {Q : β → Hp → Prop} (hr : Rh K G ρ H h) (he : Re K ρ H σ env) (p : Po K G rel W ρ H σ (m env h) Q) : tG K G rel W m σ H Q := ⟨ρ, h, env, hr, he, p⟩
end

/-! ### names, constants -/
def eV (i : Nat) : M := fun env h => match env[i]? with
  | some (some d) => .ok d h
  | _ => .bad
def eC (d : D) : M := fun _ h => .ok d h
section
variable {X : Cx} {G : Cl} {W : WX} {e a b c : Expr} {es : List Expr} {pos : Pos}
theorem se_varP {i : Nat} (hp : PE X e (tVar i)) : PE X e (tM X.K G W (eV i)) := peImp hp fun σ H Q t => by
  obtain ⟨ρ, h, env, hr, he, p⟩ := t
  unfold eV at p
  cases q : env[i]? with
  | none => rw [q] at p; exact p.elim
  | some o =>
    cases o with
    | none => rw [q] at p; exact p.elim
    | some d =>
      rw [q] at p
      obtain ⟨v, h1, h2⟩ := he.get i d q
      exact ⟨v, h1, p.ok hr h2⟩
theorem se_var (i : Nat) {x : Str} (hN : X.N[i]? = some x := by rfl) (hv : Vis X.env.scope x := by first | exact Or.inl rfl | exact Or.inr (Or.inl rfl) | exact Or.inr (Or.inr rfl)) (hd : (x == ("__debug__" : Str)) = false := by decide)
    (hcd : (x == ("__classdict__" : Str)) = false := by decide) : PE X (.Name x pos) (tM X.K G W (eV i)) := se_varP (pe_var hN hv hd hcd)
theorem se_c {v : V} {d : D} (hp : PE X e (tC v)) (r : ∀ ρ H, Rv X.K ρ H v d) : PE X e (tM X.K G W (eC d)) := peImp hp fun σ H Q t => by
  obtain ⟨ρ, h, env, hr, he, p⟩ := t
  exact p.ok hr (r ρ H)
theorem se_int {i : Int} {j} : PE X (.Constant (.int i) j pos) (tM X.K G W (eC (.int i))) := se_c pe_int fun _ _ => .int i
theorem se_bl {b : Bool} {j} : PE X (.Constant (.bool b) j pos) (tM X.K G W (eC (.bl b))) := se_c pe_bl fun _ _ => .bl b
theorem se_non {j} : PE X (.Constant .none j pos) (tM X.K G W (eC .non)) := se_c pe_non fun _ _ => .non
theorem se_str {x : Str} {j} : PE X (.Constant (.str x) j pos) (tM X.K G W (eC (.str x))) := se_c pe_str fun _ _ => .str x
/-- a module's constant -/
theorem se_globI {x : Str} {i : Int} {u : Tok} (hg : Gl X x) (hm : X.mg x = some (.int i u)) (hd : (x == ("__debug__" : Str)) = false := by decide) : PE X (.Name x pos) (tM X.K G W (eC (.int i))) :=
  se_c (v := .int i) (pe_glob hg hm ⟨u, rfl⟩ hd) fun _ _ => .int i
theorem se_globS {x y : Str} {u : Tok} (hg : Gl X x) (hm : X.mg x = some (.str y u)) (hd : (x == ("__debug__" : Str)) = false := by decide) : PE X (.Name x pos) (tM X.K G W (eC (.str y))) :=
  se_c (v := .str y) (pe_glob hg hm ⟨u, rfl⟩ hd) fun _ _ => .str y
end

/-! ### one, two operands -/
def eU (f : D → Hh → Option (D × Hh)) (ma : M) : M := fun env h => (ma env h).bind fun x h1 => R.opt (f x h1)
def eB (f : D → D → Hh → Option (D × Hh)) (ma mb : M) : M := fun env h => (ma env h).bind fun x h1 => (mb env h1).bind fun y h2 => R.opt (f x y h2)
def Imp1 (K : PySem.W.Frag) (G : Cl) (r : V → Hp → VK → Prop) (f : D → Hh → Option (D × Hh)) : Prop := ∀ {ρ : List Addr} {H : Hp} {h : Hh} {x : V} {dx d : D} {h' : Hh} {Q : VK}, Rh K G ρ H h → Rv K ρ H x dx → f dx h = some (d, h') →
  (∀ ρ' H' v, Ex K ρ H ρ' H' → Rh K G ρ' H' h' → Rv K ρ' H' v d → Q v H') → r x H Q
def Imp2 (K : PySem.W.Frag) (G : Cl) (r : R2) (f : D → D → Hh → Option (D × Hh)) : Prop := ∀ {ρ : List Addr} {H : Hp} {h : Hh} {x y : V} {dx dy d : D} {h' : Hh} {Q : VK}, Rh K G ρ H h → Rv K ρ H x dx → Rv K ρ H y dy → f dx dy h = some (d, h') →
  (∀ ρ' H' v, Ex K ρ H ρ' H' → Rh K G ρ' H' h' → Rv K ρ' H' v d → Q v H') → r x y H Q
section
variable {X : Cx} {G : Cl} {W : WX} {e a b c : Expr} {es : List Expr} {pos : Pos} {ma mb : M}
theorem un_imp {r : V → Hp → VK → Prop} {f : D → Hh → Option (D × Hh)} (i : Imp1 X.K G r f) (σ : L2.St) (H : Hp) (Q : VK) (t : tM X.K G W (eU f ma) σ H Q) : tUn r (tM X.K G W ma) σ H Q := by
  obtain ⟨ρ, h, env, hr, he, p⟩ := t
  refine tG_mono (tG_bind (rel := relV X.K) hr he p) fun x H1 ⟨ρ1, h1, d, e1, hr1, he1, r1, p1⟩ => ?_
  obtain ⟨d2, h2, eq, k⟩ := p1.opt
  exact i hr1 r1 eq k
theorem bin_imp {r : R2} {f : D → D → Hh → Option (D × Hh)} (i : Imp2 X.K G r f) (σ : L2.St) (H : Hp) (Q : VK) (t : tM X.K G W (eB f ma mb) σ H Q) : tOp r (tM X.K G W ma) (tM X.K G W mb) σ H Q := by
  obtain ⟨ρ, h, env, hr, he, p⟩ := t
  refine tG_mono (tG_bind (rel := relV X.K) hr he p) fun x H1 ⟨ρ1, h1, d, e1, hr1, he1, r1, p1⟩ => ?_
  refine tG_mono (tG_bind (rel := relV X.K) hr1 he1 p1) fun y H2 ⟨ρ2, h2, d2, e2, hr2, he2, r2, p2⟩ => ?_
  obtain ⟨d3, h3, eq, k⟩ := p2.opt
  exact i hr2 (r1.mono e2) r2 eq k
theorem se_bin {op : Operator} {r : R2} {f : D → D → Hh → Option (D × Hh)} (ho : OpR X (binaryOp op) r) (i : Imp2 X.K G r f) (ha : PE X a (tM X.K G W ma)) (hb : PE X b (tM X.K G W mb)) : PE X (.BinOp a op b pos) (tM X.K G W (eB f ma mb)) :=
  peImp (pe_op ho ha hb) fun σ H Q t => bin_imp i σ H Q t
theorem se_un {op : UnaryOp} {r : V → Hp → VK → Prop} {f : D → Hh → Option (D × Hh)} (ho : UnR X (unaryOp op) r) (i : Imp1 X.K G r f) (ha : PE X a (tM X.K G W ma)) : PE X (.UnaryOp op a pos) (tM X.K G W (eU f ma)) :=
  peImp (pe_un ho ha) fun σ H Q t => un_imp i σ H Q t
theorem se_cmp {op : CmpOp} {r : R2} {f : D → D → Hh → Option (D × Hh)} (ho : OpR X (compareOp op) r) (i : Imp2 X.K G r f) (ha : PE X a (tM X.K G W ma)) (hb : PE X b (tM X.K G W mb)) (hm : behindInMarks op b = false) : PE X (.Compare a [op] [b] pos) (tM X.K G W (eB f ma mb)) :=
  peImp (pe_cmpR ho ha hb hm) fun σ H Q t => bin_imp i σ H Q t
theorem Imp2.or1 {K : PySem.W.Frag} {r r' : R2} {f : D → D → Hh → Option (D × Hh)} (i : Imp2 K G r f) : Imp2 K G (fun x y H Q => r x y H Q ∨ r' x y H Q) f := fun hr rx ry e k => .inl (i hr rx ry e k)
end

/-! ### arithmetic -/
def opAdd : D → D → Hh → Option (D × Hh)
  | .int i, .int j, h => some (.int (i + j), h)
  | .int i, .bl k, h => some (.int (i + b2i k), h)
  | .str x, .str y, h => if x.length + y.length ≤ sizeLine then some (.str (x ++ y), h) else none
  | .tup xs, .tup ys, h => if xs.length + ys.length ≤ sizeLine then some (.tup (xs ++ ys), h) else none
  | .ref m, .ref n, h => match h[m]?, h[n]? with
    | some (.lst xs), some (.lst ys) => if xs.length + ys.length ≤ sizeLine then some (.ref h.length, h ++ [.lst (xs ++ ys)]) else none
    | _, _ => none
  | .fls xs, .fls ys, h => if xs.length + ys.length ≤ sizeLine then some (.ref h.length, h ++ [.lst (xs ++ ys)]) else none
  | .fls xs, .ref n, h => match h[n]? with
    | some (.lst ys) => if xs.length + ys.length ≤ sizeLine then some (.ref h.length, h ++ [.lst (xs ++ ys)]) else none
    | _ => none
  | .ref m, .fls ys, h => match h[m]? with
    | some (.lst xs) => if xs.length + ys.length ≤ sizeLine then some (.ref h.length, h ++ [.lst (xs ++ ys)]) else none
    | _ => none
  | _, _, _ => none
def opSub : D → D → Hh → Option (D × Hh)
  | .int i, .int j, h => some (.int (i - j), h)
  | _, _, _ => none
def mulOk (i j : Int) : Bool := (decide (-18446744073709551616 < i) && decide (i < 18446744073709551616)) || (decide (-18446744073709551616 < j) && decide (j < 18446744073709551616))
theorem mulOk_of {i j : Int} (h : mulOk i j = true) : CMul i j := by
  unfold mulOk at h
  simp only [Bool.or_eq_true, Bool.and_eq_true, decide_eq_true_eq] at h
  exact h
def opMul : D → D → Hh → Option (D × Hh)
  | .int i, .int j, h => if mulOk i j = true then some (.int (i * j), h) else none
  | _, _, _ => none
def opMod : D → D → Hh → Option (D × Hh)
  | .int i, .int j, h => if 0 < j then some (.int (i % j), h) else none
  | _, _, _ => none
def opFdiv : D → D → Hh → Option (D × Hh)
  | .int i, .int j, h => if 0 < j ∧ j < 1073741824 then some (.int (i / j), h) else none
  | _, _, _ => none
def opPow : D → D → Hh → Option (D × Hh)
  | .int i, .int j, h => if 0 ≤ j ∧ j ≤ 1000000 ∧ i.natAbs < 18446744073709551616 then some (.int (i ^ j.toNat), h) else none
  | _, _, _ => none
def opNeg : D → Hh → Option (D × Hh)
  | .int i, h => some (.int (-i), h)
  | _, _ => none
section
variable {X : Cx} {G : Cl} {W : WX} {e a b c : Expr} {es : List Expr} {pos : Pos} {ma mb : M} {K : PySem.W.Frag}
theorem im_sub : Imp2 K G (rI0 fun i j => .int (i - j)) opSub := fun {ρ H h x y dx dy d h' Q} hr rx ry e k => by
  cases rx <;> cases ry <;> simp only [opSub] at e <;> cases e
  exact ⟨_, _, rfl, rfl, k _ _ _ Ex.refl hr (.int _)⟩
theorem im_mul : Imp2 K G (rI CMul fun i j => .int (i * j)) opMul := fun {ρ H h x y dx dy d h' Q} hr rx ry e k => by
  cases rx <;> cases ry <;> simp only [opMul] at e <;> first | (cases e; done) | skip
  split at e
  · rename_i q
    cases e
    exact ⟨_, _, rfl, rfl, mulOk_of q, k _ _ _ Ex.refl hr (.int _)⟩
  · cases e
theorem im_mod : Imp2 K G (rI (fun _ j => 0 < j) fun i j => .int (i % j)) opMod := fun {ρ H h x y dx dy d h' Q} hr rx ry e k => by
  cases rx <;> cases ry <;> simp only [opMod] at e <;> first | (cases e; done) | skip
  split at e
  · rename_i q
    cases e
    exact ⟨_, _, rfl, rfl, q, k _ _ _ Ex.refl hr (.int _)⟩
  · cases e
theorem im_fdiv : Imp2 K G (rI CDiv fun i j => .int (i / j)) opFdiv := fun {ρ H h x y dx dy d h' Q} hr rx ry e k => by
  cases rx <;> cases ry <;> simp only [opFdiv] at e <;> first | (cases e; done) | skip
  split at e
  · rename_i q
    cases e
    exact ⟨_, _, rfl, rfl, q, k _ _ _ Ex.refl hr (.int _)⟩
  · cases e
theorem im_pow : Imp2 K G (rI CPow fun i j => .int (i ^ j.toNat)) opPow := fun {ρ H h x y dx dy d h' Q} hr rx ry e k => by
  cases rx <;> cases ry <;> simp only [opPow] at e <;> first | (cases e; done) | skip
  split at e
  · rename_i q
    cases e
    exact ⟨_, _, rfl, rfl, q, k _ _ _ Ex.refl hr (.int _)⟩
  · cases e
theorem im_neg : Imp1 K G (rU fun i => .int (-i)) opNeg := fun {ρ H h x dx d h' Q} hr rx e k => by
  cases rx <;> simp only [opNeg] at e <;> cases e
  exact ⟨_, rfl, k _ _ _ Ex.refl hr (.int _)⟩
/-- a new tuple -/
theorem new_tup {ρ : List Addr} {H : Hp} {h : Hh} {vs : List V} {ds : List D} {Q : VK} (hr : Rh K G ρ H h) (rs : Rvs K ρ H vs ds) (k : ∀ ρ' H' v, Ex K ρ H ρ' H' → Rh K G ρ' H' h → Rv K ρ' H' v (.tup ds) → Q v H') :
    ∀ p, H p = none → Q (.ref p) (upd H p (.tup vs)) := fun p n => k ρ _ _ (Ex.fresh n) (hr.aux n) (.tup upd_same (rs.mono (Ex.fresh n)))
/-- a new list -/
theorem new_lst {ρ : List Addr} {H : Hp} {h : Hh} {vs : List V} {ds : List D} {Q : VK} (hr : Rh K G ρ H h) (rs : Rvs K ρ H vs ds) (k : ∀ ρ' H' v, Ex K ρ H ρ' H' → Rh K G ρ' H' (h ++ [.lst ds]) → Rv K ρ' H' v (.ref h.length) → Q v H') :
    ∀ p, H p = none → Q (.ref p) (upd H p (.lst vs)) := fun p n => k (ρ ++ [p]) _ _ (Ex.push n) (hr.new n (.lst upd_same (rs.mono (Ex.push n)))) (.ref (by rw [← hr.len]; exact get_push_eq))
theorem ref_lst {ρ : List Addr} {H : Hp} {h : Hh} {n : Nat} {a : Addr} {ds : List D} (hr : Rh K G ρ H h) (ra : ρ[n]? = some a) (e : h[n]? = some (.lst ds)) : ∃ vs, H a = some (.lst vs) ∧ Rvs K ρ H vs ds := by
  have q := hr.at_ ra e
  cases q with
  | lst q r => exact ⟨_, q, r⟩
/-- a list that is read -/
theorem ref_seq {ρ : List Addr} {H : Hp} {h : Hh} {n : Nat} {a : Addr} {ds : List D} (hr : Rh K G ρ H h) (ra : ρ[n]? = some a) (e : h[n]? = some (.lst ds)) : ∃ vs, SqL K H a vs ∧ Rvs K ρ H vs ds := by
  obtain ⟨vs, q, r⟩ := ref_lst hr ra e
  exact ⟨vs, SqL.of q, r⟩
/-- two lists, tracked or frozen -/
def rCatS (K : PySem.W.Frag) : R2 := fun x y H Q => ∃ l b xs zs, x = .ref l ∧ y = .ref b ∧ SqL K H l xs ∧ SqL K H b zs ∧ xs.length + zs.length ≤ sizeLine ∧ ∀ p, H p = none → Q (.ref p) (upd H p (.lst (xs ++ zs)))
theorem op_catS : OpR X (binaryOp .Add) (rCatS X.K) := by
  intro pins s σ H x y v u Q I rx ry h
  obtain ⟨l, b, xs, zs, rfl, rfl, hH, hB, hz, q⟩ := h
  cases rx
  cases ry
  obtain ⟨its, r, pl, hl⟩ := I.list hH
  obtain ⟨its2, r2, pl2, hl2⟩ := I.list hB
  obtain ⟨⟨cls, dd, data, sl⟩, ho, hc, n, hd⟩ := pl.isList
  obtain ⟨⟨cls2, dd2, data2, sl2⟩, ho2, hc2, n2, hd2⟩ := pl2.isList
  simp only at hc hd hc2 hd2
  subst hc hd hc2 hd2
  have ea : its.toArray ++ its2.toArray = (its ++ its2).toArray := by simp
  refine concat_meets ⟨_, ho, rfl⟩ ⟨_, ho2, rfl⟩ noFill_list_add seq_list_add PySem.F.slot_list_add PySem.F.entry_list_add (PySem.F.args_list_add_2 _ _) (list_addW l b its.toArray its2.toArray n n2 dd dd2 sl sl2 (by have := r.length; have := r2.length; simp; omega)) ⟨ho, ho2, ?_⟩
  rw [ea]
  exact ⟨.ref _, _, I.lnew (t' := s.toks) (r.append r2) (by rw [List.length_append]; omega), rfl, q _ I.fresh⟩
abbrev rAddAll (K : PySem.W.Frag) : R2 := fun x y H Q => (rI0 (fun i j => .int (i + j)) x y H Q ∨ (∃ i k, x = .int i ∧ y = .bl k ∧ Q (.int (i + b2i k)) H)) ∨
  ((∃ i j, x = .str i ∧ y = .str j ∧ i.length + j.length ≤ sizeLine ∧ Q (.str (i ++ j)) H) ∨ (rCatA K x y H Q ∨ rCatS K x y H Q))
theorem op_addAll : OpR X (binaryOp .Add) (rAddAll X.K) := (op_add.or op_add_ib).or (op_add_str.or (op_catA.or op_catS))
theorem im_add : Imp2 K G (rAddAll K) opAdd := fun {ρ H h x y dx dy d h' Q} hr rx ry e k => by
  unfold opAdd at e
  split at e
  · cases e; cases rx; cases ry
    exact .inl (.inl ⟨_, _, rfl, rfl, k _ _ _ Ex.refl hr (.int _)⟩)
  · cases e; cases rx; cases ry
    exact .inl (.inr ⟨_, _, rfl, rfl, k _ _ _ Ex.refl hr (.int _)⟩)
  · split at e
    · cases e; cases rx; cases ry
      exact .inr (.inl ⟨_, _, rfl, rfl, by assumption, k _ _ _ Ex.refl hr (.str _)⟩)
    · cases e
  · split at e
    · rename_i ds ds2 hl
      cases e
      obtain ⟨a, vs, rfl, t, r⟩ := rx.sqT
      obtain ⟨a2, vs2, rfl, t2, r2⟩ := ry.sqT
      refine .inr (.inr (.inl ⟨a, a2, vs, vs2, rfl, rfl, t, t2, by rw [r.length, r2.length]; exact hl, fun z => ?_, fun z1 z2 => ?_, fun z1 z2 => ?_⟩))
      · subst z
        cases r
        exact k _ _ _ Ex.refl hr ry
      · subst z2
        cases r2
        rw [List.append_nil] at k
        exact k _ _ _ Ex.refl hr rx
      · exact new_tup hr (r.append r2) k
    · cases e
  · rename_i m n
    cases rx with
    | ref ra =>
      cases ry with
      | ref ra2 =>
        rename_i a a2
        split at e
        · rename_i xs ys e1 e2
          split at e
          · rename_i hl
            cases e
            obtain ⟨vs, q1, r1⟩ := ref_seq hr ra e1
            obtain ⟨vs2, q2, r2⟩ := ref_seq hr ra2 e2
            exact .inr (.inr (.inr ⟨a, a2, vs, vs2, rfl, rfl, q1, q2, by rw [r1.length, r2.length]; exact hl, new_lst hr (r1.append r2) k⟩))
          · cases e
        · cases e
  · split at e
    · rename_i hl
      cases e
      cases rx with
      | fls t1 r1 =>
        cases ry with
        | fls t2 r2 => exact .inr (.inr (.inr ⟨_, _, _, _, rfl, rfl, t1.sq, t2.sq, by rw [r1.length, r2.length]; exact hl, new_lst hr (r1.append r2) k⟩))
    · cases e
  · cases rx with
    | fls t1 r1 =>
      cases ry with
      | ref ra2 =>
        split at e
        · rename_i ys e2
          split at e
          · rename_i hl
            cases e
            obtain ⟨vs2, q2, r2⟩ := ref_seq hr ra2 e2
            exact .inr (.inr (.inr ⟨_, _, _, _, rfl, rfl, t1.sq, q2, by rw [r1.length, r2.length]; exact hl, new_lst hr (r1.append r2) k⟩))
          · cases e
        · cases e
  · cases rx with
    | ref ra =>
      cases ry with
      | fls t2 r2 =>
        split at e
        · rename_i xs e1
          split at e
          · rename_i hl
            cases e
            obtain ⟨vs, q1, r1⟩ := ref_seq hr ra e1
            exact .inr (.inr (.inr ⟨_, _, _, _, rfl, rfl, q1, t2.sq, by rw [r1.length, r2.length]; exact hl, new_lst hr (r1.append r2) k⟩))
          · cases e
        · cases e
  · cases e
theorem se_add (ha : PE X a (tM X.K G W ma)) (hb : PE X b (tM X.K G W mb)) : PE X (.BinOp a .Add b pos) (tM X.K G W (eB opAdd ma mb)) := se_bin op_addAll im_add ha hb
theorem se_sub (ha : PE X a (tM X.K G W ma)) (hb : PE X b (tM X.K G W mb)) : PE X (.BinOp a .Sub b pos) (tM X.K G W (eB opSub ma mb)) := se_bin op_sub im_sub ha hb
theorem se_mul (ha : PE X a (tM X.K G W ma)) (hb : PE X b (tM X.K G W mb)) : PE X (.BinOp a .Mult b pos) (tM X.K G W (eB opMul ma mb)) := se_bin op_mul im_mul ha hb
theorem se_mod (ha : PE X a (tM X.K G W ma)) (hb : PE X b (tM X.K G W mb)) : PE X (.BinOp a .Mod b pos) (tM X.K G W (eB opMod ma mb)) := se_bin op_mod im_mod ha hb
theorem se_fdiv (ha : PE X a (tM X.K G W ma)) (hb : PE X b (tM X.K G W mb)) : PE X (.BinOp a .FloorDiv b pos) (tM X.K G W (eB opFdiv ma mb)) := se_bin op_fdiv im_fdiv ha hb
theorem se_pow (ha : PE X a (tM X.K G W ma)) (hb : PE X b (tM X.K G W mb)) : PE X (.BinOp a .Pow b pos) (tM X.K G W (eB opPow ma mb)) := se_bin op_pow im_pow ha hb
theorem se_neg (ha : PE X a (tM X.K G W ma)) : PE X (.UnaryOp .USub a pos) (tM X.K G W (eU opNeg ma)) := se_un un_neg im_neg ha
end

/-! ### comparisons -/
/-- data with its lists, read off the plain heap -/
def toP (h : Hh) : Nat → D → Option PyData
  | 0, _ => none
  | _ + 1, .non => some .none
  | _ + 1, .bl b => some (.bool b)
  | _ + 1, .int i => some (.int i)
  | _ + 1, .str x => some (.str x)
  | k + 1, .tup ds => (ds.mapM (toP h k)).map PyData.tuple
  | k + 1, .fls ds => (ds.mapM (toP h k)).map PyData.list
  | k + 1, .ref n => match h[n]? with
    | some (.lst ds) => (ds.mapM (toP h k)).map PyData.list
    | _ => none
def eqP (h : Hh) (x y : D) : Option Bool := match toP h 60 x, toP h 60 y with
  | some a, some b => if SeqAt.shaped a = true ∧ SeqAt.shaped b = true then some (PyData.eqv a b) else none
  | _, _ => none
def opEqB : D → D → Hh → Option Bool
  | .int i, .int j, _ => some (decide (i = j))
  | .str i, .str j, _ => some (decide (i = j))
  | .bl i, .bl j, _ => some (decide (i = j))
  | .non, .non, _ => some true
  | x, y, h => eqP h x y
def opEq (x y : D) (h : Hh) : Option (D × Hh) := (opEqB x y h).map fun b => (.bl b, h)
def opNe (x y : D) (h : Hh) : Option (D × Hh) := (opEqB x y h).map fun b => (.bl (!b), h)
/-- the ints of a tuple -/
def intsOf : List D → Option (List Int)
  | [] => some []
  | .int i :: r => (intsOf r).map (i :: ·)
  | _ :: _ => none
def opLt : D → D → Hh → Option (D × Hh)
  | .int i, .int j, h => some (.bl (decide (i < j)), h)
  | .str i, .str j, h => some (.bl (decide (i.cps.toList < j.cps.toList)), h)
  | .tup xs, .tup ys, h => match intsOf xs, intsOf ys with
    | some ns, some ms => some (.bl (HT.lexLt ns ms), h)
    | _, _ => none
  | _, _, _ => none
def opLe : D → D → Hh → Option (D × Hh)
  | .int i, .int j, h => some (.bl (decide (i ≤ j)), h)
  | _, _, _ => none
def opGt : D → D → Hh → Option (D × Hh)
  | .int i, .int j, h => some (.bl (decide (j < i)), h)
  | _, _, _ => none
def opGe : D → D → Hh → Option (D × Hh)
  | .int i, .int j, h => some (.bl (decide (j ≤ i)), h)
  | _, _, _ => none
section
variable {X : Cx} {G : Cl} {W : WX} {e a b c : Expr} {es : List Expr} {pos : Pos} {ma mb : M} {K : PySem.W.Frag} {ρ : List Addr} {H : Hp} {h : Hh}
theorem intsOf_eq : ∀ {ds : List D} {ns : List Int}, intsOf ds = some ns → ds = ns.map D.int
  | [], ns, e => by simp [intsOf] at e; subst e; rfl
  | .int i :: r, ns, e => by
    simp only [intsOf, Option.map_eq_some_iff] at e
    obtain ⟨ms, e1, e2⟩ := e
    subst e2
    rw [intsOf_eq e1]
    rfl
  | .non :: _, _, e => by simp [intsOf] at e
  | .bl _ :: _, _, e => by simp [intsOf] at e
  | .str _ :: _, _, e => by simp [intsOf] at e
  | .tup _ :: _, _, e => by simp [intsOf] at e
  | .fls _ :: _, _, e => by simp [intsOf] at e
  | .ref _ :: _, _, e => by simp [intsOf] at e
theorem dpAll_of {f : D → Option PyData} (ih : ∀ d v p, Rv K ρ H v d → f d = some p → Dp K H v p) : ∀ {ds : List D} {vs : List V} {ps : List PyData}, Rvs K ρ H vs ds → ds.mapM f = some ps → DpAll K H vs ps
  | [], vs, ps, r, e => by
    cases r
    simp at e
    subst e
    exact .nil
  | d :: ds, vs, ps, r, e => by
    cases r with
    | cons r rs =>
      simp only [List.mapM_cons, Option.bind_eq_bind, Option.bind_eq_some_iff, Option.pure_def, Option.some.injEq] at e
      obtain ⟨p, e1, qs, e2, e3⟩ := e
      subst e3
      exact .cons (ih _ _ _ r e1) (dpAll_of ih rs e2)
theorem toP_dp (hr : Rh K G ρ H h) : ∀ (k : Nat) (d : D) (v : V) (p : PyData), Rv K ρ H v d → toP h k d = some p → Dp K H v p
  | 0, _, _, _, _, e => by simp [toP] at e
  | k + 1, .non, _, _, r, e => by cases r; simp [toP] at e; subst e; exact .non
  | k + 1, .bl b, _, _, r, e => by cases r; simp [toP] at e; subst e; exact .bl b
  | k + 1, .int i, _, _, r, e => by cases r; simp [toP] at e; subst e; exact .int i
  | k + 1, .str x, _, _, r, e => by cases r; simp [toP] at e; subst e; exact .str x
  | k + 1, .tup ds, _, _, r, e => by
    obtain ⟨a, vs, rfl, t, r⟩ := r.sqT
    simp only [toP, Option.map_eq_some_iff] at e
    obtain ⟨ps, e1, e2⟩ := e
    subst e2
    exact .tup t (dpAll_of (fun d v p => toP_dp hr k d v p) r e1)
  | k + 1, .fls ds, _, _, r, e => by
    cases r with
    | fls t r =>
      simp only [toP, Option.map_eq_some_iff] at e
      obtain ⟨ps, e1, e2⟩ := e
      subst e2
      exact .lst t.sq (dpAll_of (fun d v p => toP_dp hr k d v p) r e1)
  | k + 1, .ref n, _, _, r, e => by
    cases r with
    | ref ra =>
      simp only [toP] at e
      split at e
      · rename_i ds e0
        simp only [Option.map_eq_some_iff] at e
        obtain ⟨ps, e1, e2⟩ := e
        subst e2
        obtain ⟨vs, q, r⟩ := ref_seq hr ra e0
        exact .lst q (dpAll_of (fun d v p => toP_dp hr k d v p) r e1)
      · cases e
abbrev rEqAll (K : PySem.W.Frag) : R2 := fun x y H Q => rEq x y H Q ∨ rEqD K x y H Q
abbrev rNeAll (K : PySem.W.Frag) : R2 := fun x y H Q => rNe x y H Q ∨ rNeD K x y H Q
theorem eqB_cases {x y : V} {dx dy : D} {k : Bool} (hr : Rh K G ρ H h) (rx : Rv K ρ H x dx) (ry : Rv K ρ H y dy) (e : opEqB dx dy h = some k) :
    (scal x y = true ∧ k = decide (x = y)) ∨ ∃ p q, Dp K H x p ∧ Dp K H y q ∧ SeqAt.shaped p = true ∧ SeqAt.shaped q = true ∧ k = PyData.eqv p q := by
  have gen : eqP h dx dy = some k → ∃ p q, Dp K H x p ∧ Dp K H y q ∧ SeqAt.shaped p = true ∧ SeqAt.shaped q = true ∧ k = PyData.eqv p q := fun e => by
    unfold eqP at e
    split at e
    · rename_i p q e1 e2
      split at e
      · rename_i hs
        cases e
        exact ⟨p, q, toP_dp hr _ _ _ _ rx e1, toP_dp hr _ _ _ _ ry e2, hs.1, hs.2, rfl⟩
      · cases e
    · cases e
  unfold opEqB at e
  split at e
  · cases e; cases rx; cases ry; exact .inl ⟨rfl, by simp⟩
  · cases e; cases rx; cases ry; exact .inl ⟨rfl, by simp⟩
  · cases e; cases rx; cases ry; exact .inl ⟨rfl, by simp⟩
  · cases e; cases rx; cases ry; exact .inl ⟨rfl, by simp⟩
  · exact .inr (gen e)
theorem im_eq : Imp2 K G (rEqAll K) opEq := fun {ρ H h x y dx dy d h' Q} hr rx ry e k => by
  simp only [opEq, Option.map_eq_some_iff, Prod.mk.injEq] at e
  obtain ⟨b, e, e1, e2⟩ := e
  subst e1 e2
  rcases eqB_cases hr rx ry e with ⟨s, q⟩ | ⟨p, q, h1, h2, h3, h4, h5⟩
  · subst q
    exact .inl ⟨s, k _ _ _ Ex.refl hr (.bl _)⟩
  · subst h5
    exact .inr ⟨p, q, h1, h2, h3, h4, k _ _ _ Ex.refl hr (.bl _)⟩
theorem im_ne : Imp2 K G (rNeAll K) opNe := fun {ρ H h x y dx dy d h' Q} hr rx ry e k => by
  simp only [opNe, Option.map_eq_some_iff, Prod.mk.injEq] at e
  obtain ⟨b, e, e1, e2⟩ := e
  subst e1 e2
  rcases eqB_cases hr rx ry e with ⟨s, q⟩ | ⟨p, q, h1, h2, h3, h4, h5⟩
  · subst q
    exact .inl ⟨s, k _ _ _ Ex.refl hr (.bl _)⟩
  · subst h5
    exact .inr ⟨p, q, h1, h2, h3, h4, k _ _ _ Ex.refl hr (.bl _)⟩
abbrev rLtAll (K : PySem.W.Frag) : R2 := fun x y H Q => rI0 (fun i j => .bl (decide (i < j))) x y H Q ∨ ((∃ i j, x = .str i ∧ y = .str j ∧ Q (.bl (decide (i.cps.toList < j.cps.toList))) H) ∨ rLtT K x y H Q)
theorem op_ltAll (hu : X.A.units < cLine) : OpR X (compareOp .Lt) (rLtAll X.K) := op_lt.or (op_lt_str.or (op_ltT hu))
theorem im_lt : Imp2 K G (rLtAll K) opLt := fun {ρ H h x y dx dy d h' Q} hr rx ry e k => by
  unfold opLt at e
  split at e
  · cases e; cases rx; cases ry
    exact .inl ⟨_, _, rfl, rfl, k _ _ _ Ex.refl hr (.bl _)⟩
  · cases e; cases rx; cases ry
    exact .inr (.inl ⟨_, _, rfl, rfl, k _ _ _ Ex.refl hr (.bl _)⟩)
  · split at e
    · rename_i ns ms e1 e2
      cases e
      have z1 := intsOf_eq e1
      have z2 := intsOf_eq e2
      subst z1 z2
      obtain ⟨a, vs, rfl, t, r⟩ := rx.sqT
      obtain ⟨a2, vs2, rfl, t2, r2⟩ := ry.sqT
      have y1 := r.ints
      have y2 := r2.ints
      subst y1 y2
      exact .inr (.inr ⟨a, a2, ns, ms, rfl, rfl, t, t2, k _ _ _ Ex.refl hr (.bl _)⟩)
    · cases e
  · cases e
theorem im_le : Imp2 K G (rI0 fun i j => .bl (decide (i ≤ j))) opLe := fun {ρ H h x y dx dy d h' Q} hr rx ry e k => by
  cases rx <;> cases ry <;> simp only [opLe] at e <;> cases e
  exact ⟨_, _, rfl, rfl, k _ _ _ Ex.refl hr (.bl _)⟩
theorem im_gt : Imp2 K G (rI0 fun i j => .bl (decide (j < i))) opGt := fun {ρ H h x y dx dy d h' Q} hr rx ry e k => by
  cases rx <;> cases ry <;> simp only [opGt] at e <;> cases e
  exact ⟨_, _, rfl, rfl, k _ _ _ Ex.refl hr (.bl _)⟩
theorem im_ge : Imp2 K G (rI0 fun i j => .bl (decide (j ≤ i))) opGe := fun {ρ H h x y dx dy d h' Q} hr rx ry e k => by
  cases rx <;> cases ry <;> simp only [opGe] at e <;> cases e
  exact ⟨_, _, rfl, rfl, k _ _ _ Ex.refl hr (.bl _)⟩
theorem se_eq (hu : X.A.units + 64 < cLine) (ha : PE X a (tM X.K G W ma)) (hb : PE X b (tM X.K G W mb)) : PE X (.Compare a [.Eq] [b] pos) (tM X.K G W (eB opEq ma mb)) := se_cmp (op_eq.or (op_eqD hu)) im_eq ha hb (nomark _)
theorem se_ne (hu : X.A.units + 64 < cLine) (ha : PE X a (tM X.K G W ma)) (hb : PE X b (tM X.K G W mb)) : PE X (.Compare a [.NotEq] [b] pos) (tM X.K G W (eB opNe ma mb)) := se_cmp (op_ne.or (op_neD hu)) im_ne ha hb (nomark _)
theorem se_lt (hu : X.A.units + 64 < cLine) (ha : PE X a (tM X.K G W ma)) (hb : PE X b (tM X.K G W mb)) : PE X (.Compare a [.Lt] [b] pos) (tM X.K G W (eB opLt ma mb)) := se_cmp (op_ltAll (by omega)) im_lt ha hb (nomark _)
theorem se_le (hu : X.A.units + 64 < cLine) (ha : PE X a (tM X.K G W ma)) (hb : PE X b (tM X.K G W mb)) : PE X (.Compare a [.LtE] [b] pos) (tM X.K G W (eB opLe ma mb)) := se_cmp op_le im_le ha hb (nomark _)
theorem se_gt (hu : X.A.units + 64 < cLine) (ha : PE X a (tM X.K G W ma)) (hb : PE X b (tM X.K G W mb)) : PE X (.Compare a [.Gt] [b] pos) (tM X.K G W (eB opGt ma mb)) := se_cmp op_gt im_gt ha hb (nomark _)
theorem se_ge (hu : X.A.units + 64 < cLine) (ha : PE X a (tM X.K G W ma)) (hb : PE X b (tM X.K G W mb)) : PE X (.Compare a [.GtE] [b] pos) (tM X.K G W (eB opGe ma mb)) := se_cmp op_ge im_ge ha hb (nomark _)
/-- is None -/
def opIsN : D → Hh → Option (D × Hh)
  | .non, h => some (.bl true, h)
  | _, h => some (.bl false, h)
def opNotN : D → Hh → Option (D × Hh)
  | .non, h => some (.bl false, h)
  | _, h => some (.bl true, h)
theorem se_isN {j pos'} (ha : PE X a (tM X.K G W ma)) : PE X (.Compare a [.Is] [.Constant .none j pos'] pos) (tM X.K G W (eU opIsN ma)) := peImp (pe_cmp (pc_isN ha)) fun σ H Q t => un_imp (r := fun x H Q => Q (.bl (decide (x = .non))) H) (fun {ρ H h x dx d h' Q} hr rx e k => by
  cases rx <;> simp only [opIsN] at e <;> cases e <;> exact k _ _ _ Ex.refl hr (.bl _)) σ H Q t
theorem se_notN {j pos'} (ha : PE X a (tM X.K G W ma)) : PE X (.Compare a [.IsNot] [.Constant .none j pos'] pos) (tM X.K G W (eU opNotN ma)) := peImp (pe_cmp (pc_notN ha)) fun σ H Q t => un_imp (r := fun x H Q => Q (.bl (!decide (x = .non))) H) (fun {ρ H h x dx d h' Q} hr rx e k => by
  cases rx <;> simp only [opNotN] at e <;> cases e <;> exact k _ _ _ Ex.refl hr (.bl _)) σ H Q t
end
end Sm
/-! SmC: tests, truth, and / or, argument lists, displays, items, slices, built-in functions and methods. -/
namespace Sm
open PySem L2 PyProof.Rows

abbrev MT := Ev → Hh → R Bool
/-! ### tests -/
def opTruth : D → Hh → Option Bool
  | .non, _ => some false
  | .bl b, _ => some b
  | .int i, _ => some (i != 0)
  | .str y, _ => if y.length ≤ sizeLine then some ((y.length : Int) != 0) else none
  | .tup ds, _ => some (!ds.isEmpty)
  | .fls ds, _ => some (!ds.isEmpty)
  | .ref n, h => match h[n]? with
    | some (.lst ds) => some (!ds.isEmpty)
    | some (.dK ds) => some (!ds.isEmpty)
    | _ => none
def optB (o : Option Bool) (h : Hh) : R Bool := match o with
  | some b => .ok b h
  | none => .bad
@[simp] theorem optB_some (b : Bool) (h : Hh) : optB (some b) h = .ok b h := rfl
@[simp] theorem optB_none (h : Hh) : optB none h = .bad := rfl
def tTru (m : M) : MT := fun env h => (m env h).bind fun d h1 => optB (opTruth d h1) h1
def opBl : D → Option Bool
  | .bl b => some b
  | _ => none
def tBl (m : M) : MT := fun env h => (m env h).bind fun d h1 => optB (opBl d) h1
def tAndM (a b : MT) : MT := fun env h => (a env h).bind fun c h1 => if c = true then b env h1 else .ok false h1
def tOrM (a b : MT) : MT := fun env h => (a env h).bind fun c h1 => if c = true then .ok true h1 else b env h1
def tNotM (a : MT) : MT := fun env h => (a env h).bind fun c h1 => .ok (!c) h1
def eAnd (a b : M) : M := fun env h => (a env h).bind fun d h1 => match d with
  | .bl true => b env h1
  | .bl false => .ok (.bl false) h1
  | _ => .bad
def eOr (a b : M) : M := fun env h => (a env h).bind fun d h1 => match d with
  | .bl false => b env h1
  | .bl true => .ok (.bl true) h1
  | _ => .bad
def eNot (a : M) : M := fun env h => (a env h).bind fun d h1 => match d with
  | .bl b => .ok (.bl (!b)) h1
  | _ => .bad
def eIf (t : MT) (a b : M) : M := fun env h => (t env h).bind fun c h1 => if c = true then a env h1 else b env h1
def eCh (f g : D → D → Hh → Option (D × Hh)) (a b c : M) : M := fun env h => (a env h).bind fun x h1 => (b env h1).bind fun y h2 => (R.opt (f x y h2)).bind fun z h3 => match z with
  | .bl true => (c env h3).bind fun w h4 => R.opt (g y w h4)
  | .bl false => .ok (.bl false) h3
  | _ => .bad
section
variable {X : Cx} {G : Cl} {W : WX} {e a b c : Expr} {es rest : List Expr} {pos : Pos} {ma mb mc : M} {ta tb : MT} {K : PySem.W.Frag} {ρ : List Addr} {H : Hp} {h : Hh} {σ : L2.St} {env : Ev}
theorem Rvs.isEmpty {vs : List V} {ds : List D} (r : Rvs K ρ H vs ds) : (!vs.isEmpty) = !ds.isEmpty := by cases r <;> rfl
theorem truth_ok (hr : Rh K G ρ H h) {v : V} {d : D} {k : Bool} (r : Rv K ρ H v d) (e : opTruth d h = some k) : TruV K v H k := by
  cases d with
  | non => cases r; cases e; rfl
  | bl b => cases r; cases e; rfl
  | int i => cases r; cases e; rfl
  | str y =>
    cases r
    simp only [opTruth] at e
    split at e
    · cases e
      exact ⟨by assumption, rfl⟩
    · cases e
  | tup ds =>
    cases e
    obtain ⟨a, vs, rfl, t, q⟩ := r.sqT
    exact .inr (.inl ⟨vs, t, q.isEmpty.symm⟩)
  | fls ds =>
    cases e
    cases r with
    | fls t q => exact .inl ⟨_, t.sq, q.isEmpty.symm⟩
  | ref n =>
    cases r with
    | ref ra =>
      simp only [opTruth] at e
      split at e
      · rename_i ds e0
        cases e
        obtain ⟨vs, q, r⟩ := ref_seq hr ra e0
        exact .inl ⟨vs, q, r.isEmpty.symm⟩
      · rename_i ds e0
        cases e
        have q := hr.at_ ra e0
        cases q with
        | dK q r =>
          refine .inr (.inr ⟨_, q, ?_⟩)
          cases r <;> rfl
      · cases e
theorem Po.optB {o : Option Bool} {Q : Bool → Hp → Prop} (p : Po K G (relB) W ρ H σ (optB o h) Q) : ∃ b, o = some b ∧ ∀ ρ' H' v, Ex K ρ H ρ' H' → Rh K G ρ' H' h → v = b → Q v H' := by
  cases o with
  | none => exact p.elim
  | some q => exact ⟨q, rfl, p⟩
theorem st_truth (ha : PE X a (tM X.K G W ma)) (he : ∀ whole, isTrue a X.env whole = (do let v ← whole; standAt a.pos; holding [v] (truthy v)) := by intro _; rfl) : PT X a (tT X.K G W (tTru ma)) := ptImp (pt_truth ha he) fun σ H Q t => by
  obtain ⟨ρ, h, env, hr, he, p⟩ := t
  refine tG_mono (tG_bind (rel := relV X.K) hr he p) fun x H1 ⟨ρ1, h1, d, e1, hr1, he1, r1, p1⟩ => ?_
  obtain ⟨k, ek, q⟩ := p1.optB
  exact ⟨k, truth_ok hr1 r1 ek, q _ _ _ Ex.refl hr1 rfl⟩
/-- an expression that gives a bool, its test being B of the same reading -/
theorem tB_imp {t : TE} (i : ∀ σ H Q, tM X.K G W ma σ H Q → t σ H Q) (σ : L2.St) (H : Hp) (Q : Bool → Hp → Prop) (p : tT X.K G W (tBl ma) σ H Q) : t σ H fun x H1 => ∃ k, x = .bl k ∧ Q k H1 := by
  obtain ⟨ρ, h, env, hr, he, p⟩ := p
  refine i σ H _ (tG_mono (tG_bind (rel := relV X.K) hr he p) fun x H1 ⟨ρ1, h1, d, e1, hr1, he1, r1, p1⟩ => ?_)
  obtain ⟨k, ek, q⟩ := p1.optB
  cases d with
  | bl b => cases ek; cases r1; exact ⟨_, rfl, q _ _ _ Ex.refl hr1 rfl⟩
  | _ => cases ek
theorem st_val (ha : PE X a (tM X.K G W ma)) (he : ∀ whole, isTrue a X.env whole = (do let v ← whole; standAt a.pos; holding [v] (truthy v)) := by intro _; rfl) : PT X a (tT X.K G W (tBl ma)) := ptImp (pt_val ha he) fun σ H Q t => tB_imp (fun _ _ _ z => z) σ H Q t
theorem st_cmp {op : CmpOp} {r : R2} {f : D → D → Hh → Option (D × Hh)} (ho : OpR X (compareOp op) r) (i : Imp2 X.K G r f) (ha : PE X a (tM X.K G W ma)) (hb : PE X b (tM X.K G W mb)) (hm : behindInMarks op b = false) : PT X (.Compare a [op] [b] pos) (tT X.K G W (tBl (eB f ma mb))) :=
  ptImp (pt_cmpR ho ha hb hm) fun σ H Q t => tB_imp (bin_imp i) σ H Q t
theorem st_eq (hu : X.A.units + 64 < cLine) (ha : PE X a (tM X.K G W ma)) (hb : PE X b (tM X.K G W mb)) : PT X (.Compare a [.Eq] [b] pos) (tT X.K G W (tBl (eB opEq ma mb))) := st_cmp (op_eq.or (op_eqD hu)) im_eq ha hb (nomark _)
theorem st_ne (hu : X.A.units + 64 < cLine) (ha : PE X a (tM X.K G W ma)) (hb : PE X b (tM X.K G W mb)) : PT X (.Compare a [.NotEq] [b] pos) (tT X.K G W (tBl (eB opNe ma mb))) := st_cmp (op_ne.or (op_neD hu)) im_ne ha hb (nomark _)
theorem st_lt (hu : X.A.units + 64 < cLine) (ha : PE X a (tM X.K G W ma)) (hb : PE X b (tM X.K G W mb)) : PT X (.Compare a [.Lt] [b] pos) (tT X.K G W (tBl (eB opLt ma mb))) := st_cmp (op_ltAll (by omega)) im_lt ha hb (nomark _)
theorem st_le (hu : X.A.units + 64 < cLine) (ha : PE X a (tM X.K G W ma)) (hb : PE X b (tM X.K G W mb)) : PT X (.Compare a [.LtE] [b] pos) (tT X.K G W (tBl (eB opLe ma mb))) := st_cmp op_le im_le ha hb (nomark _)
theorem st_gt (hu : X.A.units + 64 < cLine) (ha : PE X a (tM X.K G W ma)) (hb : PE X b (tM X.K G W mb)) : PT X (.Compare a [.Gt] [b] pos) (tT X.K G W (tBl (eB opGt ma mb))) := st_cmp op_gt im_gt ha hb (nomark _)
theorem st_ge (hu : X.A.units + 64 < cLine) (ha : PE X a (tM X.K G W ma)) (hb : PE X b (tM X.K G W mb)) : PT X (.Compare a [.GtE] [b] pos) (tT X.K G W (tBl (eB opGe ma mb))) := st_cmp op_ge im_ge ha hb (nomark _)
theorem isN_imp (σ : L2.St) (H : Hp) (Q : VK) (t : tM X.K G W (eU opIsN ma) σ H Q) : tIsN (tM X.K G W ma) σ H Q := un_imp (r := fun x H Q => Q (.bl (decide (x = .non))) H) (fun {ρ H h x dx d h' Q} hr rx e k => by
  cases rx <;> simp only [opIsN] at e <;> cases e <;> exact k _ _ _ Ex.refl hr (.bl _)) σ H Q t
theorem notN_imp (σ : L2.St) (H : Hp) (Q : VK) (t : tM X.K G W (eU opNotN ma) σ H Q) : tNotN (tM X.K G W ma) σ H Q := un_imp (r := fun x H Q => Q (.bl (!decide (x = .non))) H) (fun {ρ H h x dx d h' Q} hr rx e k => by
  cases rx <;> simp only [opNotN] at e <;> cases e <;> exact k _ _ _ Ex.refl hr (.bl _)) σ H Q t
theorem st_isN {j pos'} (ha : PE X a (tM X.K G W ma)) : PT X (.Compare a [.Is] [.Constant .none j pos'] pos) (tT X.K G W (tBl (eU opIsN ma))) := ptImp (pt_cmp (pc_isN ha)) fun σ H Q t => tB_imp isN_imp σ H Q t
theorem st_notN {j pos'} (ha : PE X a (tM X.K G W ma)) : PT X (.Compare a [.IsNot] [.Constant .none j pos'] pos) (tT X.K G W (tBl (eU opNotN ma))) := ptImp (pt_cmp (pc_notN ha)) fun σ H Q t => tB_imp notN_imp σ H Q t
theorem ch_imp {r r' : R2} {f g : D → D → Hh → Option (D × Hh)} (i : Imp2 X.K G r f) (i' : Imp2 X.K G r' g) (σ : L2.St) (H : Hp) (Q : VK) (t : tM X.K G W (eCh f g ma mb mc) σ H Q) : tChain r r' (tM X.K G W ma) (tM X.K G W mb) (tM X.K G W mc) σ H Q := by
  obtain ⟨ρ, h, env, hr, he, p⟩ := t
  refine tG_mono (tG_bind (rel := relV X.K) hr he p) fun x H1 ⟨ρ1, h1, d, e1, hr1, he1, r1, p1⟩ => ?_
  refine tG_mono (tG_bind (rel := relV X.K) hr1 he1 p1) fun y H2 ⟨ρ2, h2, d2, e2, hr2, he2, r2, p2⟩ => ?_
  dsimp only at p2
  cases o : f d d2 h2 with
  | none => rw [o] at p2; exact p2.elim
  | some q =>
    obtain ⟨z, h3⟩ := q
    rw [o] at p2
    refine i hr2 (r1.mono e2) r2 o fun ρ3 H3 v e3 hr3 r3 => ?_
    have p3 := Po.shift p2 e3
    cases z with
    | bl k =>
      cases r3
      refine ⟨k, rfl, ?_⟩
      cases k with
      | false => exact p3.ok hr3 (.bl _)
      | true =>
        refine tG_mono (tG_bind (rel := relV X.K) hr3 (he2.mono e3) p3) fun w H4 ⟨ρ4, h4, d4, e4, hr4, he4, r4, p4⟩ => ?_
        obtain ⟨d5, h5, eq, k5⟩ := p4.opt
        exact i' hr4 ((r2.mono e3).mono e4) r4 eq k5
    | _ => exact p3.elim
theorem se_chain {op op' : CmpOp} {r r' : R2} {f g : D → D → Hh → Option (D × Hh)} (ho : OpR X (compareOp op) r) (ho' : OpR X (compareOp op') r') (i : Imp2 X.K G r f) (i' : Imp2 X.K G r' g) (ha : PE X a (tM X.K G W ma)) (hb : PE X b (tM X.K G W mb)) (hc : PE X c (tM X.K G W mc))
    (hm : lastMarks [op, op'] [b, c] = false := by with_unfolding_all rfl) : PE X (.Compare a [op, op'] [b, c] pos) (tM X.K G W (eCh f g ma mb mc)) := peImp (pe_chain ho ho' ha hb hc hm) fun σ H Q t => ch_imp i i' σ H Q t
theorem st_chain {op op' : CmpOp} {r r' : R2} {f g : D → D → Hh → Option (D × Hh)} (ho : OpR X (compareOp op) r) (ho' : OpR X (compareOp op') r') (i : Imp2 X.K G r f) (i' : Imp2 X.K G r' g) (ha : PE X a (tM X.K G W ma)) (hb : PE X b (tM X.K G W mb)) (hc : PE X c (tM X.K G W mc))
    (hm : lastMarks [op, op'] [b, c] = false := by with_unfolding_all rfl) : PT X (.Compare a [op, op'] [b, c] pos) (tT X.K G W (tBl (eCh f g ma mb mc))) := ptImp (pt_chain ho ho' ha hb hc hm) fun σ H Q t => tB_imp (ch_imp i i') σ H Q t

/-! ### and, or, not -/
theorem sw_and1 (ha : PT X a (tT X.K G W ta)) : PW X (.BoolOp .And [a] pos) (tT X.K G W ta) := pw_and1 ha
theorem sw_or1 (ha : PT X a (tT X.K G W ta)) : PW X (.BoolOp .Or [a] pos) (tT X.K G W ta) := pw_or1 ha
theorem sw_and (ha : PT X a (tT X.K G W ta)) (hb : PW X (.BoolOp .And (b :: rest) pos) (tT X.K G W tb)) : PW X (.BoolOp .And (a :: b :: rest) pos) (tT X.K G W (tAndM ta tb)) := pwImp (pw_and ha hb) fun σ H Q t => by
  obtain ⟨ρ, h, env, hr, he, p⟩ := t
  refine tG_mono (tG_bind (rel := relB) hr he p) fun x H1 ⟨ρ1, h1, d, e1, hr1, he1, r1, p1⟩ => ?_
  subst r1
  cases x with
  | true => exact ⟨ρ1, h1, env, hr1, he1, p1⟩
  | false => exact p1.ok hr1 rfl
theorem sw_or (ha : PT X a (tT X.K G W ta)) (hb : PW X (.BoolOp .Or (b :: rest) pos) (tT X.K G W tb)) : PW X (.BoolOp .Or (a :: b :: rest) pos) (tT X.K G W (tOrM ta tb)) := pwImp (pw_or ha hb) fun σ H Q t => by
  obtain ⟨ρ, h, env, hr, he, p⟩ := t
  refine tG_mono (tG_bind (rel := relB) hr he p) fun x H1 ⟨ρ1, h1, d, e1, hr1, he1, r1, p1⟩ => ?_
  subst r1
  cases x with
  | false => exact ⟨ρ1, h1, env, hr1, he1, p1⟩
  | true => exact p1.ok hr1 rfl
theorem st_w (ha : PW X a (tT X.K G W ta)) : PT X a (tT X.K G W ta) := ha.pt
theorem st_not (ha : PT X a (tT X.K G W ta)) : PT X (.UnaryOp .Not a pos) (tT X.K G W (tNotM ta)) := ptImp (pt_not ha) fun σ H Q t => by
  obtain ⟨ρ, h, env, hr, he, p⟩ := t
  refine tG_mono (tG_bind (rel := relB) hr he p) fun x H1 ⟨ρ1, h1, d, e1, hr1, he1, r1, p1⟩ => ?_
  subst r1
  exact p1.ok hr1 rfl
theorem se_one {op} (ha : PE X a (tM X.K G W ma)) : PE X (.BoolOp op [a] pos) (tM X.K G W ma) := pe_one ha
theorem se_and (ha : PE X a (tM X.K G W ma)) (hb : PE X (.BoolOp .And (b :: rest) pos) (tM X.K G W mb)) : PE X (.BoolOp .And (a :: b :: rest) pos) (tM X.K G W (eAnd ma mb)) := peImp (pe_and ha hb) fun σ H Q t => by
  obtain ⟨ρ, h, env, hr, he, p⟩ := t
  refine tG_mono (tG_bind (rel := relV X.K) hr he p) fun x H1 ⟨ρ1, h1, d, e1, hr1, he1, r1, p1⟩ => ?_
  cases d with
  | bl k =>
    cases r1
    refine ⟨k, rfl, ?_⟩
    cases k with
    | true => exact ⟨ρ1, h1, env, hr1, he1, p1⟩
    | false => exact p1.ok hr1 (.bl _)
  | _ => exact p1.elim
theorem se_or (ha : PE X a (tM X.K G W ma)) (hb : PE X (.BoolOp .Or (b :: rest) pos) (tM X.K G W mb)) : PE X (.BoolOp .Or (a :: b :: rest) pos) (tM X.K G W (eOr ma mb)) := peImp (pe_or ha hb) fun σ H Q t => by
  obtain ⟨ρ, h, env, hr, he, p⟩ := t
  refine tG_mono (tG_bind (rel := relV X.K) hr he p) fun x H1 ⟨ρ1, h1, d, e1, hr1, he1, r1, p1⟩ => ?_
  cases d with
  | bl k =>
    cases r1
    refine ⟨k, rfl, ?_⟩
    cases k with
    | false => exact ⟨ρ1, h1, env, hr1, he1, p1⟩
    | true => exact p1.ok hr1 (.bl _)
  | _ => exact p1.elim
theorem se_not (ha : PE X a (tM X.K G W ma)) : PE X (.UnaryOp .Not a pos) (tM X.K G W (eNot ma)) := peImp (pe_not ha) fun σ H Q t => by
  obtain ⟨ρ, h, env, hr, he, p⟩ := t
  refine tG_mono (tG_bind (rel := relV X.K) hr he p) fun x H1 ⟨ρ1, h1, d, e1, hr1, he1, r1, p1⟩ => ?_
  cases d with
  | bl k =>
    cases r1
    exact ⟨k, rfl, p1.ok hr1 (.bl _)⟩
  | _ => exact p1.elim
theorem se_if (hc : PT X c (tT X.K G W ta)) (ha : PE X a (tM X.K G W ma)) (hb : PE X b (tM X.K G W mb)) : PE X (.IfExp c a b pos) (tM X.K G W (eIf ta ma mb)) := peImp (pe_ifExp hc ha hb) fun σ H Q t => by
  obtain ⟨ρ, h, env, hr, he, p⟩ := t
  refine tG_mono (tG_bind (rel := relB) hr he p) fun x H1 ⟨ρ1, h1, d, e1, hr1, he1, r1, p1⟩ => ?_
  subst r1
  cases x with
  | true => exact ⟨ρ1, h1, env, hr1, he1, p1⟩
  | false => exact ⟨ρ1, h1, env, hr1, he1, p1⟩
end

/-! ### argument lists -/
def evs : List M → Ev → Hh → R (List D)
  | [], _, h => .ok [] h
  | m :: ms, env, h => (m env h).bind fun d h1 => (evs ms env h1).bind fun ds h2 => .ok (d :: ds) h2
def eN (f : List D → Hh → Option (D × Hh)) (ms : List M) : M := fun env h => (evs ms env h).bind fun ds h1 => R.opt (f ds h1)
def ImpN (K : PySem.W.Frag) (G : Cl) (r : List V → Hp → VK → Prop) (f : List D → Hh → Option (D × Hh)) : Prop := ∀ {ρ : List Addr} {H : Hp} {h : Hh} {xs : List V} {ds : List D} {d : D} {h' : Hh} {Q : VK}, Rh K G ρ H h → Rvs K ρ H xs ds → f ds h = some (d, h') →
  (∀ ρ' H' v, Ex K ρ H ρ' H' → Rh K G ρ' H' h' → Rv K ρ' H' v d → Q v H') → r xs H Q
def eTup (ms : List M) : M := fun env h => (evs ms env h).bind fun ds h1 => .ok (.tup ds) h1
def eLst (ms : List M) : M := fun env h => (evs ms env h).bind fun ds h1 => .ok (.ref h1.length) (h1 ++ [.lst ds])
section
variable {X : Cx} {G : Cl} {W : WX} {e o a b c : Expr} {es rest : List Expr} {pos p : Pos} {ma mb mc m mo : M} {ms : List M} {K : PySem.W.Frag} {ρ : List Addr} {H : Hp} {h : Hh} {σ : L2.St} {env : Ev} {x : Str} {id T : String}
theorem sa_nil : PA X [] (tL X.K G W (evs [])) := paImp pa_nil fun σ H Q t => by
  obtain ⟨ρ, h, env, hr, he, p⟩ := t
  exact p.ok hr .nil
theorem sa_cons (ha : PE X e (tM X.K G W m)) (hb : PA X es (tL X.K G W (evs ms))) (hs : starEach (e :: es) X.env = (false, eval e X.env) :: starEach es X.env := by rfl) : PA X (e :: es) (tL X.K G W (evs (m :: ms))) := paImp (pa_cons ha hb hs) fun σ H Q t => by
  obtain ⟨ρ, h, env, hr, he, p⟩ := t
  refine tG_mono (tG_bind (rel := relV X.K) hr he p) fun x H1 ⟨ρ1, h1, d, e1, hr1, he1, r1, p1⟩ => ?_
  refine tG_mono (tG_bind (rel := relVs X.K) hr1 he1 p1) fun y H2 ⟨ρ2, h2, d2, e2, hr2, he2, r2, p2⟩ => ?_
  exact p2.ok hr2 (.cons (r1.mono e2) r2)
theorem evs_len : ∀ {ms : List M} {env : Ev} {h h' : Hh} {ds : List D}, evs ms env h = .ok ds h' → ds.length = ms.length
  | [], _, _, _, _, e => by cases e; rfl
  | m :: ms, env, h, h', ds, e => by
    unfold evs at e
    cases q : m env h with
    | ok d h1 =>
      rw [q] at e
      simp only [R.bind_ok] at e
      cases q2 : evs ms env h1 with
      | ok ds2 h2 =>
        rw [q2] at e
        cases e
        rw [List.length_cons, List.length_cons, evs_len q2]
      | exc c fs h2 => rw [q2] at e; cases e
      | bad => rw [q2] at e; cases e
    | exc c fs h1 => rw [q] at e; cases e
    | bad => rw [q] at e; cases e
theorem nary_imp {r : List V → Hp → VK → Prop} {f : List D → Hh → Option (D × Hh)} (i : ImpN X.K G r f) (σ : L2.St) (H : Hp) (Q : VK) (t : tM X.K G W (eN f ms) σ H Q) : tCB r (tL X.K G W (evs ms)) σ H Q := by
  obtain ⟨ρ, h, env, hr, he, p⟩ := t
  refine tG_mono (tG_bind (rel := relVs X.K) hr he p) fun x H1 ⟨ρ1, h1, d, e1, hr1, he1, r1, p1⟩ => ?_
  obtain ⟨d2, h2, eq, k⟩ := p1.opt
  exact i hr1 r1 eq k
theorem se_callB {r : List V → Hp → VK → Prop} {f : List D → Hh → Option (D × Hh)} (hc : CallR X (.builtin id) r) (i : ImpN X.K G r f) (hg : Gl X x) (hm : X.mg x = none) (hv : bootBuiltins x = some (.builtin id)) (ha : PA X (e :: es) (tL X.K G W (evs ms))) (hn : x ≠ "__name__" := by decide) (hdb : (x == ("__debug__" : Str)) = false := by decide)
    (he : starEach (e :: es) X.env = (false, eval e X.env) :: starEach es X.env := by rfl) (hpl : (backTo pos (starEach es X.env)).any (·.1) = false := by rfl) : PE X (.Call (.Name x p) (e :: es) [] pos) (tM X.K G W (eN f ms)) :=
  peImp (pe_callB hc hg hm hv ha hn hdb he hpl) fun σ H Q t => nary_imp i σ H Q t
theorem se_callTy {r : List V → Hp → VK → Prop} {f : List D → Hh → Option (D × Hh)} (hc : CallR X (.type T) r) (i : ImpN X.K G r f) (hg : Gl X x) (hm : X.mg x = none) (hv : bootBuiltins x = some (.type T)) (ha : PA X (e :: es) (tL X.K G W (evs ms))) (hn : x ≠ "__name__" := by decide) (hdb : (x == ("__debug__" : Str)) = false := by decide)
    (he : starEach (e :: es) X.env = (false, eval e X.env) :: starEach es X.env := by rfl) (hpl : (backTo pos (starEach es X.env)).any (·.1) = false := by rfl) : PE X (.Call (.Name x p) (e :: es) [] pos) (tM X.K G W (eN f ms)) :=
  peImp (pe_callTy hc hg hm hv ha hn hdb he hpl) fun σ H Q t => nary_imp i σ H Q t
theorem seq_len {t : TA} {L : List V → Hp → Prop} (hl : ms.length ≤ sizeLine) (hr : Rh K G ρ H h) (he : Re K ρ H σ env) {Q : VK} {f : List D → Hh → R D}
    (p : Po K G (relV K) W ρ H σ ((evs ms env h).bind f) Q) : tG K G (relVs K) W (evs ms) σ H fun vs H1 => vs.length ≤ sizeLine ∧ Thn K G (relVs K) (relV K) W σ env f Q ρ H vs H1 := by
  refine ⟨ρ, h, env, hr, he, ?_⟩
  cases q : evs ms env h with
  | ok ds h1 =>
    rw [q] at p
    intro ρ' H' vs e a b
    exact ⟨by rw [Rvs.length b, evs_len q]; exact hl, ρ', h1, ds, e, a, he.mono e, b, Po.shift p e⟩
  | exc c fs h1 => rw [q] at p; exact p
  | bad => rw [q] at p; exact p
theorem se_tup {x1} (ha : PA X es (tL X.K G W (evs ms))) (hl : ms.length ≤ sizeLine := by decide) : PE X (.Tuple es x1 pos) (tM X.K G W (eTup ms)) := peImp (pe_tup ha) fun σ H Q t => by
  obtain ⟨ρ, h, env, hr, he, p⟩ := t
  refine tG_mono (seq_len (t := tNil) (L := fun _ _ => True) hl hr he p) fun vs H1 ⟨l, ρ1, h1, d, e1, hr1, he1, r1, p1⟩ => ⟨l, ?_⟩
  exact new_tup hr1 r1 p1
theorem se_lst (ha : PA X es (tL X.K G W (evs ms))) (hl : ms.length ≤ sizeLine := by decide) : PE X (.List es pos) (tM X.K G W (eLst ms)) := peImp (pe_lst ha) fun σ H Q t => by
  obtain ⟨ρ, h, env, hr, he, p⟩ := t
  refine tG_mono (seq_len (t := tNil) (L := fun _ _ => True) hl hr he p) fun vs H1 ⟨l, ρ1, h1, d, e1, hr1, he1, r1, p1⟩ => ⟨l, ?_⟩
  exact new_lst hr1 r1 p1
end

/-! ### items, slices -/
def opIx : D → D → Hh → Option (D × Hh)
  | .tup ds, .int i, h => (atI ds i).map fun d => (d, h)
  | .str z, .int i, h => if z.length ≤ sizeLine then (atI z.cps.toList i).map fun c => (.str ⟨#[c]⟩, h) else none
  | .fls ds, .int i, h => (atI ds i).map fun d => (d, h)
  | .ref n, .int i, h => match h[n]? with
    | some (.lst ds) => (atI ds i).map fun d => (d, h)
    | _ => none
  | _, _, _ => none
def cutD (xs : List D) (lo hi : Option Int) : List D := (xs.drop (HT.sIx xs.length 0 lo)).take (HT.sIx xs.length xs.length hi - HT.sIx xs.length 0 lo)
/-- the part of a slice: left out, or an int -/
def evO : Option M → Ev → Hh → R (Option Int)
  | none, _, h => .ok none h
  | some m, env, h => (m env h).bind fun d h1 => match d with
    | .int i => .ok (some i) h1
    | _ => .bad
def opSl : D → Option Int → Option Int → Hh → Option (D × Hh)
  | .tup ds, lo, hi, h => some (.tup (cutD ds lo hi), h)
  | .str z, lo, hi, h => if z.length ≤ sizeLine then some (.str (cutS z lo hi), h) else none
  | .fls ds, lo, hi, h => some (.ref h.length, h ++ [.lst (cutD ds lo hi)])
  | .ref n, lo, hi, h => match h[n]? with
    | some (.lst ds) => some (.ref h.length, h ++ [.lst (cutD ds lo hi)])
    | _ => none
  | _, _, _, _ => none
def eSl (m : M) (lo hi : Option M) : M := fun env h => (m env h).bind fun d h1 => (evO lo env h1).bind fun l h2 => (evO hi env h2).bind fun u h3 => R.opt (opSl d l u h3)
def opRev : D → Hh → Option (D × Hh)
  | .fls ds, h => some (.ref h.length, h ++ [.lst ds.reverse])
  | .ref n, h => match h[n]? with
    | some (.lst ds) => some (.ref h.length, h ++ [.lst ds.reverse])
    | _ => none
  | _, _ => none
section
variable {X : Cx} {G : Cl} {W : WX} {e o a b c : Expr} {lo hi : Option Expr} {es rest : List Expr} {pos p p2 p1 p3 : Pos} {ma mb mc m mo : M} {ml mh : Option M} {ms : List M} {K : PySem.W.Frag} {ρ : List Addr} {H : Hp} {h : Hh} {σ : L2.St} {env : Ev} {x : Str} {id T : String}
theorem Rvs.atI {vs : List V} {ds : List D} (r : Rvs K ρ H vs ds) {i : Int} {d : D} (e : L2.atI ds i = some d) : ∃ v, L2.atI vs i = some v ∧ Rv K ρ H v d := by
  unfold L2.atI at e ⊢
  rw [r.length]
  cases q : ixN ds.length i with
  | none => rw [q] at e; cases e
  | some j =>
    rw [q] at e
    exact r.get e
theorem im_ix : Imp2 K G (rIx K) opIx := fun {ρ H h x y dx dy d h' Q} hr rx ry e k => by
  unfold opIx at e
  split at e
  · cases ry
    obtain ⟨a, vs, rfl, t, r⟩ := rx.sqT
    simp only [Option.map_eq_some_iff, Prod.mk.injEq] at e
    obtain ⟨d2, e, rfl, rfl⟩ := e
    obtain ⟨v, q, rv⟩ := r.atI e
    exact .inr (.inl ⟨a, vs, _, v, rfl, rfl, t, q, k _ _ _ Ex.refl hr rv⟩)
  · cases ry; cases rx
    split at e
    · simp only [Option.map_eq_some_iff, Prod.mk.injEq] at e
      obtain ⟨c, e, rfl, rfl⟩ := e
      exact .inr (.inr ⟨_, _, c, rfl, rfl, by assumption, e, k _ _ _ Ex.refl hr (.str _)⟩)
    · cases e
  · cases ry
    cases rx with
    | fls t r =>
      simp only [Option.map_eq_some_iff, Prod.mk.injEq] at e
      obtain ⟨d2, e9, rfl, rfl⟩ := e
      obtain ⟨v, q, rv⟩ := r.atI e9
      exact .inl ⟨_, _, _, v, rfl, rfl, t.sq, q, k _ _ _ Ex.refl hr rv⟩
  · cases ry
    cases rx with
    | ref ra =>
      split at e
      · rename_i e0
        simp only [Option.map_eq_some_iff, Prod.mk.injEq] at e
        obtain ⟨d2, e9, rfl, rfl⟩ := e
        obtain ⟨vs, q, r⟩ := ref_seq hr ra e0
        obtain ⟨v, q2, rv⟩ := r.atI e9
        exact .inl ⟨_, vs, _, v, rfl, rfl, q, q2, k _ _ _ Ex.refl hr rv⟩
      · cases e
  · cases e
theorem se_ix (ha : PE X a (tM X.K G W ma)) (hb : PE X b (tM X.K G W mb)) (hs : PlainIx b := by exact fun _ _ => rfl) : PE X (.Subscript a b pos) (tM X.K G W (eB opIx ma mb)) := peImp (pe_ix ix_seq ha hb hs) fun σ H Q t => bin_imp im_ix σ H Q t
abbrev relO : List Addr → Hp → Option Int → Option Int → Prop := fun _ _ b c => b = c
theorem so_none : PO X none (tG X.K G relO W (evO none)) := ⟨fun pins s σ H Q I t => by
  obtain ⟨ρ, h, env, hr, he, p⟩ := t
  exact po_none.run pins s σ H Q I (p.ok hr rfl)⟩
theorem so_some (ha : PE X e (tM X.K G W m)) : PO X (some e) (tG X.K G relO W (evO (some m))) := ⟨fun pins s σ H Q I t => by
  obtain ⟨ρ, h, env, hr, he, p⟩ := t
  refine (po_some ha).run pins s σ H Q I (tG_mono (tG_bind (rel := relV X.K) hr he p) fun x H1 ⟨ρ1, h1, d, e1, hr1, he1, r1, p1⟩ => ?_)
  cases d with
  | int i => cases r1; exact ⟨i, rfl, p1.ok hr1 rfl⟩
  | _ => exact p1.elim⟩
theorem Rvs.cut {vs : List V} {ds : List D} (r : Rvs K ρ H vs ds) (lo hi : Option Int) : Rvs K ρ H (cutV vs lo hi) (cutD ds lo hi) := by
  unfold cutV cutD
  rw [r.length]
  exact (r.drop _).take _
abbrev rSlAll (K : PySem.W.Frag) : V → Option Int → Option Int → Hp → VK → Prop := fun x lo hi H Q => rSlA K x lo hi H Q ∨ (rSlL K x lo hi H Q ∨ rSlS x lo hi H Q)
theorem whole_cut {ds : List D} {lo hi : Option Int} (h1 : HT.sIx ds.length 0 lo = 0) (h2 : HT.sIx ds.length ds.length hi = ds.length) : cutD ds lo hi = ds := by
  unfold cutD
  rw [h1, h2]
  simp
theorem im_sl {x : V} {d d2 : D} {lo hi : Option Int} {h' : Hh} {Q : VK} (hr : Rh K G ρ H h) (rx : Rv K ρ H x d) (e : opSl d lo hi h = some (d2, h')) (k : ∀ ρ' H' v, Ex K ρ H ρ' H' → Rh K G ρ' H' h' → Rv K ρ' H' v d2 → Q v H') : rSlAll K x lo hi H Q := by
  unfold opSl at e
  split at e
  · cases e
    obtain ⟨a, vs, rfl, t, r⟩ := rx.sqT
    refine .inl ⟨a, vs, rfl, t, fun ⟨z1, z2⟩ => ?_, fun _ => new_tup hr (r.cut lo hi) k⟩
    rw [r.length] at z1 z2
    rw [whole_cut z1 z2] at k
    exact k _ _ _ Ex.refl hr rx
  · split at e
    · cases e; cases rx
      exact .inr (.inr ⟨_, rfl, by assumption, k _ _ _ Ex.refl hr (.str _)⟩)
    · cases e
  · cases e
    cases rx with
    | fls t r => exact .inr (.inl ⟨_, _, rfl, t.sq, new_lst hr (r.cut _ _) k⟩)
  · cases rx with
    | ref ra =>
      split at e
      · rename_i ds e0
        cases e
        obtain ⟨vs, q, r⟩ := ref_seq hr ra e0
        exact .inr (.inl ⟨_, vs, rfl, q, new_lst hr (r.cut _ _) k⟩)
      · cases e
  · cases e
theorem se_sl (ha : PE X a (tM X.K G W m)) (hl : PO X lo (tG X.K G relO W (evO ml))) (hh : PO X hi (tG X.K G relO W (evO mh))) : PE X (.Subscript a (.Slice lo hi none p2) pos) (tM X.K G W (eSl m ml mh)) :=
  peImp (pe_slice (sl_tupA.or (sl_list.or sl_str)) ha hl hh) fun σ H Q t => by
    obtain ⟨ρ, h, env, hr, he, p⟩ := t
    refine tG_mono (tG_bind (rel := relV X.K) hr he p) fun x H1 ⟨ρ1, h1, d, e1, hr1, he1, r1, p1⟩ => ?_
    refine tG_mono (tG_bind (rel := relO) hr1 he1 p1) fun l H2 ⟨ρ2, h2, d2, e2, hr2, he2, r2, p2⟩ => ?_
    refine tG_mono (tG_bind (rel := relO) hr2 he2 p2) fun u H3 ⟨ρ3, h3, d3, e3, hr3, he3, r3, p3⟩ => ?_
    subst r2 r3
    obtain ⟨d4, h4, eq, k⟩ := p3.opt
    exact im_sl hr3 ((r1.mono e2).mono e3) eq k
theorem se_rev {k : Nat} (ha : PE X a (tM X.K G W m)) : PE X (.Subscript a (.Slice none none (some (.UnaryOp .USub (.Constant (.int 1) k p1) p2)) p3) pos) (tM X.K G W (eU opRev m)) := peImp (pe_revL ha) fun σ H Q t => by
  refine un_imp (r := fun x H1 Q => ∃ a xs, x = .ref a ∧ SqL X.K H1 a xs ∧ ∀ p, H1 p = none → Q (.ref p) (upd H1 p (.lst xs.reverse))) (fun {ρ H h x dx d h' Q} hr rx e k => ?_) σ H Q t
  unfold opRev at e
  split at e
  · cases e
    cases rx with
    | fls t r => exact ⟨_, _, rfl, t.sq, new_lst hr r.reverse k⟩
  · cases rx with
    | ref ra =>
      split at e
      · rename_i ds e0
        cases e
        obtain ⟨vs, q, r⟩ := ref_seq hr ra e0
        exact ⟨_, vs, rfl, q, new_lst hr r.reverse k⟩
      · cases e
  · cases e
end
end Sm
/-! SmD: statements, loops, defs and their calls. -/
namespace Sm
open PySem L2 PyProof.Rows

inductive SR where
  | nx (env : Ev) (h : Hh) | rt (d : D) (h : Hh) | bk (env : Ev) (h : Hh) | ct (env : Ev) (h : Hh) | exc (c : Nat) (fs : List D) (env : Ev) (h : Hh) | bad
abbrev S := Ev → Hh → SR
section
variable (K : PySem.W.Frag) (G : Cl)
def PoS (W : WX) (ρ : List Addr) (H : Hp) (D : Ends) (r : SR) : Prop := match r with
  | .nx env h => ∀ ρ' H' σ', Ex K ρ H ρ' H' → Rh K G ρ' H' h → Re K ρ' H' σ' env → D.nx σ' H'
  | .rt d h => ∀ ρ' H' v, Ex K ρ H ρ' H' → Rh K G ρ' H' h → Rv K ρ' H' v d → D.rt v H'
  | .bk env h => ∀ ρ' H' σ', Ex K ρ H ρ' H' → Rh K G ρ' H' h → Re K ρ' H' σ' env → D.bk σ' H'
  | .ct env h => ∀ ρ' H' σ', Ex K ρ H ρ' H' → Rh K G ρ' H' h → Re K ρ' H' σ' env → D.ct σ' H'
  | .exc c fs env h => ∀ ρ' H' σ' d, Ex K ρ H ρ' H' → Rh K G ρ' H' h → Re K ρ' H' σ' env → Rx K G ρ' H' d c fs → W (.ref (G.at_ c)) d σ' H'
  | .bad => False
def tS (W : WX) (s : S) : TS := fun D σ H => ∃ ρ h env, Rh K G ρ H h ∧ Re K ρ H σ env ∧ PoS K G W ρ H D (s env h)
end
def bindS {α : Type} (r : R α) (env : Ev) (f : α → Hh → SR) : SR := match r with
  | .ok a h => f a h
  | .exc c fs h => .exc c fs env h
  | .bad => .bad
@[simp] theorem bindS_ok {α : Type} (a : α) (h : Hh) (env : Ev) (f : α → Hh → SR) : bindS (.ok a h) env f = f a h := rfl
@[simp] theorem bindS_exc {α : Type} (c : Nat) (fs : List D) (h : Hh) (env : Ev) (f : α → Hh → SR) : bindS (.exc c fs h : R α) env f = .exc c fs env h := rfl
@[simp] theorem bindS_bad {α : Type} (env : Ev) (f : α → Hh → SR) : bindS (.bad : R α) env f = .bad := rfl

section
variable {K : PySem.W.Frag} {G : Cl} {α β : Type} {rel : List Addr → Hp → β → α → Prop} {W : WX} {ρ ρ1 : List Addr} {H H1 : Hp} {σ : L2.St} {h : Hh} {env : Ev} {D0 : Ends}
theorem PoS.shift {r : SR} (p : PoS K G W ρ H D0 r) (e : Ex K ρ H ρ1 H1) : PoS K G W ρ1 H1 D0 r := by
  cases r with
  | nx env h => exact fun ρ' H' v e' => p ρ' H' v (e.trans e')
  | rt d h => exact fun ρ' H' v e' => p ρ' H' v (e.trans e')
  | bk env h => exact fun ρ' H' v e' => p ρ' H' v (e.trans e')
  | ct env h => exact fun ρ' H' v e' => p ρ' H' v (e.trans e')
  | exc c fs env h => exact fun ρ' H' v d e' => p ρ' H' v d (e.trans e')
  | bad => exact p
def ThnS (K : PySem.W.Frag) (G : Cl) (rel : List Addr → Hp → β → α → Prop) (W : WX) (σ : L2.St) (env : Ev) (f : α → Hh → SR) (D0 : Ends) (ρ : List Addr) (H : Hp) (v : β) (H1 : Hp) : Prop :=
  ∃ ρ1 h1 d, Ex K ρ H ρ1 H1 ∧ Rh K G ρ1 H1 h1 ∧ Re K ρ1 H1 σ env ∧ rel ρ1 H1 v d ∧ PoS K G W ρ1 H1 D0 (f d h1)
theorem PoS.bind {r : R α} {f : α → Hh → SR} (he : Re K ρ H σ env) (p : PoS K G W ρ H D0 (bindS r env f)) : Po K G rel W ρ H σ r (ThnS K G rel W σ env f D0 ρ H) := by
  cases r with
  | ok d h' => exact fun ρ' H' v e a b => ⟨ρ', h', d, e, a, he.mono e, b, p.shift e⟩
  | exc c fs h' => exact fun ρ' H' d e a b => p ρ' H' σ d e a (he.mono e) b
  | bad => exact p
theorem tS_bind {m : Ev → Hh → R α} {f : α → Hh → SR} (hr : Rh K G ρ H h) (he : Re K ρ H σ env) (p : PoS K G W ρ H D0 (bindS (m env h) env f)) : tG K G rel W m σ H (ThnS K G rel W σ env f D0 ρ H) :=
  ⟨ρ, h, env, hr, he, p.bind he⟩
theorem PoS.nx_ {σ : L2.St} (p : PoS K G W ρ H D0 (.nx env h)) (hr : Rh K G ρ H h) (he : Re K ρ H σ env) : D0.nx σ H := p ρ H σ Ex.refl hr he
theorem PoS.rt_ {v : V} {d : D} (p : PoS K G W ρ H D0 (.rt d h)) (hr : Rh K G ρ H h) (r : Rv K ρ H v d) : D0.rt v H := p ρ H v Ex.refl hr r
end

/-! ### small statements -/
def sSkip : S := fun env h => .nx env h
def sSeq (a b : S) : S := fun env h => match a env h with
  | .nx env' h' => b env' h'
  | r => r
def sRet (m : M) : S := fun env h => bindS (m env h) env fun d h1 => .rt d h1
def sRetN : S := fun _ h => .rt .non h
def sExpr (m : M) : S := fun env h => bindS (m env h) env fun _ h1 => .nx env h1
def sSet (i : Nat) (m : M) : S := fun env h => bindS (m env h) env fun d h1 => .nx (env.set i (some d)) h1
def sIf (t : MT) (a b : S) : S := fun env h => bindS (t env h) env fun c h1 => if c = true then a env h1 else b env h1
def sBk : S := fun env h => .bk env h
def sCt : S := fun env h => .ct env h
def sNever : S := fun _ _ => .bad
def sAug (f : D → D → Hh → Option (D × Hh)) (i : Nat) (m : M) : S := fun env h => match env[i]? with
  | some (some x) => bindS (m env h) env fun y h1 => bindS (R.opt (f x y h1)) env fun z h2 => .nx (env.set i (some z)) h2
  | _ => .bad
section
variable {X : Cx} {G : Cl} {W : WX} {e a b c : Expr} {st : Stmt} {rest sa sb : List Stmt} {pos : Pos} {ma mb m : M} {s s1 s2 : S} {t : MT}
theorem ss_nil : PSs X [] (tS X.K G W sSkip) := pssImp pss_nil fun D0 σ H t => by
  obtain ⟨ρ, h, env, hr, he, p⟩ := t
  exact p.nx_ hr he
theorem seq_imp {t1 t2 : TS} (i1 : ∀ D σ H, tS X.K G W s1 D σ H → t1 D σ H) (i2 : ∀ D σ H, tS X.K G W s2 D σ H → t2 D σ H) (D0 : Ends) (σ : L2.St) (H : Hp) (t : tS X.K G W (sSeq s1 s2) D0 σ H) : tS X.K G W s1 { D0 with nx := fun σ H => tS X.K G W s2 D0 σ H } σ H := by
  obtain ⟨ρ, h, env, hr, he, p⟩ := t
  refine ⟨ρ, h, env, hr, he, ?_⟩
  unfold sSeq at p
  cases q : s1 env h with
  | nx env' h' =>
    rw [q] at p
    exact fun ρ' H' σ' e a b => ⟨ρ', h', env', a, b, PoS.shift p e⟩
  | rt d h' => rw [q] at p; exact p
  | bk env' h' => rw [q] at p; exact p
  | ct env' h' => rw [q] at p; exact p
  | exc c fs env' h' => rw [q] at p; exact p
  | bad => rw [q] at p; exact p
theorem ss_cons (h1 : PS X st (tS X.K G W s1)) (h2 : PSs X rest (tS X.K G W s2)) : PSs X (st :: rest) (tS X.K G W (sSeq s1 s2)) := pssImp (pss_cons h1 h2) fun D0 σ H t => seq_imp (fun _ _ _ z => z) (fun _ _ _ z => z) D0 σ H t
theorem ss_one (h1 : PS X st (tS X.K G W s1)) : PSs X [st] (tS X.K G W s1) := pss_one h1
theorem s_pass : PS X (.Pass pos) (tS X.K G W sSkip) := psImp ps_pass fun D0 σ H t => by
  obtain ⟨ρ, h, env, hr, he, p⟩ := t
  exact p.nx_ hr he
theorem s_break : PS X (.Break pos) (tS X.K G W sBk) := psImp ps_break fun D0 σ H t => by
  obtain ⟨ρ, h, env, hr, he, p⟩ := t
  exact p ρ H σ Ex.refl hr he
theorem s_continue : PS X (.Continue pos) (tS X.K G W sCt) := psImp ps_continue fun D0 σ H t => by
  obtain ⟨ρ, h, env, hr, he, p⟩ := t
  exact p ρ H σ Ex.refl hr he
theorem s_never : PS X st (tS X.K G W sNever) := psImp ps_never fun D0 σ H t => by
  obtain ⟨ρ, h, env, hr, he, p⟩ := t
  exact p
theorem s_ret (ha : PE X a (tM X.K G W m)) : PS X (.Return (some a) pos) (tS X.K G W (sRet m)) := psImp (ps_ret ha) fun D0 σ H t => by
  obtain ⟨ρ, h, env, hr, he, p⟩ := t
  refine tG_mono (tS_bind (rel := relV X.K) hr he p) fun x H1 ⟨ρ1, h1, d, e1, hr1, he1, r1, p1⟩ => ?_
  exact p1.rt_ hr1 r1
theorem s_retN : PS X (.Return none pos) (tS X.K G W sRetN) := psImp ps_retN fun D0 σ H t => by
  obtain ⟨ρ, h, env, hr, he, p⟩ := t
  exact p.rt_ hr .non
theorem s_expr (ha : PE X a (tM X.K G W m)) (hs : swapsWith a none pos.line X.env = pure false := by rfl) : PS X (.Expr a pos) (tS X.K G W (sExpr m)) := psImp (ps_expr ha hs) fun D0 σ H t => by
  obtain ⟨ρ, h, env, hr, he, p⟩ := t
  refine tG_mono (tS_bind (rel := relV X.K) hr he p) fun x H1 ⟨ρ1, h1, d, e1, hr1, he1, r1, p1⟩ => ?_
  exact p1.nx_ hr1 he1
theorem set_imp {i : Nat} (D0 : Ends) (σ : L2.St) (H : Hp) (t : tS X.K G W (sSet i m) D0 σ H) : tAsg (tM X.K G W m) (gName i) D0 σ H := by
  obtain ⟨ρ, h, env, hr, he, p⟩ := t
  refine tG_mono (tS_bind (rel := relV X.K) hr he p) fun x H1 ⟨ρ1, h1, d, e1, hr1, he1, r1, p1⟩ => ?_
  exact p1.nx_ hr1 (he1.set r1 i)
theorem s_set (i : Nat) {x : Str} {pos' : Pos} (hN : X.N.Nodup) (ha : PE X a (tM X.K G W m)) (hi : X.N[i]? = some x := by rfl) (hx : Loc X.env.scope x := by first | exact Or.inl rfl | exact Or.inr rfl) (hs : swapsWith a (some (.Name x pos')) pos.line X.env = pure false := by rfl)
    (hf : X.fn x = true ∨ X.env.scope.names.lookup x = some .local := by first | exact .inl rfl | exact .inr rfl) : PS X (.Assign [.Name x pos'] a pos) (tS X.K G W (sSet i m)) := psImp (ps_set hN hi hx ha hs hf) fun D0 σ H t => set_imp D0 σ H t
theorem s_if (hc : PT X c (tT X.K G W t)) (ha : PSs X sa (tS X.K G W s1)) (hb : PSs X sb (tS X.K G W s2)) : PS X (.If c sa sb pos) (tS X.K G W (sIf t s1 s2)) := psImp (ps_if hc ha hb) fun D0 σ H t => by
  obtain ⟨ρ, h, env, hr, he, p⟩ := t
  refine tG_mono (tS_bind (rel := relB) hr he p) fun x H1 ⟨ρ1, h1, d, e1, hr1, he1, r1, p1⟩ => ?_
  subst r1
  cases x with
  | true => exact ⟨ρ1, h1, env, hr1, he1, p1⟩
  | false => exact ⟨ρ1, h1, env, hr1, he1, p1⟩
theorem s_aug {op : Operator} {r : R2} {f : D → D → Hh → Option (D × Hh)} (i : Nat) {x : Str} {pos' : Pos} (hN : X.N.Nodup) (ho : OpR X (inplaceOp op) r) (im : Imp2 X.K G r f) (ha : PE X a (tM X.K G W m)) (hi : X.N[i]? = some x := by rfl) (hx : Loc X.env.scope x := by first | exact Or.inl rfl | exact Or.inr rfl)
    (hf : X.fn x = true ∨ X.env.scope.names.lookup x = some .local := by first | exact .inl rfl | exact .inr rfl) : PS X (.AugAssign (.Name x pos') op a pos) (tS X.K G W (sAug f i m)) := psImp (ps_aug (ti := r) hN hi hx ha ho hf) fun D0 σ H t => by
  obtain ⟨ρ, h, env, hr, he, p⟩ := t
  unfold sAug at p
  cases q : env[i]? with
  | none => rw [q] at p; exact p.elim
  | some o =>
    cases o with
    | none => rw [q] at p; exact p.elim
    | some d =>
      rw [q] at p
      obtain ⟨v, h1, h2⟩ := he.get i d q
      refine ⟨v, h1, tG_mono (tS_bind (rel := relV X.K) hr he p) fun y H1 ⟨ρ1, h1', d1, e1, hr1, he1, r1, p1⟩ => ?_⟩
      cases z : f d d1 h1' with
      | none => dsimp only at p1; rw [z] at p1; exact p1.elim
      | some zz =>
        obtain ⟨d2, h2'⟩ := zz
        dsimp only at p1
        rw [z] at p1
        exact im hr1 (h2.mono e1) r1 z fun ρ' H' v' e' a' b' => p1 ρ' H' _ e' a' ((he1.mono e').set b' i)
end

/-! ### a, b = .. -/
@[simp] def setAll : List Nat → List D → Ev → Ev
  | i :: is, d :: ds, env => setAll is ds (env.set i (some d))
  | _, _, env => env
/-- the parts of a tuple or a list -/
def partsOf : D → Hh → Option (List D)
  | .tup ds, _ => some ds
  | .fls ds, _ => some ds
  | .ref n, h => match h[n]? with
    | some (.lst ds) => some ds
    | _ => none
  | _, _ => none
/-- a target stores a value -/
abbrev TgM := D → Hh → Ev → Option Ev
def gtName (i : Nat) : TgM := fun d _ env => some (env.set i (some d))
def gtTup (is : List Nat) : TgM := fun d h env => match partsOf d h with
  | some ds => if ds.length = is.length then some (setAll is ds env) else none
  | none => none
def TgOk (K : PySem.W.Frag) (G : Cl) (g : TG) (s : TgM) : Prop := ∀ {ρ : List Addr} {H : Hp} {h : Hh} {σ : L2.St} {env env' : Ev} {v : V} {d : D} {Q : L2.St → Hp → Prop}, Rh K G ρ H h → Re K ρ H σ env → Rv K ρ H v d → s d h env = some env' → (∀ σ', Re K ρ H σ' env' → Q σ' H) → g v σ H Q
def sUnp (g : TgM) (m : M) : S := fun env h => bindS (m env h) env fun d h1 => match g d h1 env with
  | some env' => .nx env' h1
  | none => .bad
theorem PG.or {X : Cx} {tg : Expr} {t u : TG} (h1 : PG X tg t) (h2 : PG X tg u) : PG X tg (fun v σ H Q => t v σ H Q ∨ u v σ H Q) := ⟨fun pins s σ H v u Q I r q => by
  rcases q with q | q
  · exact h1.run pins s σ H v u Q I r q
  · exact h2.run pins s σ H v u Q I r q⟩
/-- the readings of names, one after another -/
def gNames : List Nat → TGs
  | [] => gNil
  | i :: is => gCons (gName i) (gNames is)
section
variable {X : Cx} {G : Cl} {W : WX} {e a b c tg : Expr} {es : List Expr} {st : Stmt} {pos : Pos} {m : M} {K : PySem.W.Frag}
theorem tg_name {i : Nat} : TgOk K G (gName i) (gtName i) := fun {ρ H h σ env env' v d Q} hr he r e k => by
  cases e
  exact k _ (he.set r i)
theorem names_imp {ρ : List Addr} {H : Hp} : ∀ {is : List Nat} {vs : List V} {ds : List D} {σ : L2.St} {env : Ev} {Q : L2.St → Hp → Prop}, ds.length = is.length → Re K ρ H σ env → Rvs K ρ H vs ds → (∀ σ', Re K ρ H σ' (setAll is ds env) → Q σ' H) → gNames is vs σ H Q
  | [], _, [], σ, env, Q, _, he, .nil, k => ⟨rfl, k σ he⟩
  | i :: is, _, d :: ds, σ, env, Q, l, he, .cons (v := v) (vs := vs) r rs, k => ⟨v, vs, rfl, names_imp (is := is) (by simpa using l) (he.set r i) rs k⟩
theorem tg_tup {is : List Nat} {n : Nat} (hn : n = is.length) : TgOk K G (fun v σ H Q => gTup K n (gNames is) v σ H Q ∨ gLst K n (gNames is) v σ H Q) (gtTup is) := fun {ρ H h σ env env' v d Q} hr he r e k => by
  unfold gtTup at e
  split at e
  · rename_i ds e1
    split at e
    · rename_i hl
      cases e
      unfold partsOf at e1
      split at e1
      · cases e1
        obtain ⟨a, vs, rfl, t, r⟩ := r.sqT
        exact .inl ⟨a, vs, rfl, t, by rw [r.length, hl, hn], names_imp hl he r k⟩
      · cases e1
        cases r with
        | fls t r => exact .inr ⟨_, _, rfl, t.sq, by rw [r.length, hl, hn], names_imp hl he r k⟩
      · cases r with
        | ref ra =>
          split at e1
          · rename_i e0
            cases e1
            obtain ⟨vs, q, r⟩ := ref_seq hr ra e0
            exact .inr ⟨_, vs, rfl, q, by rw [r.length, hl, hn], names_imp hl he r k⟩
          · cases e1
      · cases e1
    · cases e
  · cases e
theorem pgn_nil : PGs X [] (gNames []) := pgs_nil
theorem pgn_cons {i : Nat} {is : List Nat} {x : Str} {p : Pos} (hN : X.N.Nodup) (h2 : PGs X es (gNames is)) (hi : X.N[i]? = some x := by rfl) (hx : Loc X.env.scope x := by first | exact Or.inl rfl | exact Or.inr rfl) (hf : X.fn x = true ∨ X.env.scope.names.lookup x = some .local := by first | exact .inl rfl | exact .inr rfl)
    (hs : (assignEach (.Name x p :: es) X.env).map (·.2) = assign (.Name x p) X.env :: (assignEach es X.env).map (·.2) := by rfl) : PGs X (.Name x p :: es) (gNames (i :: is)) := pgs_cons (pg_name hN hi hx hf) h2 hs
theorem pgn_tup {is : List Nat} {k : Nat} (hc : X.calm = true) (h : PGs X es (gNames is)) (hn : (assignEach es X.env).length = is.length := by rfl) (hst : (assignEach es X.env).findIdx? (·.1) = none := by rfl) :
    PG X (.Tuple es k pos) (fun v σ H Q => gTup X.K is.length (gNames is) v σ H Q ∨ gLst X.K is.length (gNames is) v σ H Q) := PG.or (pg_tup hc h hn hst) (pg_lst hc h hn hst)
theorem s_unp {g : TG} {s : TgM} (ha : PE X a (tM X.K G W m)) (hg : PG X tg g) (ok : TgOk X.K G g s) (hs : swapsWithSole [tg] a pos.line X.env = pure false := by rfl) (hw : swappedStores [tg] a X.env = pure none := by rfl)
    (h1 : (assignEach [tg] X.env).map (·.2) = [assign tg X.env] := by rfl) : PS X (.Assign [tg] a pos) (tS X.K G W (sUnp s m)) := psImp (ps_asg ha hg hs hw h1) fun D0 σ H t => by
  obtain ⟨ρ, h, env, hr, he, p⟩ := t
  refine tG_mono (tS_bind (rel := relV X.K) hr he p) fun x H1 ⟨ρ1, h1, d, e1, hr1, he1, r1, p1⟩ => ?_
  dsimp only at p1
  cases q : s d h1 env with
  | none => rw [q] at p1; exact p1.elim
  | some env' =>
    rw [q] at p1
    exact ok hr1 he1 r1 q fun σ' he' => p1.nx_ hr1 he'
end

/-! ### for -/
/-- what a loop walks: its items, and the object that must stand still meanwhile -/
abbrev Src := List D × Option (Nat × O)
@[simp] def gdOk (gd : Option (Nat × O)) (h : Hh) : Prop := match gd with
  | none => True
  | some (n, o) => h[n]? = some o
open Classical in
noncomputable def forL (g : TgM) (body : S) (gd : Option (Nat × O)) : List D → Ev → Hh → SR
  | [], env, h => if gdOk gd h then .nx env h else .bad
  | x :: xs, env, h => if gdOk gd h then (match g x h env with
    | none => .bad
    | some env1 => match body env1 h with
      | .nx e' h' => forL g body gd xs e' h'
      | .ct e' h' => forL g body gd xs e' h'
      | .bk e' h' => .nx e' h'
      | r => r) else .bad
noncomputable def sFor (mi : Ev → Hh → R Src) (g : TgM) (body : S) : S := fun env h => bindS (mi env h) env fun src h1 => forL g body src.2 src.1 env h1
/-- what an iterator must do for its items -/
structure Walks (K : PySem.W.Frag) (G : Cl) (ρ0 : List Addr) (H0 : Hp) (J : It) (xs : List D) (gd : Option (Nat × O)) : Prop where
  go : ∀ (i : Nat) (ρ : List Addr) (H : Hp) (h : Hh), Rh K G ρ H h → Ex K ρ0 H0 ρ H → gdOk gd h → i < xs.length → J.go i H
  yld : ∀ (i : Nat) (ρ : List Addr) (H : Hp) (h : Hh) (x : V) (H' : Hp), Rh K G ρ H h → Ex K ρ0 H0 ρ H → gdOk gd h → J.yld i H x H' → ∀ d, xs[i]? = some d → H' = H ∧ Rv K ρ H x d
  stop : ∀ (ρ : List Addr) (H : Hp) (h : Hh), Rh K G ρ H h → Ex K ρ0 H0 ρ H → gdOk gd h → J.stop xs.length H
/-- an iterable's reading and its items -/
def ItOk (K : PySem.W.Frag) (G : Cl) (W : WX) (wi : TI) (mi : Ev → Hh → R Src) : Prop := ∀ (σ : L2.St) (H : Hp) (R : It → Hp → Prop),
  tG K G (fun ρ H (J : It) (s : Src) => Walks K G ρ H J s.1 s.2) W mi σ H R → wi σ H R
section
variable {X : Cx} {G : Cl} {W : WX} {e a b c tg iter : Expr} {es : List Expr} {st : Stmt} {body : List Stmt} {pos : Pos} {m : M} {K : PySem.W.Frag} {ρ : List Addr} {H : Hp} {h : Hh} {σ : L2.St} {env : Ev} {D0 : Ends}
theorem for_sound {J : It} {xs : List D} {gd : Option (Nat × O)} {g : TG} {s : TgM} {sb : S} (w : Walks K G ρ H J xs gd) (ok : TgOk K G g s) (hr : Rh K G ρ H h) (he : Re K ρ H σ env) (p : PoS K G W ρ H D0 (forL s sb gd xs env h)) :
    ∃ W' : Nat → Nat → L2.St → Hp → Prop, (∃ m, W' 0 m σ H) ∧ ∀ i m σ H, W' i m σ H →
      (J.stop i H ∧ D0.nx σ H) ∨ (J.go i H ∧ ∃ N : L2.St → Hp → Prop, (∀ σ' H', N σ' H' → ∃ m', m' < m ∧ W' (i + 1) m' σ' H') ∧ ∀ x H', J.yld i H x H' → g x σ H' fun σ2 H2 => tS K G W sb { D0 with nx := N, ct := N, bk := D0.nx } σ2 H2) := by
  refine ⟨fun i m σ' H' => i ≤ xs.length ∧ m = xs.length - i ∧ ∃ ρ' h' env', Ex K ρ H ρ' H' ∧ Rh K G ρ' H' h' ∧ Re K ρ' H' σ' env' ∧ PoS K G W ρ' H' D0 (forL s sb gd (xs.drop i) env' h'), ⟨_, Nat.zero_le _, rfl, ρ, h, env, Ex.refl, hr, he, p⟩, ?_⟩
  rintro i m σ1 H1 ⟨hi, rfl, ρ1, h1, env1, e1, hr1, he1, p1⟩
  by_cases hlt : i < xs.length
  · rw [List.drop_eq_getElem_cons hlt] at p1
    unfold forL at p1
    split at p1
    · rename_i hg
      refine .inr ⟨w.go i ρ1 H1 h1 hr1 e1 hg hlt, fun σ' H' => ∃ ρ' h' env', Ex K ρ1 H1 ρ' H' ∧ Rh K G ρ' H' h' ∧ Re K ρ' H' σ' env' ∧ PoS K G W ρ' H' D0 (forL s sb gd (xs.drop (i + 1)) env' h'), fun σ' H' ⟨ρ', h', env', e', hr', he', p'⟩ => ⟨_, by omega, hlt, rfl, ρ', h', env', e1.trans e', hr', he', p'⟩, fun x H' y => ?_⟩
      obtain ⟨rfl, rx⟩ := w.yld i ρ1 H1 h1 x H' hr1 e1 hg y xs[i] (by simp [hlt])
      split at p1
      · exact p1.elim
      · rename_i env2 q2
        refine ok hr1 he1 rx q2 fun σ2 he2 => ⟨ρ1, h1, env2, hr1, he2, ?_⟩
        cases q : sb env2 h1 with
        | nx e' h' => rw [q] at p1; exact fun ρ' H' σ' e a b => ⟨ρ', h', e', e, a, b, PoS.shift p1 e⟩
        | ct e' h' => rw [q] at p1; exact fun ρ' H' σ' e a b => ⟨ρ', h', e', e, a, b, PoS.shift p1 e⟩
        | bk e' h' => rw [q] at p1; exact p1
        | rt d h' => rw [q] at p1; exact p1
        | exc c fs e' h' => rw [q] at p1; exact p1
        | bad => rw [q] at p1; exact p1
    · exact p1.elim
  · have hl : i = xs.length := by omega
    subst hl
    rw [List.drop_length] at p1
    unfold forL at p1
    split at p1
    · rename_i hg
      exact .inl ⟨w.stop ρ1 H1 h1 hr1 e1 hg, p1.nx_ hr1 he1⟩
    · exact p1.elim
theorem s_for {wi : TI} {mi : Ev → Hh → R Src} {g : TG} {s : TgM} {sb : S} (hp : PassesOwn (model X.prog X.w) X.A X.env X.xe) (hc : X.calm = true) (hi : PI X tg iter wi) (oi : ItOk X.K G W wi mi) (hg : PG X tg g) (ok : TgOk X.K G g s) (hb : PSs X body (tS X.K G W sb))
    (hs : ∀ x, foldedSetIterable iter X.env x = pure x := by intro _; rfl) : PS X (.For tg iter body [] pos) (tS X.K G W (sFor mi s sb)) := psImp (ps_for hp hc hi hg hb hs) fun D0 σ H t => by
  obtain ⟨ρ, h, env, hr, he, p⟩ := t
  refine oi σ H _ (tG_mono (tS_bind hr he p) fun J H1 ⟨ρ1, h1, d, e1, hr1, he1, r1, p1⟩ => ?_)
  exact for_sound r1 ok hr1 he1 p1
theorem PI.or {wi wj : TI} (h1 : PI X tg iter wi) (h2 : PI X tg iter wj) : PI X tg iter (fun σ H R => wi σ H R ∨ wj σ H R) := ⟨fun pins s σ H R I q => by
  rcases q with q | q
  · exact h1.run pins s σ H R I q
  · exact h2.run pins s σ H R I q⟩
/-- a tuple or a list as it stands -/
def mSeq (m : M) : Ev → Hh → R Src := fun env h => (m env h).bind fun d h1 => match d with
  | .tup ds => .ok (ds, none) h1
  | .fls ds => .ok (ds, none) h1
  | .ref n => match h1[n]? with
    | some (.lst ds) => .ok (ds, some (n, .lst ds)) h1
    | _ => .bad
  | _ => .bad
theorem walks_tup {a : Addr} {ds : List D} (r : Rv K ρ H (.ref a) (.tup ds)) : Walks K G ρ H (Itt K a) ds none := by
  have get : ∀ {ρ' : List Addr} {H' : Hp}, Ex K ρ H ρ' H' → ∃ vs, SqT K H' a vs ∧ Rvs K ρ' H' vs ds := fun {ρ' H'} e => by
    obtain ⟨a', vs, e1, t, q⟩ := (r.mono e).sqT
    cases e1
    exact ⟨vs, t, q⟩
  refine ⟨fun i ρ' H' h' hr e _ hl => ?_, fun i ρ' H' h' x H2 hr e _ y d hd => ?_, fun ρ' H' h' hr e _ => ?_⟩
  · obtain ⟨vs, t, q⟩ := get e
    have hv : i < vs.length := by rw [q.length]; exact hl
    exact ⟨vs, vs[i], t, by simp [hv]⟩
  · obtain ⟨vs, t, q⟩ := get e
    obtain ⟨rfl, y⟩ := y
    have hx := y vs t
    obtain ⟨d', hd', rv⟩ := q.getV hx
    rw [hd] at hd'
    cases hd'
    exact ⟨rfl, rv⟩
  · obtain ⟨vs, t, q⟩ := get e
    exact ⟨vs, t, by rw [q.length]; exact Nat.le_refl _⟩
theorem walks_get {a : Addr} {ds : List D} {gd : Option (Nat × O)} (get : ∀ {ρ' : List Addr} {H' : Hp} {h' : Hh}, Rh K G ρ' H' h' → Ex K ρ H ρ' H' → gdOk gd h' → ∃ vs, SqL K H' a vs ∧ Rvs K ρ' H' vs ds) : Walks K G ρ H (Itl K a) ds gd := by
  refine ⟨fun i ρ' H' h' hr e g hl => ?_, fun i ρ' H' h' x H2 hr e g y d hd => ?_, fun ρ' H' h' hr e g => ?_⟩
  · obtain ⟨vs, t, q⟩ := get hr e g
    have hv : i < vs.length := by rw [q.length]; exact hl
    exact ⟨vs, vs[i], t, by simp [hv]⟩
  · obtain ⟨vs, t, q⟩ := get hr e g
    obtain ⟨rfl, y⟩ := y
    have hx := y vs t
    obtain ⟨d', hd', rv⟩ := q.getV hx
    rw [hd] at hd'
    cases hd'
    exact ⟨rfl, rv⟩
  · obtain ⟨vs, t, q⟩ := get hr e g
    exact ⟨vs, t, by rw [q.length]; exact Nat.le_refl _⟩
theorem walks_lst {a : Addr} {n : Nat} {ds : List D} (ra : ρ[n]? = some a) : Walks K G ρ H (Itl K a) ds (some (n, .lst ds)) :=
  walks_get fun {ρ' H' h'} hr e g => ref_seq hr (e.pre _ _ ra) g
theorem walks_fls {a : Addr} {ds : List D} (r : Rv K ρ H (.ref a) (.fls ds)) : Walks K G ρ H (Itl K a) ds none :=
  walks_get fun {ρ' H' h'} hr e g => by
    cases r.mono e with
    | fls t r => exact ⟨_, t.sq, r⟩
theorem io_seq : ItOk K G W (fun σ H R => iTup K (tM K G W m) σ H R ∨ iList K (tM K G W m) σ H R) (mSeq m) := fun σ H R0 t => by
  obtain ⟨ρ, h, env, hr, he, p⟩ := t
  unfold mSeq at p
  cases q : m env h with
  | bad => rw [q] at p; exact p.elim
  | exc c fs h' => rw [q] at p; exact .inl ⟨ρ, h, env, hr, he, by rw [q]; exact p⟩
  | ok d h1 =>
    rw [q] at p
    simp only [R.bind_ok] at p
    cases d with
    | tup ds =>
      refine .inl ⟨ρ, h, env, hr, he, ?_⟩
      rw [q]
      intro ρ' H' v e a r
      obtain ⟨x, vs, rfl, t, rs⟩ := r.sqT
      exact ⟨x, rfl, ⟨vs, t⟩, p ρ' H' _ e a (walks_tup r)⟩
    | fls ds =>
      refine .inr ⟨ρ, h, env, hr, he, ?_⟩
      rw [q]
      intro ρ' H' v e a r
      have w := r
      cases r with
      | fls t rs => exact ⟨_, rfl, ⟨_, t.sq⟩, p ρ' H' _ e a (walks_fls w)⟩
    | ref n =>
      dsimp only at p
      split at p
      · rename_i ds e0
        refine .inr ⟨ρ, h, env, hr, he, ?_⟩
        rw [q]
        intro ρ' H' v e a r
        cases r with
        | ref ra =>
          obtain ⟨vs, t, _⟩ := ref_seq a ra e0
          exact ⟨_, rfl, ⟨vs, t⟩, p ρ' H' _ e a (walks_lst ra)⟩
      · exact p.elim
    | _ => exact p.elim
theorem pi_seq (ha : PE X iter (tM X.K G W m)) : PI X tg iter (fun σ H R => iTup X.K (tM X.K G W m) σ H R ∨ iList X.K (tM X.K G W m) σ H R) := PI.or (pi_tup ha) (pi_list ha)
/-- range -/
def rngD (lo : Int) (n : Nat) : List D := (List.range n).map fun (i : Nat) => D.int (lo + (i : Int))
def inR (i : Int) : Bool := Nat.ble i.natAbs 4611686018427387903
def mRng1 (m : M) : Ev → Hh → R Src := fun env h => (m env h).bind fun d h1 => match d with
  | .int j => if inR j = true then .ok (rngD 0 j.toNat, none) h1 else .bad
  | _ => .bad
def mRng2 (ma mb : M) : Ev → Hh → R Src := fun env h => (ma env h).bind fun d h1 => (mb env h1).bind fun e h2 => match d, e with
  | .int i, .int j => if inR i = true ∧ inR j = true then .ok (rngD i (j - i).toNat, none) h2 else .bad
  | _, _ => .bad
theorem walks_rng {lo : Int} {n : Nat} : Walks K G ρ H (Itr lo n) (rngD lo n) none := by
  have hl : (rngD lo n).length = n := by unfold rngD; simp
  refine ⟨fun i ρ' H' h' hr e _ hi => by rw [hl] at hi; exact hi, fun i ρ' H' h' x H2 hr e _ y d hd => ?_, fun ρ' H' h' hr e _ => by rw [hl]; exact Nat.le_refl _⟩
  obtain ⟨rfl, rfl⟩ := y
  unfold rngD at hd
  rw [List.getElem?_map] at hd
  cases q : (List.range n)[i]? with
  | none => rw [q] at hd; cases hd
  | some j =>
    rw [q] at hd
    cases hd
    obtain ⟨h1, h2⟩ := List.getElem?_eq_some_iff.mp q
    simp at h2
    subst h2
    exact ⟨rfl, .int _⟩
theorem inR_of {i : Int} (e : inR i = true) : -(2 ^ 62) ≤ i ∧ i < 2 ^ 62 := by
  have h := Nat.le_of_ble_eq_true e
  omega
theorem io_rng1 : ItOk K G W (iRng1 (tL K G W (evs [m]))) (mRng1 m) := fun σ H R0 t => by
  obtain ⟨ρ, h, env, hr, he, p⟩ := t
  refine ⟨ρ, h, env, hr, he, ?_⟩
  unfold mRng1 at p
  show Po K G _ W ρ H σ ((m env h).bind fun d h1 => (evs [] env h1).bind fun ds h2 => .ok (d :: ds) h2) _
  cases q : m env h with
  | bad => rw [q] at p; exact p.elim
  | exc c fs h' => rw [q] at p; exact p
  | ok d h1 =>
    rw [q] at p
    cases d with
    | int j =>
      simp only [R.bind_ok] at p
      split at p
      · rename_i hj
        intro ρ' H' vs e a b
        cases b with
        | cons b1 b2 =>
          cases b1; cases b2
          exact ⟨j, rfl, (inR_of hj).1, (inR_of hj).2, p ρ' H' _ e a walks_rng⟩
      · exact p.elim
    | _ => exact p.elim
theorem io_rng2 {ma mb : M} : ItOk K G W (iRng2 (tL K G W (evs [ma, mb]))) (mRng2 ma mb) := fun σ H R0 t => by
  obtain ⟨ρ, h, env, hr, he, p⟩ := t
  refine ⟨ρ, h, env, hr, he, ?_⟩
  unfold mRng2 at p
  show Po K G _ W ρ H σ ((ma env h).bind fun d h1 => ((mb env h1).bind fun d2 h2 => (evs [] env h2).bind fun ds h3 => .ok (d2 :: ds) h3).bind fun ds h2 => .ok (d :: ds) h2) _
  cases q : ma env h with
  | bad => rw [q] at p; exact p.elim
  | exc c fs h' => rw [q] at p; exact p
  | ok d h1 =>
    rw [q] at p
    simp only [R.bind_ok] at p ⊢
    cases q2 : mb env h1 with
    | bad => rw [q2] at p; exact p.elim
    | exc c fs h' => rw [q2] at p; exact p
    | ok d2 h2 =>
      rw [q2] at p
      simp only [R.bind_ok] at p ⊢
      split at p
      · rename_i i j
        split at p
        · rename_i hj
          intro ρ' H' vs e a b
          cases b with
          | cons b1 b2 =>
            cases b2 with
            | cons b2 b3 =>
              cases b1; cases b2; cases b3
              exact ⟨i, j, rfl, ⟨(inR_of hj.1).1, (inR_of hj.1).2, (inR_of hj.2).1, (inR_of hj.2).2⟩, p ρ' H' _ e a walks_rng⟩
        · exact p.elim
      · exact p.elim
end

/-! ### while -/
def whileF (t : MT) (body : S) : Nat → Ev → Hh → SR
  | 0, _, _ => .bad
  | n + 1, env, h => bindS (t env h) env fun c h1 => if c = true then (match body env h1 with
    | .nx e' h' => whileF t body n e' h'
    | .ct e' h' => whileF t body n e' h'
    | .bk e' h' => .nx e' h'
    | r => r) else .nx env h1
def sWhile (fuel : Nat) (t : MT) (body : S) : S := fun env h => whileF t body fuel env h
theorem s_while {X : Cx} {G : Cl} {W : WX} {c : Expr} {body : List Stmt} {pos : Pos} {t : MT} {sb : S} (fuel : Nat) (hp : PassesOwn (model X.prog X.w) X.A X.env X.xe) (hc : PT X c (tT X.K G W t)) (hb : PSs X body (tS X.K G W sb)) : PS X (.While c body [] pos) (tS X.K G W (sWhile fuel t sb)) := psImp (ps_while hp hc hb) fun D0 σ H q => by
  obtain ⟨ρ, h, env, hr, he, p⟩ := q
  refine ⟨fun m σ' H' => ∃ ρ' h' env', Rh X.K G ρ' H' h' ∧ Re X.K ρ' H' σ' env' ∧ PoS X.K G W ρ' H' D0 (whileF t sb m env' h'), ⟨fuel, ρ, h, env, hr, he, p⟩, ?_⟩
  rintro m σ1 H1 ⟨ρ1, h1, env1, hr1, he1, p1⟩
  cases m with
  | zero => exact p1.elim
  | succ m =>
    unfold whileF at p1
    refine tG_mono (tS_bind (rel := relB) hr1 he1 p1) fun b H2 ⟨ρ2, h2, d, e2, hr2, he2, r2, p2⟩ => ?_
    subst r2
    cases b with
    | true =>
      refine ⟨fun σ' H' => ∃ ρ' h' env', Rh X.K G ρ' H' h' ∧ Re X.K ρ' H' σ' env' ∧ PoS X.K G W ρ' H' D0 (whileF t sb m env' h'), fun σ' H' w => ⟨m, Nat.lt_succ_self _, w⟩, ⟨ρ2, h2, env1, hr2, he2, ?_⟩⟩
      simp only [if_true] at p2
      cases q : sb env1 h2 with
      | nx e' h' => rw [q] at p2; exact fun ρ' H' σ' e a b => ⟨ρ', h', e', a, b, PoS.shift p2 e⟩
      | ct e' h' => rw [q] at p2; exact fun ρ' H' σ' e a b => ⟨ρ', h', e', a, b, PoS.shift p2 e⟩
      | bk e' h' => rw [q] at p2; exact p2
      | rt d h' => rw [q] at p2; exact p2
      | exc c fs e' h' => rw [q] at p2; exact p2
      | bad => rw [q] at p2; exact p2
    | false => exact p2.nx_ hr2 he2

/-! ### defs -/
abbrev Fm := List D → Hh → R D
def fnM (n : Nat) (body : S) : Fm := fun ds h => match body (ds.map some ++ List.replicate (n - ds.length) none) h with
  | .nx _ h' => .ok .non h'
  | .rt d h' => .ok d h'
  | .exc c fs _ h' => .exc c fs h'
  | _ => .bad
def spM (K : PySem.W.Frag) (G : Cl) (n : Nat) (f : Fm) : Sp := fun vs H Q E => ∃ ρ h ds, Rh K G ρ H h ∧ Rvs K ρ H vs ds ∧ vs.length = n ∧ Po K G (relV K) (fun c d _ H => E c d H) ρ H [] (f ds h) Q
/-- what the rules ask of the place where a body runs -/
structure Ct (X : Cx) (W : WX) (k : Nat) : Prop where
  tk : Takes X W
  po : PassesOwn (model X.prog X.w) X.A X.env X.xe
  hr : Room k X.A
  hc : X.calm = true
  nd : X.N.Nodup
theorem Ct.hu {X : Cx} {W : WX} {k : Nat} (c : Ct X W k) : X.A.units + 64 < cLine := c.hr.units
theorem Ct.hu1 {X : Cx} {W : WX} {k : Nat} (c : Ct X W k) : X.A.units + 1 < cLine := hu_of c.hr
/-- a def of the text, as its callers know it -/
def Ok (P : Program) (w : World) (K : PySem.W.Frag) (mg : Str → Option Value) (base : Heap) (G : Cl) (j : Nat) (x : Str) (ps : List Str) (fm : Fm) : Prop :=
  ∃ f fd, mg x = some (.ref f) ∧ PySem.W.keepIn K (.ref f) = true ∧ Binds K fd ps [] ∧ FnOk P w K mg base (L2.CX P w) j f fd ps (spM K G ps.length fm)
def eCall (fm : Fm) (ms : List M) : M := fun env h => (evs ms env h).bind fun ds h1 => fm ds h1
section
variable {P : Program} {w : World} {K : PySem.W.Frag} {mg : Str → Option Value} {base : Heap} {G : Cl}
theorem start_re {ρ : List Addr} {H : Hp} {vs : List V} {ds : List D} {N : List Str} (r : Rvs K ρ H vs ds) : Re K ρ H (L2.start N vs) (ds.map some ++ List.replicate (N.length - ds.length) none) := by
  have hl := r.length
  refine ⟨by unfold L2.start; simp [hl], fun i d e => ?_⟩
  by_cases q : i < ds.length
  · rw [List.getElem?_append_left (by simpa using q), List.getElem?_map] at e
    cases z : ds[i]? with
    | none => rw [z] at e; cases e
    | some d' =>
      rw [z] at e
      cases e
      obtain ⟨v, h1, h2⟩ := r.get z
      refine ⟨v, ?_, h2⟩
      unfold L2.start
      rw [List.getElem?_append_left (by simp; omega), List.getElem?_map, h1]
      rfl
  · rw [List.getElem?_append_right (by simp; omega)] at e
    rw [List.getElem?_replicate] at e
    split at e <;> cases e
theorem fn_ok {x qual : Str} {st : Stmt} {f : Addr} {fd : FuncData} {N ps : List Str} {k n np : Nat} {body : S} (hn : N.length = n) (hp : ps.length = np) (F : Fun K x qual st f fd) (S : FnScope N ps (defScope st))
    (hb : ∀ (cdv : Value) (A : Around) (outer : List Env) (s : Shared) (H : Hp) (E : XK), Ct (cxOf (L2.CX P w) P w K mg base N qual (defScope st) f cdv A outer s H E) (fun c d _ H => E c d H) k →
      PSs (cxOf (L2.CX P w) P w K mg base N qual (defScope st) f cdv A outer s H E) (defBody st) (tS K G (fun c d _ H => E c d H) body)) : FnOk P w K mg base (L2.CX P w) (k + 1) f fd ps (spM K G np (fnM n body)) := by
  subst hn hp
  refine F.okX S (fun vs H Q E ⟨_, _, _, _, _, l, _⟩ => l) fun cdv A outer s H vs Q E hr ⟨ρ, h, ds, rh, rs, l, p⟩ => ?_
  refine ⟨_, hb cdv A outer s H E ⟨takes_of rfl rfl rfl rfl, passes_of rfl, hr, rfl, S.nd⟩, ρ, h, _, rh, start_re rs, ?_⟩
  unfold fnM at p
  cases q : body (ds.map some ++ List.replicate (N.length - ds.length) none) h with
  | nx env h' => rw [q] at p; exact fun ρ' H' σ' e a b => p ρ' H' .non e a .non
  | rt d h' => rw [q] at p; exact p
  | exc c fs env h' => rw [q] at p; exact fun ρ' H' σ' d e a b z => p ρ' H' d e a z
  | bk env h' => rw [q] at p; exact p.elim
  | ct env h' => rw [q] at p; exact p.elim
  | bad => rw [q] at p; exact p.elim
end
section
variable {X : Cx} {G : Cl} {W : WX} {e a b c : Expr} {es : List Expr} {pos p : Pos} {ms : List M} {k j : Nat} {x : Str} {ps : List Str} {fm : Fm}
theorem se_call (ct : Ct X W k) (F : Ok X.prog X.w X.K X.mg X.base G j x ps fm) (hj : j ≤ k) (hg : Gl X x) (ha : PA X (e :: es) (tL X.K G W (evs ms))) (hl : ms.length = ps.length := by rfl) (hdb : (x == ("__debug__" : Str)) = false := by decide)
    (he : starEach (e :: es) X.env = (false, eval e X.env) :: starEach es X.env := by rfl) (hpl : (backTo pos (starEach es X.env)).any (·.1) = false := by rfl) : PE X (.Call (.Name x p) (e :: es) [] pos) (tM X.K G W (eCall fm ms)) := by
  obtain ⟨f, fd, hm, hk, hb, F⟩ := F
  refine peImp (pe_callS F (ct.hr.mono hj) hg hm hk hb (fun σ => passAt ct.tk σ) ha hdb he hpl) fun σ H Q t => ?_
  obtain ⟨ρ, h, env, hr, he, p⟩ := t
  refine ⟨ρ, h, env, hr, he, ?_⟩
  unfold eCall at p
  cases q : evs ms env h with
  | bad => rw [q] at p; exact p
  | exc c fs h' => rw [q] at p; exact p
  | ok ds h1 =>
    rw [q] at p
    simp only [R.bind_ok] at p
    intro ρ' H' vs e1 a1 b1
    refine ⟨ρ', h1, ds, a1, b1, by rw [b1.length, evs_len q, hl], ?_⟩
    have p' := p.shift e1
    cases q2 : fm ds h1 with
    | bad => rw [q2] at p'; exact p'
    | exc c fs h' => rw [q2] at p'; exact p'
    | ok d h' => rw [q2] at p'; exact p'
end
end Sm
/-! SmE: built-in functions, list methods, o[i] = v, dicts. -/
namespace Sm
open PySem L2 PyProof.Rows

section
variable {X : Cx} {G : Cl} {W : WX} {e a b c o : Expr} {es : List Expr} {st : Stmt} {pos p : Pos} {m ma mb mo : M} {ms : List M} {K : PySem.W.Frag} {ρ : List Addr} {H : Hp} {h : Hh} {k : Nat}
theorem Rvs.one {vs : List V} {d : D} (r : Rvs K ρ H vs [d]) : ∃ v, vs = [v] ∧ Rv K ρ H v d := by
  cases r with
  | cons r q => cases q; exact ⟨_, rfl, r⟩
theorem Rvs.two {vs : List V} {d e : D} (r : Rvs K ρ H vs [d, e]) : ∃ v w, vs = [v, w] ∧ Rv K ρ H v d ∧ Rv K ρ H w e := by
  cases r with
  | cons r q =>
    obtain ⟨w, rfl, q2⟩ := q.one
    exact ⟨_, _, rfl, r, q2⟩

/-! ### numbers -/
def opAbs : List D → Hh → Option (D × Hh)
  | [.int i], h => some (.int (if i < 0 then -i else i), h)
  | _, _ => none
theorem im_abs : ImpN K G (fun xs H Q => ∃ i, xs = [.int i] ∧ Q (.int (if i < 0 then -i else i)) H) opAbs := fun {ρ H h xs ds d h' Q} hr rs e k => by
  unfold opAbs at e
  split at e
  · cases e
    obtain ⟨v, rfl, r⟩ := rs.one
    cases r
    exact ⟨_, rfl, k _ _ _ Ex.refl hr (.int _)⟩
  · cases e
def opInt : List D → Hh → Option (D × Hh)
  | [.int i], h => some (.int i, h)
  | [.bl b], h => some (.int (if b = true then 1 else 0), h)
  | _, _ => none
theorem im_int : ImpN K G (fun xs H Q => (∃ i, xs = [.int i] ∧ Q (.int i) H) ∨ ∃ k, xs = [.bl k] ∧ Q (.int (if k then 1 else 0)) H) opInt := fun {ρ H h xs ds d h' Q} hr rs e k => by
  unfold opInt at e
  split at e
  · cases e
    obtain ⟨v, rfl, r⟩ := rs.one
    cases r
    exact .inl ⟨_, rfl, k _ _ _ Ex.refl hr (.int _)⟩
  · cases e
    obtain ⟨v, rfl, r⟩ := rs.one
    cases r
    exact .inr ⟨_, rfl, k _ _ _ Ex.refl hr (.int _)⟩
  · cases e
def opMax : List D → Hh → Option (D × Hh)
  | [.int i, .int j], h => some (.int (if j > i then j else i), h)
  | _, _ => none
theorem im_max : ImpN K G (fun xs H Q => ∃ i j, xs = [.int i, .int j] ∧ Q (.int (if j > i then j else i)) H) opMax := fun {ρ H h xs ds d h' Q} hr rs e k => by
  unfold opMax at e
  split at e
  · cases e
    obtain ⟨v, w, rfl, r, r2⟩ := rs.two
    cases r; cases r2
    exact ⟨_, _, rfl, k _ _ _ Ex.refl hr (.int _)⟩
  · cases e
def opMin : List D → Hh → Option (D × Hh)
  | [.int i, .int j], h => some (.int (if j < i then j else i), h)
  | _, _ => none
theorem im_min : ImpN K G (fun xs H Q => ∃ i j, xs = [.int i, .int j] ∧ Q (.int (if j < i then j else i)) H) opMin := fun {ρ H h xs ds d h' Q} hr rs e k => by
  unfold opMin at e
  split at e
  · cases e
    obtain ⟨v, w, rfl, r, r2⟩ := rs.two
    cases r; cases r2
    exact ⟨_, _, rfl, k _ _ _ Ex.refl hr (.int _)⟩
  · cases e

/-! ### lengths, lists, tuples -/
def opLen : List D → Hh → Option (D × Hh)
  | [.str y], h => if y.length ≤ sizeLine then some (.int y.length, h) else none
  | [.tup ds], h => some (.int ds.length, h)
  | [.fls ds], h => some (.int ds.length, h)
  | [.ref n], h => match h[n]? with
    | some (.lst ds) => some (.int ds.length, h)
    | some (.dK ds) => some (.int ds.length, h)
    | some (.dT ds) => some (.int ds.length, h)
    | _ => none
  | _, _ => none
abbrev rLenAll (K : PySem.W.Frag) : List V → Hp → VK → Prop := fun xs H Q => (∃ x n, xs = [x] ∧ LenV K x H n ∧ Q (.int n) H) ∨ ((∃ a kvs, xs = [V.ref a] ∧ H a = some (.dK kvs) ∧ Q (.int kvs.length) H) ∨ rLenT xs H Q)
theorem call_lenAll : CallR X (.builtin "len") (rLenAll X.K) := call_len.or (call_lenD.or call_len_dT)
theorem im_len : ImpN K G (rLenAll K) opLen := fun {ρ H h xs ds d h' Q} hr rs e k => by
  unfold opLen at e
  split at e
  · split at e
    · cases e
      obtain ⟨v, rfl, r⟩ := rs.one
      cases r
      exact .inl ⟨_, _, rfl, ⟨by assumption, rfl⟩, k _ _ _ Ex.refl hr (.int _)⟩
    · cases e
  · cases e
    obtain ⟨v, rfl, r⟩ := rs.one
    obtain ⟨a, vs, rfl, t, q⟩ := r.sqT
    refine .inl ⟨_, vs.length, rfl, .inr ⟨vs, t, rfl⟩, ?_⟩
    rw [q.length]
    exact k _ _ _ Ex.refl hr (.int _)
  · cases e
    obtain ⟨v, rfl, r⟩ := rs.one
    cases r with
    | @fls a vs _ t q =>
      refine .inl ⟨_, vs.length, rfl, .inl ⟨vs, t.sq, rfl⟩, ?_⟩
      rw [q.length]
      exact k _ _ _ Ex.refl hr (.int _)
  · obtain ⟨v, rfl, r⟩ := rs.one
    cases r with
    | ref ra =>
      split at e
      · rename_i e0
        cases e
        obtain ⟨vs, q, r⟩ := ref_seq hr ra e0
        refine .inl ⟨_, vs.length, rfl, .inl ⟨vs, q, rfl⟩, ?_⟩
        rw [r.length]
        exact k _ _ _ Ex.refl hr (.int _)
      · rename_i e0
        cases e
        have z := hr.at_ ra e0
        cases z with
        | dK q r =>
          refine .inr (.inl ⟨_, _, rfl, q, ?_⟩)
          rw [Paired.length r]
          exact k _ _ _ Ex.refl hr (.int _)
      · rename_i e0
        cases e
        have z := hr.at_ ra e0
        cases z with
        | dT q r =>
          refine .inr (.inr ⟨_, _, rfl, q, ?_⟩)
          rw [Paired.length r]
          exact k _ _ _ Ex.refl hr (.int _)
      · cases e
  · cases e
@[simp] def kD : Key → D
  | .inl i => .int i
  | .inr x => .str x
theorem rv_key (k : Key) : Rv K ρ H (kV k) (kD k) := by
  cases k with
  | inl i => exact .int i
  | inr x => exact .str x
def opList : List D → Hh → Option (D × Hh)
  | [.tup ds], h => some (.ref h.length, h ++ [.lst ds])
  | [.fls ds], h => some (.ref h.length, h ++ [.lst ds])
  | [.ref n], h => match h[n]? with
    | some (.lst ds) => some (.ref h.length, h ++ [.lst ds])
    | some (.dK kvs) => some (.ref h.length, h ++ [.lst (kvs.map fun kv => kD kv.1)])
    | some (.dT kvs) => some (.ref h.length, h ++ [.lst (kvs.map fun kv => .tup (kv.1.map kD))])
    | _ => none
  | _, _ => none
abbrev rListAll (K : PySem.W.Frag) : List V → Hp → VK → Prop := fun xs H Q => (∃ p ys, xs = [.ref p] ∧ (SqL K H p ys ∨ SqT K H p ys) ∧ ∀ l, H l = none → Q (.ref l) (upd H l (.lst ys))) ∨ (rListD xs H Q ∨
  (∃ d kvs, xs = [V.ref d] ∧ Rd H d (.dT kvs) ∧ ∀ p bs, H p = none → IsKeys H kvs bs → Q (.ref p) (upd H p (.lst (bs.map V.ref)))))
theorem call_listAll (hc : X.calm = true) : CallR X (.type "list") (rListAll X.K) := call_list_of.or ((call_list_dK hc).or (call_list_dT hc))
theorem rvs_keys : ∀ {kvs : List (Key × V)} {ds : List (Key × D)}, Paired (fun (p : Key × V) (q : Key × D) => p.1 = q.1 ∧ Rv K ρ H p.2 q.2) kvs ds → Rvs K ρ H (kvs.map fun kv => kV kv.1) (ds.map fun kv => kD kv.1)
  | _, _, .nil => .nil
  | _, _, .cons (l₁ := l1) (l₂ := l2) h t => .cons (by dsimp only; rw [h.1]; exact rv_key _) (rvs_keys t)
theorem rvs_kV : ∀ ks : List Key, Rvs K ρ H (ks.map kV) (ks.map kD)
  | [] => .nil
  | k :: ks => .cons (rv_key k) (rvs_kV ks)
theorem rvs_keysT : ∀ {kvs : List (List Key × V)} {ds : List (List Key × D)} {bs : List Addr}, Paired (fun (p : List Key × V) (q : List Key × D) => p.1 = q.1 ∧ Rv K ρ H p.2 q.2) kvs ds → IsKeys H kvs bs → Rvs K ρ H (bs.map V.ref) (ds.map fun kv => .tup (kv.1.map kD))
  | _, _, _, .nil, .nil => .nil
  | _, _, _, .cons h t, .cons z y => .cons (.tup z (by rw [h.1]; exact rvs_kV _)) (rvs_keysT t y)
theorem im_list : ImpN K G (rListAll K) opList := fun {ρ H h xs ds d h' Q} hr rs e k => by
  unfold opList at e
  split at e
  · cases e
    obtain ⟨v, rfl, r⟩ := rs.one
    obtain ⟨a, vs, rfl, t, q⟩ := r.sqT
    exact .inl ⟨a, vs, rfl, .inr t, new_lst hr q k⟩
  · cases e
    obtain ⟨v, rfl, r⟩ := rs.one
    cases r with
    | fls t q => exact .inl ⟨_, _, rfl, .inl t.sq, new_lst hr q k⟩
  · obtain ⟨v, rfl, r⟩ := rs.one
    cases r with
    | ref ra =>
      split at e
      · rename_i e0
        cases e
        obtain ⟨vs, q, r⟩ := ref_seq hr ra e0
        exact .inl ⟨_, vs, rfl, .inl q, new_lst hr r k⟩
      · rename_i e0
        cases e
        have z := hr.at_ ra e0
        cases z with
        | dK q r => exact .inr (.inl ⟨_, _, rfl, q, new_lst hr (rvs_keys r) k⟩)
      · rename_i e0
        cases e
        have z := hr.at_ ra e0
        cases z with
        | dT q r => exact .inr (.inr ⟨_, _, rfl, .inl q, fun p bs n hb => new_lst hr (rvs_keysT r hb) k p n⟩)
      · cases e
  · cases e
def opTupleOf : List D → Hh → Option (D × Hh)
  | [.tup ds], h => some (.tup ds, h)
  | [.fls ds], h => some (.tup ds, h)
  | [.ref n], h => match h[n]? with
    | some (.lst ds) => some (.tup ds, h)
    | _ => none
  | _, _ => none
theorem im_tuple : ImpN K G (fun xs H Q => ∃ p ys, xs = [.ref p] ∧ ((SqL K H p ys ∧ ∀ l, H l = none → Q (.ref l) (upd H l (.tup ys))) ∨ (SqT K H p ys ∧ Q (.ref p) H))) opTupleOf := fun {ρ H h xs ds d h' Q} hr rs e k => by
  unfold opTupleOf at e
  split at e
  · cases e
    obtain ⟨v, rfl, r⟩ := rs.one
    obtain ⟨a, vs, rfl, t, q⟩ := r.sqT
    exact ⟨a, vs, rfl, .inr ⟨t, k _ _ _ Ex.refl hr r⟩⟩
  · cases e
    obtain ⟨v, rfl, r⟩ := rs.one
    cases r with
    | fls t q => exact ⟨_, _, rfl, .inl ⟨t.sq, new_tup hr q k⟩⟩
  · obtain ⟨v, rfl, r⟩ := rs.one
    cases r with
    | ref ra =>
      split at e
      · rename_i e0
        cases e
        obtain ⟨vs, q, r⟩ := ref_seq hr ra e0
        exact ⟨_, vs, rfl, .inl ⟨q, new_tup hr r k⟩⟩
      · cases e
  · cases e
/-- the ints, rising -/
def sortI (ns : List Int) : List Int := ns.mergeSort (fun a b => decide (a ≤ b))
theorem sortI_perm (ns : List Int) : (sortI ns).Perm ns := List.mergeSort_perm ns _
theorem sortI_pair (ns : List Int) : (sortI ns).Pairwise (· ≤ ·) := by
  have h := List.pairwise_mergeSort (le := fun a b : Int => decide (a ≤ b)) (fun a b c h1 h2 => by simp only [decide_eq_true_eq] at *; omega) (fun a b => by simp only [Bool.or_eq_true, decide_eq_true_eq]; omega) ns
  exact h.imp fun h => by simpa using h
theorem sortI_eq {ns ms : List Int} (hp : ms.Perm ns) (hs : ms.Pairwise (· ≤ ·)) : ms = sortI ns := PySem.W.ksm_same (hp.trans (sortI_perm ns).symm) hs (sortI_pair ns)
def keyInts : List (Key × D) → Option (List Int)
  | [] => some []
  | (.inl i, _) :: r => (keyInts r).map (i :: ·)
  | _ :: _ => none
def opSorted : List D → Hh → Option (D × Hh)
  | [.fls ds], h => match intsOf ds with
    | some ns => some (.ref h.length, h ++ [.lst ((sortI ns).map D.int)])
    | none => none
  | [.ref n], h => match h[n]? with
    | some (.lst ds) => match intsOf ds with
      | some ns => some (.ref h.length, h ++ [.lst ((sortI ns).map D.int)])
      | none => none
    | some (.dK kvs) => match keyInts kvs with
      | some ns => if ns.length < 64 then some (.ref h.length, h ++ [.lst ((sortI ns).map D.int)]) else none
      | none => none
    | _ => none
  | _, _ => none
abbrev rSortedDI : List V → Hp → VK → Prop := fun xs H Q => ∃ (a : Addr) (kvs : List (Key × V)) (ks : List Int), xs = [.ref a] ∧ Rd H a (.dK kvs) ∧ kvs.map (·.1) = ks.map Sum.inl ∧ ks.length < 64 ∧
    ∀ (ys : List Int) (p : Addr), ys.Perm ks → ys.Pairwise (· ≤ ·) → H p = none → Q (.ref p) (upd H p (.lst (ys.map V.int)))
theorem keyInts_eq : ∀ {kvs : List (Key × V)} {ds : List (Key × D)} {ns : List Int}, Paired (fun (p : Key × V) (q : Key × D) => p.1 = q.1 ∧ Rv K ρ H p.2 q.2) kvs ds → keyInts ds = some ns → kvs.map (·.1) = ns.map Sum.inl
  | _, _, ns, .nil, e => by cases e; rfl
  | _, _, ns, .cons (b := (.inl i, y)) h t, e => by
    simp only [keyInts, Option.map_eq_some_iff] at e
    obtain ⟨ms, e1, rfl⟩ := e
    rw [List.map_cons, List.map_cons, keyInts_eq t e1, h.1]
  | _, _, ns, .cons (b := (.inr x, y)) h t, e => by simp [keyInts] at e
theorem im_sorted : ImpN K G (fun xs H Q => rSortedI K xs H Q ∨ rSortedDI xs H Q) opSorted := fun {ρ H h xs ds d h' Q} hr rs e k => by
  unfold opSorted at e
  split at e
  · obtain ⟨v, rfl, r⟩ := rs.one
    cases r with
    | fls t r =>
      split at e
      · rename_i ns e1
        cases e
        have z := intsOf_eq e1
        subst z
        have y := r.ints
        subst y
        refine .inl ⟨_, ns, rfl, t.sq, fun ns' p hp hs hn => ?_⟩
        rw [sortI_eq hp hs]
        exact new_lst hr (Rvs.of_ints _) k p hn
      · cases e
  · obtain ⟨v, rfl, r⟩ := rs.one
    cases r with
    | ref ra =>
      split at e
      · rename_i e0
        split at e
        · rename_i ns e1
          cases e
          have z := intsOf_eq e1
          subst z
          obtain ⟨vs, q, r⟩ := ref_seq hr ra e0
          have y := r.ints
          subst y
          refine .inl ⟨_, ns, rfl, q, fun ns' p hp hs hn => ?_⟩
          rw [sortI_eq hp hs]
          exact new_lst hr (Rvs.of_ints _) k p hn
        · cases e
      · rename_i e0
        split at e
        · rename_i ns e1
          split at e
          · rename_i hl
            cases e
            have z := hr.at_ ra e0
            cases z with
            | dK q r =>
              refine .inr ⟨_, _, ns, rfl, .inl q, keyInts_eq r e1, hl, fun ns' p hp hs hn => ?_⟩
              rw [sortI_eq hp hs]
              exact new_lst hr (Rvs.of_ints _) k p hn
          · cases e
        · cases e
      · cases e
  · cases e

/-! ### isinstance -/
inductive Ty where
  | int | bool | str | tuple | list | dict | none
  deriving DecidableEq
def Ty.name : Ty → String
  | .int => "int" | .bool => "bool" | .str => "str" | .tuple => "tuple" | .list => "list" | .dict => "dict" | .none => "NoneType"
def isT : Ty → Ty → Bool
  | .int, .int => true | .bool, .bool => true | .bool, .int => true | .str, .str => true | .tuple, .tuple => true | .list, .list => true | .dict, .dict => true | .none, .none => true
  | _, _ => false
theorem kit_isT (a b : Ty) (hb : b ≠ .none) : kitB a.name b.name = some (isT a b) := by
  cases a <;> cases b <;> first | (exact absurd rfl hb) | decide +kernel
def tyD : D → Hh → Option Ty
  | .non, _ => some .none
  | .bl _, _ => some .bool
  | .int _, _ => some .int
  | .str _, _ => some .str
  | .tup _, _ => some .tuple
  | .fls _, _ => some .list
  | .ref n, h => match h[n]? with
    | some (.lst _) => some .list
    | some (.dK _) => some .dict
    | some (.dT _) => some .dict
    | _ => none
theorem tyD_ok (hr : Rh K G ρ H h) {v : V} {d : D} {t : Ty} (r : Rv K ρ H v d) (e : tyD d h = some t) : TyX K H v (.type t.name) := by
  cases r with
  | non => cases e; exact .base .non
  | bl b => cases e; exact .base (.bl b)
  | int i => cases e; exact .base (.int i)
  | str x => cases e; exact .base (.str x)
  | tup q _ => cases e; exact .base (.tup q)
  | ktp q _ _ =>
    cases e
    obtain ⟨o, its, n, h1, h2, _⟩ := q
    exact .kTuple h1 h2
  | fls q _ =>
    cases e
    rcases q with ⟨o, q⟩ | ⟨o, its, n, h1, h2, _⟩
    · exact .base (.frz q)
    · exact .kList h1 h2
  | ref ra =>
    simp only [tyD] at e
    split at e
    · rename_i e0
      cases e
      have z := hr.at_ ra e0
      cases z with
      | lst q _ => exact .base (.lst q)
    · rename_i e0
      cases e
      have z := hr.at_ ra e0
      cases z with
      | dK q _ => exact .base (.dK q)
    · rename_i e0
      cases e
      have z := hr.at_ ra e0
      cases z with
      | dT q _ => exact .base (.dT q)
    · cases e
def opIsi (t : Ty) (d : D) (h : Hh) : Option (D × Hh) := (tyD d h).map fun u => (.bl (isT u t), h)
theorem se_isi (t : Ty) {ec : Expr} (hx : PE X e (tM X.K G W m)) (hc : PE X ec (tC (.ty t.name))) (hg : Gl X "isinstance") (hm : X.mg "isinstance" = none) (ht : t ≠ .none := by decide) (h1 : starEach [e, ec] X.env = (false, eval e X.env) :: starEach [ec] X.env := by rfl) (h2 : starEach [ec] X.env = (false, eval ec X.env) :: starEach [] X.env := by rfl)
    (hpl : (backTo pos (starEach [ec] X.env)).any (·.1) = false := by rfl) : PE X (.Call (.Name "isinstance" p) [e, ec] [] pos) (tM X.K G W (eU (opIsi t) m)) :=
  peImp (pe_callB call_isi hg hm boot_isinstance (pa_cons hx (pa_cons hc pa_nil h2) h1) (by decide) (by decide) h1 hpl) fun σ H Q t' => by
    obtain ⟨ρ, h, env, hr, he, p⟩ := t'
    refine tG_mono (tG_bind (rel := relV X.K) hr he p) fun x H1 ⟨ρ1, h1, d, e1, hr1, he1, r1, p1⟩ => ?_
    obtain ⟨d2, h2, eq, k⟩ := p1.opt
    unfold opIsi at eq
    simp only [Option.map_eq_some_iff, Prod.mk.injEq] at eq
    obtain ⟨u, eu, rfl, rfl⟩ := eq
    exact ⟨x, .ty t.name, .type u.name, .type t.name, _, rfl, .ty _, tyD_ok hr1 r1 eu, kit_ty (kit_isT u t ht), k _ _ _ Ex.refl hr1 (.bl _)⟩
theorem se_ty {x : Str} {T : String} (hg : Gl X x) (hm : X.mg x = none) (hv : bootBuiltins x = some (.type T)) (hn : x ≠ "__name__" := by decide) (hd : (x == ("__debug__" : Str)) = false := by decide) : PE X (.Name x pos) (tC (.ty T)) := pe_bltn hg hm hv rfl hn hd

/-! ### methods of lists -/
def isL (d : D) (h : Hh) : Bool := match d with
  | .ref n => match h[n]? with
    | some (.lst _) => true
    | _ => false
  | _ => false
def eMt (f : D → List D → Hh → Option (D × Hh)) (mo : M) (ms : List M) : M := fun env h => (mo env h).bind fun o h1 => if isL o h1 = true then (evs ms env h1).bind fun ds h2 => R.opt (f o ds h2) else .bad
def ImpM (K : PySem.W.Frag) (G : Cl) (r : V → List V → Hp → VK → Prop) (f : D → List D → Hh → Option (D × Hh)) : Prop := ∀ {ρ : List Addr} {H : Hp} {h : Hh} {x : V} {o : D} {xs : List V} {ds : List D} {d : D} {h' : Hh} {Q : VK}, Rh K G ρ H h → Rv K ρ H x o → Rvs K ρ H xs ds → f o ds h = some (d, h') →
  (∀ ρ' H' v, Ex K ρ H ρ' H' → Rh K G ρ' H' h' → Rv K ρ' H' v d → Q v H') → r x xs H Q
theorem isL_ok (hr : Rh K G ρ H h) {v : V} {d : D} (r : Rv K ρ H v d) (e : isL d h = true) : tyV K "list" v H := by
  cases d with
  | ref n =>
    cases r with
    | ref ra =>
      simp only [isL] at e
      split at e
      · rename_i e0
        obtain ⟨vs, q, _⟩ := ref_lst hr ra e0
        exact .inl ⟨rfl, vs, SqL.of q⟩
      · cases e
  | _ => cases e
theorem mt_imp {r : V → List V → Hp → VK → Prop} {f : D → List D → Hh → Option (D × Hh)} (i : ImpM X.K G r f) (σ : L2.St) (H : Hp) (Q : VK) (t : tM X.K G W (eMt f mo ms) σ H Q) : tBM X.K "list" r (tM X.K G W mo) (tL X.K G W (evs ms)) σ H Q := by
  obtain ⟨ρ, h, env, hr, he, p⟩ := t
  refine tG_mono (tG_bind (rel := relV X.K) hr he p) fun x H1 ⟨ρ1, h1, d, e1, hr1, he1, r1, p1⟩ => ?_
  dsimp only at p1
  split at p1
  · rename_i hl
    refine ⟨isL_ok hr1 r1 hl, tG_mono (tG_bind (rel := relVs X.K) hr1 he1 p1) fun xs H2 ⟨ρ2, h2, ds, e2, hr2, he2, r2, p2⟩ => ?_⟩
    obtain ⟨d3, h3, eq, k⟩ := p2.opt
    exact i hr2 (r1.mono e2) r2 eq k
  · exact p1.elim
theorem mt0_imp {r : V → List V → Hp → VK → Prop} {f : D → List D → Hh → Option (D × Hh)} (i : ImpM X.K G r f) (σ : L2.St) (H : Hp) (Q : VK) (t : tM X.K G W (eMt f mo []) σ H Q) : tBM0 X.K "list" r (tM X.K G W mo) σ H Q := by
  obtain ⟨ρ, h, env, hr, he, p⟩ := t
  refine tG_mono (tG_bind (rel := relV X.K) hr he p) fun x H1 ⟨ρ1, h1, d, e1, hr1, he1, r1, p1⟩ => ?_
  dsimp only at p1
  split at p1
  · rename_i hl
    refine ⟨isL_ok hr1 r1 hl, ?_⟩
    have p2 : Po X.K G (relV X.K) W ρ1 H1 σ (R.opt (f d [] h1)) Q := p1
    obtain ⟨d3, h3, eq, k⟩ := p2.opt
    exact i hr1 r1 .nil eq k
  · exact p1.elim
def opAppend : D → List D → Hh → Option (D × Hh)
  | .ref n, [y], h => match h[n]? with
    | some (.lst xs) => if xs.length < sizeLine then some (.non, h.set n (.lst (xs ++ [y]))) else none
    | _ => none
  | _, _, _ => none
/-- a list is written -/
theorem wr_lst {n : Nat} {a : Addr} {ds ds' : List D} {vs' : List V} {v : V} {d : D} {Q : VK} (hr : Rh K G ρ H h) (ra : ρ[n]? = some a) (e : h[n]? = some (.lst ds)) (r : Rvs K ρ H vs' ds') (rv : Rv K ρ H v d)
    (k : ∀ ρ' H' v, Ex K ρ H ρ' H' → Rh K G ρ' H' (h.set n (.lst ds')) → Rv K ρ' H' v d → Q v H') : Q v (upd H a (.lst vs')) :=
  have e1 : Ex K ρ H ρ (upd H a (.lst vs')) := Ex.write hr ra e
  k ρ _ _ e1 (hr.write ra e (.lst upd_same (r.mono e1))) (rv.mono e1)
theorem im_append : ImpM K G rAppend opAppend := fun {ρ H h x o xs ds d h' Q} hr ro rs e k => by
  unfold opAppend at e
  split at e
  · cases ro with
    | ref ra =>
      obtain ⟨v, rfl, r⟩ := rs.one
      split at e
      · rename_i zs e0
        split at e
        · rename_i hl
          cases e
          obtain ⟨vs, q, r2⟩ := ref_lst hr ra e0
          exact ⟨_, vs, v, rfl, rfl, q, by rw [r2.length]; exact hl, wr_lst hr ra e0 (r2.append (.cons r .nil)) .non k⟩
        · cases e
      · cases e
  · cases e
def opPop : D → List D → Hh → Option (D × Hh)
  | .ref n, [], h => match h[n]? with
    | some (.lst xs) => match xs[xs.length - 1]? with
      | some y => some (y, h.set n (.lst xs.dropLast))
      | none => none
    | _ => none
  | _, _, _ => none
theorem im_pop : ImpM K G rPop opPop := fun {ρ H h x o xs ds d h' Q} hr ro rs e k => by
  unfold opPop at e
  split at e
  · cases ro with
    | ref ra =>
      cases rs
      split at e
      · rename_i zs e0
        split at e
        · rename_i y ey
          cases e
          obtain ⟨vs, q, r2⟩ := ref_lst hr ra e0
          obtain ⟨v, hv, rv⟩ := r2.get ey
          exact ⟨_, vs, v, rfl, rfl, q, by rw [r2.length]; exact hv, wr_lst hr ra e0 r2.dropLast rv k⟩
        · cases e
      · cases e
  · cases e
theorem se_append (ho : PE X o (tM X.K G W mo)) (ha : PA X (e :: es) (tL X.K G W (evs ms))) {apos : Pos} (hbase : attributeBase o "append" X.env (eval o X.env) = eval o X.env := by rfl)
    (hfew : ((backTo pos (starEach (e :: es) X.env)).all (fun x => !x.1) && (backToKw pos (keywordEach [] X.env)).all (fun x => x.1.isSome)
      && decide ((e :: es).length + ([] : List Keyword).length + (if ([] : List Keyword).isEmpty then 0 else 1) < 30)) = true := by rfl)
    (hline : (apos.endLine == pos.line) = true := by rfl) (hs : starEach (e :: es) X.env = (false, eval e X.env) :: starEach es X.env := by rfl) (hplain : (backTo pos (starEach es X.env)).any (·.1) = false := by rfl) :
    PE X (.Call (.Attribute o "append" apos) (e :: es) [] pos) (tM X.K G W (eMt opAppend mo ms)) :=
  peImp (pe_bm PySem.F.plainAttrs_list PySem.F.slot_list_append PySem.F.type_list_append mt_append ho ha hbase hfew hline hs hplain) fun σ H Q t => mt_imp im_append σ H Q t
theorem se_pop (ho : PE X o (tM X.K G W mo)) {apos : Pos} (hbase : attributeBase o "pop" X.env (eval o X.env) = eval o X.env := by rfl) (hline : (apos.endLine == pos.line) = true := by rfl) :
    PE X (.Call (.Attribute o "pop" apos) [] [] pos) (tM X.K G W (eMt opPop mo [])) :=
  peImp (pe_bm0 PySem.F.plainAttrs_list PySem.F.slot_list_pop PySem.F.type_list_pop mt_pop ho hbase hline) fun σ H Q t => mt0_imp im_pop σ H Q t

/-! ### o[i] = v -/
@[simp] def keyOf : D → Option Key
  | .int i => some (.inl i)
  | .str x => some (.inr x)
  | _ => none
@[simp] def keysOf : List D → Option (List Key)
  | [] => some []
  | d :: ds => match keyOf d, keysOf ds with
    | some k, some ks => some (k :: ks)
    | _, _ => none
def putP {κ : Type} [DecidableEq κ] (kvs : List (κ × D)) (k : κ) (v : D) : List (κ × D) :=
  if (kvs.any fun kv => decide (kv.1 = k)) = true then kvs.map (fun kv => if kv.1 = k then (kv.1, v) else kv) else kvs ++ [(k, v)]
def valP {κ : Type} [DecidableEq κ] (kvs : List (κ × D)) (k : κ) : Option D := (kvs.find? fun kv => decide (kv.1 = k)).map (·.2)
theorem keyOf_eq {d : D} {k : Key} (e : keyOf d = some k) : d = kD k := by
  cases d with
  | int i => cases e; rfl
  | str x => cases e; rfl
  | _ => cases e
theorem keysOf_eq : ∀ {ds : List D} {ks : List Key}, keysOf ds = some ks → ds = ks.map kD
  | [], ks, e => by cases e; rfl
  | d :: ds, ks, e => by
    simp only [keysOf] at e
    split at e
    · rename_i k ks' e1 e2
      cases e
      rw [keyOf_eq e1, keysOf_eq e2]
      rfl
    · cases e
theorem rv_keyD {v : V} {k : Key} (r : Rv K ρ H v (kD k)) : v = kV k := by
  cases k with
  | inl i => cases r; rfl
  | inr x => cases r; rfl
theorem rvs_keyD : ∀ {vs : List V} {ks : List Key}, Rvs K ρ H vs (ks.map kD) → vs = ks.map kV
  | _, [], .nil => rfl
  | _, k :: ks, .cons r rs => by rw [rv_keyD r, rvs_keyD rs]; rfl
theorem any_rel {κ : Type} [DecidableEq κ] {k : κ} : ∀ {kvs : List (κ × V)} {ds : List (κ × D)}, Paired (fun (p : κ × V) (q : κ × D) => p.1 = q.1 ∧ Rv K ρ H p.2 q.2) kvs ds → (kvs.any fun kv => decide (kv.1 = k)) = ds.any fun kv => decide (kv.1 = k)
  | _, _, .nil => rfl
  | _, _, .cons h t => by rw [List.any_cons, List.any_cons, any_rel t, h.1]
theorem map_rel {κ : Type} [DecidableEq κ] {k : κ} {v : V} {d : D} (rv : Rv K ρ H v d) : ∀ {kvs : List (κ × V)} {ds : List (κ × D)}, Paired (fun (p : κ × V) (q : κ × D) => p.1 = q.1 ∧ Rv K ρ H p.2 q.2) kvs ds →
    Paired (fun (p : κ × V) (q : κ × D) => p.1 = q.1 ∧ Rv K ρ H p.2 q.2) (kvs.map fun kv => if kv.1 = k then (kv.1, v) else kv) (ds.map fun kv => if kv.1 = k then (kv.1, d) else kv)
  | _, _, .nil => .nil
  | _, _, .cons h t => by
    refine .cons ?_ (map_rel rv t)
    dsimp only
    rw [h.1]
    split
    · exact ⟨rfl, rv⟩
    · exact h
theorem app_rel {α β : Type} {F : α → β → Prop} : ∀ {l₁ : List α} {l₂ : List β} {a : α} {b : β}, Paired F l₁ l₂ → F a b → Paired F (l₁ ++ [a]) (l₂ ++ [b])
  | _, _, _, _, .nil, h => .cons h .nil
  | _, _, _, _, .cons r t, h => .cons r (app_rel t h)
theorem put_rel {κ : Type} [DecidableEq κ] {k : κ} {v : V} {d : D} {kvs : List (κ × V)} {ds : List (κ × D)} (rv : Rv K ρ H v d) (r : Paired (fun (p : κ × V) (q : κ × D) => p.1 = q.1 ∧ Rv K ρ H p.2 q.2) kvs ds) :
    Paired (fun (p : κ × V) (q : κ × D) => p.1 = q.1 ∧ Rv K ρ H p.2 q.2) (putK kvs k v) (putP ds k d) := by
  unfold putK putP
  rw [any_rel r]
  split
  · exact map_rel rv r
  · exact app_rel r ⟨rfl, rv⟩
def opSetIx : D → D → D → Hh → Option Hh
  | .ref n, .tup ds, v, h => match h[n]? with
    | some (.dT kvs) => match keysOf ds with
      | some ks => if isK ds = false ∧ kvs.length < sizeLine then some (h.set n (.dT (putP kvs ks v))) else none
      | none => none
    | _ => none
  | .ref n, i, v, h => match h[n]? with
    | some (.lst xs) => match i with
      | .int i => (ixN xs.length i).map fun j => h.set n (.lst (xs.set j v))
      | _ => none
    | some (.dK kvs) => match keyOf i with
      | some k => if kvs.length < sizeLine then some (h.set n (.dK (putP kvs k v))) else none
      | none => none
    | _ => none
  | _, _, _, _ => none
theorem PSet.or {t t' : TSet} (h1 : PSet X t) (h2 : PSet X t') : PSet X (fun o i v H Q => t o i v H Q ∨ t' o i v H Q) := fun pins s σ H o i v ov iv u Q I ro ri rv q => by
  rcases q with q | q
  · exact h1 pins s σ H o i v ov iv u Q I ro ri rv q
  · exact h2 pins s σ H o i v ov iv u Q I ro ri rv q
theorem im_setIx {x y z : V} {o i v : D} {h' : Hh} {Q : Hp → Prop} (hr : Rh K G ρ H h) (ro : Rv K ρ H x o) (ri : Rv K ρ H y i) (rv : Rv K ρ H z v) (e : opSetIx o i v h = some h') (k : ∀ H', Ex K ρ H ρ H' → Rh K G ρ H' h' → Q H') : rSetL x y z H Q ∨ rSetD x y z H Q := by
  unfold opSetIx at e
  split at e
  · cases ro with
    | ref ra =>
      split at e
      · rename_i kvs e0
        split at e
        · rename_i ks e1
          split at e
          · rename_i hl
            cases e
            have zz := keysOf_eq e1
            subst zz
            have q := hr.at_ ra e0
            cases q with
            | @dT vkvs _ q r =>
              cases ri with
              | tup t rk =>
                have ek := rvs_keyD rk
                subst ek
                have e1 := Ex.write (K := K) (u := .dT (putK vkvs ks z)) hr ra e0
                refine .inr ⟨_, _, rfl, DPut.t q t (by rw [Paired.length r]; exact hl.2), k _ e1 (hr.write ra e0 (.dT upd_same ?_))⟩
                exact Paired.mapP (put_rel rv r) fun _ _ z => ⟨z.1, z.2.mono e1⟩
              | ktp _ f _ => rw [hl.1] at f; cases f
          · cases e
        · cases e
      · cases e
  · cases ro with
    | ref ra =>
      split at e
      · rename_i xs e0
        split at e
        · simp only [Option.map_eq_some_iff] at e
          obtain ⟨j, ej, rfl⟩ := e
          cases ri
          obtain ⟨vs, q, r⟩ := ref_lst hr ra e0
          have e1 := Ex.write (K := K) (u := .lst (vs.set j z)) hr ra e0
          exact .inl ⟨_, vs, _, j, rfl, rfl, q, by rw [r.length]; exact ej, k _ e1 (hr.write ra e0 (.lst upd_same ((r.set rv j).mono e1)))⟩
        · cases e
      · rename_i kvs e0
        split at e
        · rename_i kk e1
          split at e
          · rename_i hl
            cases e
            have zz := keyOf_eq e1
            subst zz
            have q := hr.at_ ra e0
            cases q with
            | @dK vkvs _ q r =>
              have ek := rv_keyD ri
              subst ek
              have e1 := Ex.write (K := K) (u := .dK (putK vkvs kk z)) hr ra e0
              refine .inr ⟨_, _, rfl, DPut.k q (by rw [Paired.length r]; exact hl), k _ e1 (hr.write ra e0 (.dK upd_same ?_))⟩
              exact Paired.mapP (put_rel rv r) fun _ _ z => ⟨z.1, z.2.mono e1⟩
          · cases e
        · cases e
      · cases e
  · cases e
def sSetIx (mo mi mv : M) : S := fun env h => bindS (mv env h) env fun v h1 => bindS (mo env h1) env fun o h2 => bindS (mi env h2) env fun i h3 => match opSetIx o i v h3 with
  | some h' => .nx env h'
  | none => .bad
theorem s_setIx {mv : M} {value i : Expr} {pos' : Pos} (hu : X.A.units + 1 < cLine) (ho : PE X o (tM X.K G W mo)) (hi : PE X i (tM X.K G W m)) (hv : PE X value (tM X.K G W mv))
    (ha : ∀ v, assign (.Subscript o i pos') X.env v = (do
      let ov ← holding [v] (eval o X.env)
      let iv ← holding [v, ov] (eval i X.env)
      standAt pos'
      holding [v, ov, iv] (setItem ov iv v)
      release [v, ov, iv] []) := by intro _; rfl)
    (hs : swapsWithSole [.Subscript o i pos'] value pos.line X.env = pure false := by rfl) (hw : swappedStores [.Subscript o i pos'] value X.env = pure none := by rfl)
    (h1 : (assignEach [.Subscript o i pos'] X.env).map (·.2) = [assign (.Subscript o i pos') X.env] := by rfl) : PS X (.Assign [.Subscript o i pos'] value pos) (tS X.K G W (sSetIx mo m mv)) :=
  psImp (ps_asg hv (pg_sub ho hi (PSet.or set_list (set_dict hu)) ha) hs hw h1) fun D0 σ H t => by
    obtain ⟨ρ, h, env, hr, he, p⟩ := t
    refine tG_mono (tS_bind (rel := relV X.K) hr he p) fun z H1 ⟨ρ1, h1, v, e1, hr1, he1, r1, p1⟩ => ?_
    refine tG_mono (tS_bind (rel := relV X.K) hr1 he1 p1) fun x H2 ⟨ρ2, h2, o, e2, hr2, he2, r2, p2⟩ => ?_
    refine tG_mono (tS_bind (rel := relV X.K) hr2 he2 p2) fun y H3 ⟨ρ3, h3, i, e3, hr3, he3, r3, p3⟩ => ?_
    dsimp only at p3
    split at p3
    · rename_i h' eq
      exact im_setIx hr3 (r2.mono e3) r3 ((r1.mono e2).mono e3) eq fun H' e' hr' => p3 ρ3 H' σ e' hr' (he3.mono e')
    · exact p3.elim
/-- {} -/
def eDK : M := fun _ h => .ok (.ref h.length) (h ++ [.dK []])
def eDT : M := fun _ h => .ok (.ref h.length) (h ++ [.dT []])
theorem se_dK : PE X (.Dict [] [] pos) (tM X.K G W eDK) := peImp pe_dnewK fun σ H Q t => by
  obtain ⟨ρ, h, env, hr, he, p⟩ := t
  exact fun q n => p (ρ ++ [q]) _ _ (Ex.push n) (hr.new n (.dK upd_same .nil)) (.ref (by rw [← hr.len]; exact get_push_eq))
theorem se_dT : PE X (.Dict [] [] pos) (tM X.K G W eDT) := peImp pe_dnewT fun σ H Q t => by
  obtain ⟨ρ, h, env, hr, he, p⟩ := t
  exact fun q n => p (ρ ++ [q]) _ _ (Ex.push n) (hr.new n (.dT upd_same .nil)) (.ref (by rw [← hr.len]; exact get_push_eq))
end
end Sm
/-! SmF: constants of the module, the law's end. -/
namespace Sm
open PySem L2 PyProof.Rows
theorem bt_len : bootBuiltins "len" = some (.builtin "len") := by first | exact PyProof.Rows.boot_len | exact PySem.boot_len | decide +kernel
theorem bt_isinstance : bootBuiltins "isinstance" = some (.builtin "isinstance") := by first | exact PyProof.Rows.boot_isinstance | exact PySem.boot_isinstance | decide +kernel
theorem bt_int : bootBuiltins "int" = some (.type "int") := by first | exact PyProof.Rows.boot_int | exact PySem.boot_int | decide +kernel
theorem bt_bool : bootBuiltins "bool" = some (.type "bool") := by first | exact PyProof.Rows.boot_bool | exact PySem.boot_bool | decide +kernel
theorem bt_str : bootBuiltins "str" = some (.type "str") := by first | exact PyProof.Rows.boot_str | exact PySem.boot_str | decide +kernel
theorem bt_list : bootBuiltins "list" = some (.type "list") := by first | exact PyProof.Rows.boot_list | exact PySem.boot_list | decide +kernel
theorem bt_tuple : bootBuiltins "tuple" = some (.type "tuple") := by first | exact PyProof.Rows.boot_tuple | exact PySem.boot_tuple | decide +kernel
theorem bt_dict : bootBuiltins "dict" = some (.type "dict") := by first | exact PyProof.Rows.boot_dict | exact PySem.boot_dict | decide +kernel
theorem bt_abs : bootBuiltins "abs" = some (.builtin "abs") := by first | exact PyProof.Rows.boot_abs | exact PySem.boot_abs | decide +kernel
theorem bt_max : bootBuiltins "max" = some (.builtin "max") := by first | exact PyProof.Rows.boot_max | exact PySem.boot_max | decide +kernel
theorem bt_min : bootBuiltins "min" = some (.builtin "min") := by first | exact PyProof.Rows.boot_min | exact PySem.boot_min | decide +kernel
theorem bt_sum : bootBuiltins "sum" = some (.builtin "sum") := by first | exact PyProof.Rows.boot_sum | exact PySem.boot_sum | decide +kernel
theorem bt_all : bootBuiltins "all" = some (.builtin "all") := by first | exact PyProof.Rows.boot_all | exact PySem.boot_all | decide +kernel
theorem bt_any : bootBuiltins "any" = some (.builtin "any") := by first | exact PyProof.Rows.boot_any | exact PySem.boot_any | decide +kernel
theorem bt_ord : bootBuiltins "ord" = some (.builtin "ord") := by first | exact PyProof.Rows.boot_ord | exact PySem.boot_ord | decide +kernel
theorem bt_sorted : bootBuiltins "sorted" = some (.builtin "sorted") := by first | exact PyProof.Rows.boot_sorted | exact PySem.boot_sorted | decide +kernel
theorem bt_set : bootBuiltins "set" = some (.type "set") := by first | exact PyProof.Rows.boot_set | exact PySem.boot_set | decide +kernel
theorem bt_range : bootBuiltins "range" = some (.type "range") := by first | exact PyProof.Rows.boot_range | exact PySem.boot_range | decide +kernel
theorem bt_reversed : bootBuiltins "reversed" = some (.type "reversed") := by first | exact PyProof.Rows.boot_reversed | exact PySem.boot_reversed | decide +kernel
theorem bt_repr : bootBuiltins "repr" = some (.builtin "repr") := by first | exact PyProof.Rows.boot_repr | exact PySem.boot_repr | decide +kernel
theorem bt_type : bootBuiltins "type" = some (.type "type") := by first | exact PyProof.Rows.boot_type | exact PySem.boot_type | decide +kernel
section
variable {X : Cx} {G : Cl} {W : WX} {e a b c o : Expr} {es : List Expr} {st : Stmt} {pos p : Pos} {m ma mb mo : M} {ms : List M} {K : PySem.W.Frag} {ρ : List Addr} {H : Hp} {h : Hh} {k : Nat}
theorem se_globI' {x : Str} {i : Int} (hg : Gl X x) (hm : ∃ u, X.mg x = some (.int i u)) (hd : (x == ("__debug__" : Str)) = false := by decide) : PE X (.Name x pos) (tM X.K G W (eC (.int i))) := let ⟨_, h⟩ := hm; se_globI hg h hd
theorem se_globS' {x y : Str} (hg : Gl X x) (hm : ∃ u, X.mg x = some (.str y u)) (hd : (x == ("__debug__" : Str)) = false := by decide) : PE X (.Name x pos) (tM X.K G W (eC (.str y))) := let ⟨_, h⟩ := hm; se_globS hg h hd
end
theorem law_end {K : PySem.W.Frag} {G : Cl} {f : Fm} (main : ∀ ns : List Int, ns.length ≤ 63 → ∃ h', f [.fls (ns.map D.int)] [] = .ok (.bl true) h') (H : Hp) (a : Addr) (ns : List Int) (hl : ns.length ≤ 63) (hO : Only H) (hS : SqL K H a (ns.map V.int)) :
    spM K G 1 f [.ref a] H (fun v _ => v = .bl true) (fun _ _ _ => False) := by
  obtain ⟨h', e⟩ := main ns hl
  have fl : FL K H a (ns.map V.int) := by
    rcases hS with (q | ⟨o, q⟩) | q
    · rcases hO a with z | ⟨o, xs, z⟩
      · rw [z] at q; cases q
      · rw [z] at q; cases q
    · exact .inl ⟨o, q⟩
    · exact .inr q
  refine ⟨[], [], [.fls (ns.map D.int)], ⟨rfl, fun i j a h => by simp at h, fun n o h => by simp at h⟩, .cons (.fls fl (Rvs.of_ints ns)) .nil, rfl, ?_⟩
  rw [e]
  intro ρ' H' v _ _ r
  cases r
  rfl
theorem walk_law {l : PySem.W.OpenLaw} {k : Nat} {q : Program} {loose : List Str} {XP : (Str → Option Value) → Heap → Prop} {YP : World → Heap → Prop} {d : DefRec} {K : Params → PySem.W.Frag} {f : Fm} {G : Cl}
    (hn : l.most = some 63) (hdf : d.params.defaults = []) (hr : Room k callerA)
    (hY : ∀ (w : World) (h : Heap), YP w h → (K w.params).In h) (main : ∀ ns : List Int, ns.length ≤ 63 → ∃ h', f [.fls (ns.map D.int)] [] = .ok (.bl true) h')
    (F : ∀ (w : World) (mg : Str → Option Value) (fa : Addr) (h : Heap), (K w.params).In h → h.Ns mainGlobals mg → mg d.name = some (.ref fa) →
      ∃ fd : FuncData, (∀ (s : Shared) (u : Value), BindsTo s fd ⟨[u], []⟩ [("script", u)]) ∧
        ∀ base : Heap, (K w.params).In base → base.Ns mainGlobals mg → FnOk l.prog w (K w.params) mg base (L2.CX l.prog w) k fa fd ["script"] (spM (K w.params) G 1 f)) :
    PySem.W.WalkO q loose XP YP l.row.toRowW d [] (fun f vs => PySem.call f vs) :=
  L2.walk_of (n := 63) (k := k) (x := "script") (CX := fun w => L2.CX l.prog w) (sp := fun w => spM (K w.params) G 1 f) hn (by decide) hdf hr hY F (fun w H a ns h1 h2 h3 => law_end main H a ns h1 h2 h3)
    fun w H s e s' z => by
      obtain ⟨_, _, _, _, _, _, _, _, _, _, _, _, z⟩ := z
      exact z
end Sm
/-! SmG: running the mirrors. -/
namespace Sm
open PySem L2 PyProof.Rows

/-- a loop, by what holds of the rest -/
theorem forL_wp {g : TgM} {body : S} {gd : Option (Nat × O)} (I : List D → Ev → Hh → Prop) (Post : SR → Prop)
    (step : ∀ x rest env h, I (x :: rest) env h → gdOk gd h ∧ ∃ env1, g x h env = some env1 ∧ ((∃ e' h', (body env1 h = .nx e' h' ∨ body env1 h = .ct e' h') ∧ I rest e' h') ∨ (∃ e' h', body env1 h = .bk e' h' ∧ Post (.nx e' h')) ∨ (∃ d h', body env1 h = .rt d h' ∧ Post (.rt d h')) ∨ (∃ c fs e' h', body env1 h = .exc c fs e' h' ∧ Post (.exc c fs e' h'))))
    (done : ∀ env h, I [] env h → gdOk gd h ∧ Post (.nx env h)) : ∀ (xs : List D) (env : Ev) (h : Hh), I xs env h → Post (forL g body gd xs env h)
  | [], env, h, i => by
    obtain ⟨a, b⟩ := done env h i
    unfold forL
    rw [if_pos a]
    exact b
  | x :: xs, env, h, i => by
    obtain ⟨a, env1, e1, r⟩ := step x xs env h i
    unfold forL
    rw [if_pos a, e1]
    dsimp only
    rcases r with ⟨e', h', q | q, i'⟩ | ⟨e', h', q, i'⟩ | ⟨d, h', q, i'⟩ | ⟨c, fs, e', h', q, i'⟩
    · rw [q]; exact forL_wp I Post step done xs e' h' i'
    · rw [q]; exact forL_wp I Post step done xs e' h' i'
    · rw [q]; exact i'
    · rw [q]; exact i'
    · rw [q]; exact i'
/-- the plain case: every turn goes on -/
theorem forL_inv {g : TgM} {body : S} {gd : Option (Nat × O)} (I : List D → Ev → Hh → Prop) (xs : List D) (env : Ev) (h : Hh) (h0 : I xs env h) (hg : ∀ rest env h, I rest env h → gdOk gd h)
    (step : ∀ x rest env h, I (x :: rest) env h → ∃ env1, g x h env = some env1 ∧ ∃ e' h', body env1 h = .nx e' h' ∧ I rest e' h') : ∃ e' h', forL g body gd xs env h = .nx e' h' ∧ I [] e' h' := by
  refine forL_wp (g := g) (body := body) (gd := gd) I (fun r => ∃ e' h', r = .nx e' h' ∧ I [] e' h') (fun x rest env h i => ?_) (fun env h i => ⟨hg _ _ _ i, env, h, rfl, i⟩) xs env h h0
  obtain ⟨env1, e1, e', h', q, i'⟩ := step x rest env h i
  exact ⟨hg _ _ _ i, env1, e1, .inl ⟨e', h', .inl q, i'⟩⟩
/-! ### the combinators step by step, no function under a binder -/
section
variable (env : Ev) (h : Hh) (f g : D → D → Hh → Option (D × Hh)) (f1 : D → Hh → Option (D × Hh)) (fn : List D → Hh → Option (D × Hh)) (fm : D → List D → Hh → Option (D × Hh)) (a b c : M) (ms : List M) (d e : D) (ds : List D) (i : Nat) (s1 s2 : S) (t u : MT)
def rOpt (o : Option (D × Hh)) : R D := R.opt o
@[simp] theorem rOpt_some : rOpt (some (d, h)) = .ok d h := rfl
@[simp] theorem eV_eq : eV i env h = match env[i]? with | some (some d) => .ok d h | _ => .bad := rfl
@[simp] theorem eC_eq : eC d env h = .ok d h := rfl
def eU1 (r : R D) : R D := r.bind fun x h1 => R.opt (f1 x h1)
@[simp] theorem eU_eq : eU f1 a env h = eU1 f1 (a env h) := rfl
@[simp] theorem eU1_ok : eU1 f1 (.ok d h) = R.opt (f1 d h) := rfl
def eB1 (env : Ev) (r : R D) : R D := r.bind fun x h1 => (b env h1).bind fun y h2 => R.opt (f x y h2)
def eB2 (d : D) (r : R D) : R D := r.bind fun y h2 => R.opt (f d y h2)
@[simp] theorem eB_eq : eB f a b env h = eB1 f b env (a env h) := rfl
@[simp] theorem eB1_ok : eB1 f b env (.ok d h) = eB2 f d (b env h) := rfl
@[simp] theorem eB2_ok : eB2 f d (.ok e h) = R.opt (f d e h) := rfl
def eAnd1 (env : Ev) (r : R D) : R D := r.bind fun d h1 => match d with
  | .bl true => b env h1
  | .bl false => .ok (.bl false) h1
  | _ => .bad
@[simp] theorem eAnd_eq : eAnd a b env h = eAnd1 b env (a env h) := rfl
@[simp] theorem eAnd1_t : eAnd1 b env (.ok (.bl true) h) = b env h := rfl
@[simp] theorem eAnd1_f : eAnd1 b env (.ok (.bl false) h) = .ok (.bl false) h := rfl
theorem eAnd1_d (p : Bool) : eAnd1 b env (.ok (.bl p) h) = if p = true then b env h else .ok (.bl false) h := by cases p <;> rfl
def eOr1 (env : Ev) (r : R D) : R D := r.bind fun d h1 => match d with
  | .bl false => b env h1
  | .bl true => .ok (.bl true) h1
  | _ => .bad
@[simp] theorem eOr_eq : eOr a b env h = eOr1 b env (a env h) := rfl
@[simp] theorem eOr1_f : eOr1 b env (.ok (.bl false) h) = b env h := rfl
@[simp] theorem eOr1_t : eOr1 b env (.ok (.bl true) h) = .ok (.bl true) h := rfl
theorem eOr1_d (p : Bool) : eOr1 b env (.ok (.bl p) h) = if p = true then .ok (.bl true) h else b env h := by cases p <;> rfl
def eNot1 (r : R D) : R D := r.bind fun d h1 => match d with
  | .bl b => .ok (.bl (!b)) h1
  | _ => .bad
@[simp] theorem eNot_eq : eNot a env h = eNot1 (a env h) := rfl
@[simp] theorem eNot1_b (k : Bool) : eNot1 (.ok (.bl k) h) = .ok (.bl (!k)) h := rfl
def eIf1 (env : Ev) (r : R Bool) : R D := r.bind fun c h1 => if c = true then a env h1 else b env h1
@[simp] theorem eIf_eq : eIf t a b env h = eIf1 a b env (t env h) := rfl
@[simp] theorem eIf1_t : eIf1 a b env (.ok true h) = a env h := rfl
@[simp] theorem eIf1_f : eIf1 a b env (.ok false h) = b env h := rfl
theorem eIf1_d (p : Bool) : eIf1 a b env (.ok p h) = if p = true then a env h else b env h := by cases p <;> rfl
def eCh1 (env : Ev) (r : R D) : R D := r.bind fun x h1 => (b env h1).bind fun y h2 => (R.opt (f x y h2)).bind fun z h3 => match z with
  | .bl true => (c env h3).bind fun w h4 => R.opt (g y w h4)
  | .bl false => .ok (.bl false) h3
  | _ => .bad
def eCh2 (env : Ev) (x : D) (r : R D) : R D := r.bind fun y h2 => (R.opt (f x y h2)).bind fun z h3 => match z with
  | .bl true => (c env h3).bind fun w h4 => R.opt (g y w h4)
  | .bl false => .ok (.bl false) h3
  | _ => .bad
def eCh3 (env : Ev) (y : D) (r : R D) : R D := r.bind fun z h3 => match z with
  | .bl true => (c env h3).bind fun w h4 => R.opt (g y w h4)
  | .bl false => .ok (.bl false) h3
  | _ => .bad
@[simp] theorem eCh_eq : eCh f g a b c env h = eCh1 f g b c env (a env h) := rfl
@[simp] theorem eCh1_ok : eCh1 f g b c env (.ok d h) = eCh2 f g c env d (b env h) := rfl
@[simp] theorem eCh2_ok : eCh2 f g c env d (.ok e h) = eCh3 g c env e (R.opt (f d e h)) := rfl
@[simp] theorem eCh3_t : eCh3 g c env e (.ok (.bl true) h) = eB2 g e (c env h) := rfl
@[simp] theorem eCh3_f : eCh3 g c env e (.ok (.bl false) h) = .ok (.bl false) h := rfl
def tTru1 (r : R D) : R Bool := r.bind fun d h1 => optB (opTruth d h1) h1
@[simp] theorem tTru_eq : tTru a env h = tTru1 (a env h) := rfl
@[simp] theorem tTru1_ok : tTru1 (.ok d h) = optB (opTruth d h) h := rfl
def tBl1 (r : R D) : R Bool := r.bind fun d h1 => optB (opBl d) h1
@[simp] theorem tBl_eq : tBl a env h = tBl1 (a env h) := rfl
@[simp] theorem tBl1_ok : tBl1 (.ok d h) = optB (opBl d) h := rfl
def tAnd1 (env : Ev) (r : R Bool) : R Bool := r.bind fun c h1 => if c = true then u env h1 else .ok false h1
@[simp] theorem tAndM_eq : tAndM t u env h = tAnd1 u env (t env h) := rfl
@[simp] theorem tAnd1_t : tAnd1 u env (.ok true h) = u env h := rfl
@[simp] theorem tAnd1_f : tAnd1 u env (.ok false h) = .ok false h := rfl
theorem tAnd1_d (p : Bool) : tAnd1 u env (.ok p h) = if p = true then u env h else .ok false h := by cases p <;> rfl
def tOr1 (env : Ev) (r : R Bool) : R Bool := r.bind fun c h1 => if c = true then .ok true h1 else u env h1
@[simp] theorem tOrM_eq : tOrM t u env h = tOr1 u env (t env h) := rfl
@[simp] theorem tOr1_t : tOr1 u env (.ok true h) = .ok true h := rfl
@[simp] theorem tOr1_f : tOr1 u env (.ok false h) = u env h := rfl
theorem tOr1_d (p : Bool) : tOr1 u env (.ok p h) = if p = true then .ok true h else u env h := by cases p <;> rfl
def tNot1 (r : R Bool) : R Bool := r.bind fun c h1 => .ok (!c) h1
@[simp] theorem tNotM_eq : tNotM t env h = tNot1 (t env h) := rfl
@[simp] theorem tNot1_ok (k : Bool) : tNot1 (.ok k h) = .ok (!k) h := rfl
def evs1 (env : Ev) (r : R D) : R (List D) := r.bind fun d h1 => (evs ms env h1).bind fun ds h2 => .ok (d :: ds) h2
def evs2 (d : D) (r : R (List D)) : R (List D) := r.bind fun ds h2 => .ok (d :: ds) h2
@[simp] theorem evs_nil : evs [] env h = .ok [] h := rfl
@[simp] theorem evs_cons : evs (a :: ms) env h = evs1 ms env (a env h) := rfl
@[simp] theorem evs1_ok : evs1 ms env (.ok d h) = evs2 d (evs ms env h) := rfl
@[simp] theorem evs2_ok : evs2 d (.ok ds h) = .ok (d :: ds) h := rfl
def eN1 (r : R (List D)) : R D := r.bind fun ds h1 => R.opt (fn ds h1)
@[simp] theorem eN_eq : eN fn ms env h = eN1 fn (evs ms env h) := rfl
@[simp] theorem eN1_ok : eN1 fn (.ok ds h) = R.opt (fn ds h) := rfl
def eTup1 (r : R (List D)) : R D := r.bind fun ds h1 => .ok (.tup ds) h1
@[simp] theorem eTup_eq : eTup ms env h = eTup1 (evs ms env h) := rfl
@[simp] theorem eTup1_ok : eTup1 (.ok ds h) = .ok (.tup ds) h := rfl
def eLst1 (r : R (List D)) : R D := r.bind fun ds h1 => .ok (.ref h1.length) (h1 ++ [.lst ds])
@[simp] theorem eLst_eq : eLst ms env h = eLst1 (evs ms env h) := rfl
@[simp] theorem eLst1_ok : eLst1 (.ok ds h) = .ok (.ref h.length) (h ++ [.lst ds]) := rfl
def eCall1 (k : Fm) (r : R (List D)) : R D := r.bind fun ds h1 => k ds h1
@[simp] theorem eCall_eq (k : Fm) : eCall k ms env h = eCall1 k (evs ms env h) := rfl
@[simp] theorem eCall1_ok (k : Fm) : eCall1 k (.ok ds h) = k ds h := rfl
def eMt1 (env : Ev) (r : R D) : R D := r.bind fun o h1 => if isL o h1 = true then (evs ms env h1).bind fun ds h2 => R.opt (fm o ds h2) else .bad
def eMt2 (o : D) (r : R (List D)) : R D := r.bind fun ds h2 => R.opt (fm o ds h2)
@[simp] theorem eMt_eq : eMt fm a ms env h = eMt1 fm ms env (a env h) := rfl
@[simp] theorem eMt1_ok : eMt1 fm ms env (.ok d h) = if isL d h = true then eMt2 fm d (evs ms env h) else .bad := rfl
@[simp] theorem eMt2_ok : eMt2 fm d (.ok ds h) = R.opt (fm d ds h) := rfl
variable (lo hi : Option M) (l k : Option Int)
def evO1 (r : R D) : R (Option Int) := r.bind fun d h1 => match d with
  | .int i => .ok (some i) h1
  | _ => .bad
@[simp] theorem evO_none : evO none env h = .ok none h := rfl
@[simp] theorem evO_some : evO (some a) env h = evO1 (a env h) := rfl
@[simp] theorem evO1_ok (j : Int) : evO1 (.ok (.int j) h) = .ok (some j) h := rfl
def eSl1 (env : Ev) (r : R D) : R D := r.bind fun d h1 => (evO lo env h1).bind fun l h2 => (evO hi env h2).bind fun u h3 => R.opt (opSl d l u h3)
def eSl2 (env : Ev) (d : D) (r : R (Option Int)) : R D := r.bind fun l h2 => (evO hi env h2).bind fun u h3 => R.opt (opSl d l u h3)
def eSl3 (d : D) (l : Option Int) (r : R (Option Int)) : R D := r.bind fun u h3 => R.opt (opSl d l u h3)
@[simp] theorem eSl_eq : eSl a lo hi env h = eSl1 lo hi env (a env h) := rfl
@[simp] theorem eSl1_ok : eSl1 lo hi env (.ok d h) = eSl2 hi env d (evO lo env h) := rfl
@[simp] theorem eSl2_ok : eSl2 hi env d (.ok l h) = eSl3 d l (evO hi env h) := rfl
@[simp] theorem eSl3_ok : eSl3 d l (.ok k h) = R.opt (opSl d l k h) := rfl
@[simp] theorem eDK_eq : eDK env h = .ok (.ref h.length) (h ++ [.dK []]) := rfl
@[simp] theorem eDT_eq : eDT env h = .ok (.ref h.length) (h ++ [.dT []]) := rfl
/-! statements -/
@[simp] theorem sSkip_eq : sSkip env h = .nx env h := rfl
def sSeq1 (r : SR) : SR := match r with
  | .nx env' h' => s2 env' h'
  | r => r
@[simp] theorem sSeq_eq : sSeq s1 s2 env h = sSeq1 s2 (s1 env h) := by
  unfold sSeq sSeq1
  cases s1 env h <;> rfl
@[simp] theorem sSeq1_nx : sSeq1 s2 (.nx env h) = s2 env h := rfl
@[simp] theorem sSeq1_rt : sSeq1 s2 (.rt d h) = .rt d h := rfl
@[simp] theorem sSeq1_bk : sSeq1 s2 (.bk env h) = .bk env h := rfl
@[simp] theorem sSeq1_ct : sSeq1 s2 (.ct env h) = .ct env h := rfl
@[simp] theorem sSeq1_exc (n : Nat) : sSeq1 s2 (.exc n ds env h) = .exc n ds env h := rfl
def sRet1 (env : Ev) (r : R D) : SR := bindS r env fun d h1 => .rt d h1
@[simp] theorem sRet_eq : sRet a env h = sRet1 env (a env h) := rfl
@[simp] theorem sRet1_ok : sRet1 env (.ok d h) = .rt d h := rfl
@[simp] theorem sRet1_exc (n : Nat) : sRet1 env (.exc n ds h) = .exc n ds env h := rfl
@[simp] theorem sRetN_eq : sRetN env h = .rt .non h := rfl
def sExpr1 (env : Ev) (r : R D) : SR := bindS r env fun _ h1 => .nx env h1
@[simp] theorem sExpr_eq : sExpr a env h = sExpr1 env (a env h) := rfl
@[simp] theorem sExpr1_ok : sExpr1 env (.ok d h) = .nx env h := rfl
@[simp] theorem sExpr1_exc (n : Nat) : sExpr1 env (.exc n ds h) = .exc n ds env h := rfl
def sSet1 (i : Nat) (env : Ev) (r : R D) : SR := bindS r env fun d h1 => .nx (env.set i (some d)) h1
@[simp] theorem sSet_eq : sSet i a env h = sSet1 i env (a env h) := rfl
@[simp] theorem sSet1_ok : sSet1 i env (.ok d h) = .nx (env.set i (some d)) h := rfl
@[simp] theorem sSet1_exc (n : Nat) : sSet1 i env (.exc n ds h) = .exc n ds env h := rfl
def sIf1 (env : Ev) (r : R Bool) : SR := bindS r env fun c h1 => if c = true then s1 env h1 else s2 env h1
@[simp] theorem sIf_eq : sIf t s1 s2 env h = sIf1 s1 s2 env (t env h) := rfl
@[simp] theorem sIf1_t : sIf1 s1 s2 env (.ok true h) = s1 env h := rfl
@[simp] theorem sIf1_f : sIf1 s1 s2 env (.ok false h) = s2 env h := rfl
theorem sIf1_d (p : Bool) : sIf1 s1 s2 env (.ok p h) = if p = true then s1 env h else s2 env h := by cases p <;> rfl
@[simp] theorem sBk_eq : sBk env h = .bk env h := rfl
@[simp] theorem sCt_eq : sCt env h = .ct env h := rfl
variable (tg : TgM) (mi : Ev → Hh → R Src) (src : Src)
def sUnp1 (env : Ev) (r : R D) : SR := bindS r env fun d h1 => match tg d h1 env with
  | some env' => .nx env' h1
  | none => .bad
@[simp] theorem sUnp_eq : sUnp tg a env h = sUnp1 tg env (a env h) := rfl
@[simp] theorem sUnp1_ok : sUnp1 tg env (.ok d h) = match tg d h env with
  | some env' => .nx env' h
  | none => .bad := rfl
@[simp] theorem gtName_eq : gtName i d h env = some (env.set i (some d)) := rfl
noncomputable def sFor1 (env : Ev) (r : R Src) : SR := bindS r env fun src h1 => forL tg s1 src.2 src.1 env h1
@[simp] theorem sFor_eq : sFor mi tg s1 env h = sFor1 s1 tg env (mi env h) := rfl
@[simp] theorem sFor1_ok : sFor1 s1 tg env (.ok src h) = forL tg s1 src.2 src.1 env h := rfl
def mSeq1 (r : R D) : R Src := r.bind fun d h1 => match d with
  | .tup ds => .ok (ds, none) h1
  | .fls ds => .ok (ds, none) h1
  | .ref n => match h1[n]? with
    | some (.lst ds) => .ok (ds, some (n, .lst ds)) h1
    | _ => .bad
  | _ => .bad
@[simp] theorem mSeq_eq : mSeq a env h = mSeq1 (a env h) := rfl
@[simp] theorem mSeq1_t : mSeq1 (.ok (.tup ds) h) = .ok (ds, none) h := rfl
@[simp] theorem mSeq1_f : mSeq1 (.ok (.fls ds) h) = .ok (ds, none) h := rfl
@[simp] theorem mSeq1_r (n : Nat) : mSeq1 (.ok (.ref n) h) = match h[n]? with
    | some (.lst ds) => .ok (ds, some (n, .lst ds)) h
    | _ => .bad := rfl
def mRng11 (r : R D) : R Src := r.bind fun d h1 => match d with
  | .int j => if inR j = true then .ok (rngD 0 j.toNat, none) h1 else .bad
  | _ => .bad
@[simp] theorem mRng1_eq : mRng1 a env h = mRng11 (a env h) := rfl
@[simp] theorem mRng11_ok (j : Int) : mRng11 (.ok (.int j) h) = if inR j = true then .ok (rngD 0 j.toNat, none) h else .bad := rfl
def mRng21 (env : Ev) (r : R D) : R Src := r.bind fun d h1 => (b env h1).bind fun e h2 => match d, e with
  | .int i, .int j => if inR i = true ∧ inR j = true then .ok (rngD i (j - i).toNat, none) h2 else .bad
  | _, _ => .bad
def mRng22 (d : D) (r : R D) : R Src := r.bind fun e h2 => match d, e with
  | .int i, .int j => if inR i = true ∧ inR j = true then .ok (rngD i (j - i).toNat, none) h2 else .bad
  | _, _ => .bad
@[simp] theorem mRng2_eq : mRng2 a b env h = mRng21 b env (a env h) := rfl
@[simp] theorem mRng21_ok : mRng21 b env (.ok d h) = mRng22 d (b env h) := rfl
@[simp] theorem mRng22_ok (i j : Int) : mRng22 (.int i) (.ok (.int j) h) = if inR i = true ∧ inR j = true then .ok (rngD i (j - i).toNat, none) h else .bad := rfl
def sSetIx1 (mo mi : M) (env : Ev) (r : R D) : SR := bindS r env fun v h1 => bindS (mo env h1) env fun o h2 => bindS (mi env h2) env fun i h3 => match opSetIx o i v h3 with
  | some h' => .nx env h'
  | none => .bad
def sSetIx2 (mi : M) (env : Ev) (v : D) (r : R D) : SR := bindS r env fun o h2 => bindS (mi env h2) env fun i h3 => match opSetIx o i v h3 with
  | some h' => .nx env h'
  | none => .bad
def sSetIx3 (env : Ev) (v o : D) (r : R D) : SR := bindS r env fun i h3 => match opSetIx o i v h3 with
  | some h' => .nx env h'
  | none => .bad
@[simp] theorem sSetIx_eq : sSetIx a b c env h = sSetIx1 a b env (c env h) := rfl
@[simp] theorem sSetIx1_ok : sSetIx1 a b env (.ok d h) = sSetIx2 b env d (a env h) := rfl
@[simp] theorem sSetIx2_ok : sSetIx2 b env d (.ok e h) = sSetIx3 env d e (b env h) := rfl
@[simp] theorem sSetIx3_ok (z : D) : sSetIx3 env d e (.ok z h) = match opSetIx e z d h with
  | some h' => .nx env h'
  | none => .bad := rfl
def fnEnd (r : SR) : R D := match r with
  | .nx _ h' => .ok .non h'
  | .rt d h' => .ok d h'
  | .exc c fs _ h' => .exc c fs h'
  | _ => .bad
@[simp] theorem fnM_eq (n : Nat) : fnM n s1 ds h = fnEnd (s1 (ds.map some ++ List.replicate (n - ds.length) none) h) := by
  unfold fnM fnEnd
  cases s1 (ds.map some ++ List.replicate (n - ds.length) none) h <;> rfl
@[simp] theorem fnEnd_nx : fnEnd (.nx env h) = .ok .non h := rfl
@[simp] theorem fnEnd_rt : fnEnd (.rt d h) = .ok d h := rfl
@[simp] theorem fnEnd_exc (n : Nat) : fnEnd (.exc n ds env h) = .exc n ds h := rfl
def sAug1 (i : Nat) (x : D) (env : Ev) (r : R D) : SR := bindS r env fun y h1 => bindS (R.opt (f x y h1)) env fun z h2 => .nx (env.set i (some z)) h2
@[simp] theorem sAug_eq : sAug f i a env h = match env[i]? with
  | some (some x) => sAug1 f i x env (a env h)
  | _ => .bad := rfl
@[simp] theorem sAug1_ok : sAug1 f i d env (.ok e h) = sSet1 i env (R.opt (f d e h)) := rfl
end
section
variable (i j : Int) (x y : Str) (k l : Bool) (xs ys : List D) (n m : Nat) (h : Hh) (d e : D)
@[simp] theorem opAdd_ii : opAdd (.int i) (.int j) h = some (.int (i + j), h) := rfl
@[simp] theorem opAdd_ib : opAdd (.int i) (.bl k) h = some (.int (i + b2i k), h) := rfl
@[simp] theorem opAdd_ss : opAdd (.str x) (.str y) h = if x.length + y.length ≤ sizeLine then some (.str (x ++ y), h) else none := rfl
@[simp] theorem opAdd_tt : opAdd (.tup xs) (.tup ys) h = if xs.length + ys.length ≤ sizeLine then some (.tup (xs ++ ys), h) else none := rfl
@[simp] theorem opAdd_rr : opAdd (.ref m) (.ref n) h = match h[m]?, h[n]? with
    | some (.lst xs), some (.lst ys) => if xs.length + ys.length ≤ sizeLine then some (.ref h.length, h ++ [.lst (xs ++ ys)]) else none
    | _, _ => none := rfl
@[simp] theorem opSub_ii : opSub (.int i) (.int j) h = some (.int (i - j), h) := rfl
@[simp] theorem opMul_ii : opMul (.int i) (.int j) h = if mulOk i j = true then some (.int (i * j), h) else none := rfl
@[simp] theorem opMod_ii : opMod (.int i) (.int j) h = if 0 < j then some (.int (i % j), h) else none := rfl
@[simp] theorem opFdiv_ii : opFdiv (.int i) (.int j) h = if 0 < j ∧ j < 1073741824 then some (.int (i / j), h) else none := rfl
@[simp] theorem opPow_ii : opPow (.int i) (.int j) h = if 0 ≤ j ∧ j ≤ 1000000 ∧ i.natAbs < 18446744073709551616 then some (.int (i ^ j.toNat), h) else none := rfl
@[simp] theorem opNeg_i : opNeg (.int i) h = some (.int (-i), h) := rfl
@[simp] theorem opEq_ii : opEq (.int i) (.int j) h = some (.bl (decide (i = j)), h) := rfl
@[simp] theorem opEq_ss : opEq (.str x) (.str y) h = some (.bl (decide (x = y)), h) := rfl
@[simp] theorem opEq_bb : opEq (.bl k) (.bl l) h = some (.bl (decide (k = l)), h) := rfl
@[simp] theorem opEq_nn : opEq .non .non h = some (.bl true, h) := rfl
@[simp] theorem opNe_ii : opNe (.int i) (.int j) h = some (.bl (!decide (i = j)), h) := rfl
@[simp] theorem opNe_ss : opNe (.str x) (.str y) h = some (.bl (!decide (x = y)), h) := rfl
@[simp] theorem opNe_bb : opNe (.bl k) (.bl l) h = some (.bl (!decide (k = l)), h) := rfl
@[simp] theorem opNe_nn : opNe .non .non h = some (.bl false, h) := rfl
@[simp] theorem opLt_ii : opLt (.int i) (.int j) h = some (.bl (decide (i < j)), h) := rfl
@[simp] theorem opLt_ss : opLt (.str x) (.str y) h = some (.bl (decide (x.cps.toList < y.cps.toList)), h) := rfl
@[simp] theorem opLe_ii : opLe (.int i) (.int j) h = some (.bl (decide (i ≤ j)), h) := rfl
@[simp] theorem opGt_ii : opGt (.int i) (.int j) h = some (.bl (decide (j < i)), h) := rfl
@[simp] theorem opGe_ii : opGe (.int i) (.int j) h = some (.bl (decide (j ≤ i)), h) := rfl
@[simp] theorem opIsN_n : opIsN .non h = some (.bl true, h) := rfl
@[simp] theorem opIsN_i : opIsN (.int i) h = some (.bl false, h) := rfl
@[simp] theorem opIsN_b : opIsN (.bl k) h = some (.bl false, h) := rfl
@[simp] theorem opIsN_s : opIsN (.str x) h = some (.bl false, h) := rfl
@[simp] theorem opIsN_t : opIsN (.tup xs) h = some (.bl false, h) := rfl
@[simp] theorem opIsN_f : opIsN (.fls xs) h = some (.bl false, h) := rfl
@[simp] theorem opIsN_r : opIsN (.ref n) h = some (.bl false, h) := rfl
@[simp] theorem opNotN_n : opNotN .non h = some (.bl false, h) := rfl
@[simp] theorem opNotN_i : opNotN (.int i) h = some (.bl true, h) := rfl
@[simp] theorem opNotN_b : opNotN (.bl k) h = some (.bl true, h) := rfl
@[simp] theorem opNotN_s : opNotN (.str x) h = some (.bl true, h) := rfl
@[simp] theorem opNotN_t : opNotN (.tup xs) h = some (.bl true, h) := rfl
@[simp] theorem opNotN_f : opNotN (.fls xs) h = some (.bl true, h) := rfl
@[simp] theorem opNotN_r : opNotN (.ref n) h = some (.bl true, h) := rfl
@[simp] theorem opTruth_n : opTruth .non h = some false := rfl
@[simp] theorem opTruth_b : opTruth (.bl k) h = some k := rfl
@[simp] theorem opTruth_i : opTruth (.int i) h = some (i != 0) := rfl
@[simp] theorem opTruth_t : opTruth (.tup xs) h = some (!xs.isEmpty) := rfl
@[simp] theorem opTruth_f : opTruth (.fls xs) h = some (!xs.isEmpty) := rfl
@[simp] theorem opTruth_s : opTruth (.str y) h = if y.length ≤ sizeLine then some ((y.length : Int) != 0) else none := rfl
@[simp] theorem opTruth_r : opTruth (.ref n) h = match h[n]? with
    | some (.lst ds) => some (!ds.isEmpty)
    | some (.dK ds) => some (!ds.isEmpty)
    | _ => none := rfl
@[simp] theorem opBl_b : opBl (.bl k) = some k := rfl
@[simp] theorem opIx_t : opIx (.tup xs) (.int i) h = (atI xs i).map fun d => (d, h) := rfl
@[simp] theorem opIx_f : opIx (.fls xs) (.int i) h = (atI xs i).map fun d => (d, h) := rfl
@[simp] theorem opIx_s : opIx (.str x) (.int i) h = if x.length ≤ sizeLine then (atI x.cps.toList i).map fun c => (.str ⟨#[c]⟩, h) else none := rfl
@[simp] theorem opIx_r : opIx (.ref n) (.int i) h = match h[n]? with
    | some (.lst ds) => (atI ds i).map fun d => (d, h)
    | _ => none := rfl
variable (lo hi : Option Int)
@[simp] theorem opSl_t : opSl (.tup xs) lo hi h = some (.tup (cutD xs lo hi), h) := rfl
@[simp] theorem opSl_f : opSl (.fls xs) lo hi h = some (.ref h.length, h ++ [.lst (cutD xs lo hi)]) := rfl
@[simp] theorem opSl_s : opSl (.str x) lo hi h = if x.length ≤ sizeLine then some (.str (cutS x lo hi), h) else none := rfl
@[simp] theorem opSl_r : opSl (.ref n) lo hi h = match h[n]? with
    | some (.lst ds) => some (.ref h.length, h ++ [.lst (cutD ds lo hi)])
    | _ => none := rfl
@[simp] theorem opRev_f : opRev (.fls xs) h = some (.ref h.length, h ++ [.lst xs.reverse]) := rfl
@[simp] theorem opRev_r : opRev (.ref n) h = match h[n]? with
    | some (.lst ds) => some (.ref h.length, h ++ [.lst ds.reverse])
    | _ => none := rfl
@[simp] theorem partsOf_t : partsOf (.tup xs) h = some xs := rfl
@[simp] theorem partsOf_f : partsOf (.fls xs) h = some xs := rfl
@[simp] theorem partsOf_r : partsOf (.ref n) h = match h[n]? with
    | some (.lst ds) => some ds
    | _ => none := rfl
@[simp] theorem gtTup_eq (is : List Nat) (env : Ev) : gtTup is d h env = match partsOf d h with
  | some ds => if ds.length = is.length then some (setAll is ds env) else none
  | none => none := rfl
@[simp] theorem opAbs_i : opAbs [.int i] h = some (.int (if i < 0 then -i else i), h) := rfl
@[simp] theorem opInt_i : opInt [.int i] h = some (.int i, h) := rfl
@[simp] theorem opInt_b : opInt [.bl k] h = some (.int (if k = true then 1 else 0), h) := rfl
@[simp] theorem opMax_ii : opMax [.int i, .int j] h = some (.int (if j > i then j else i), h) := rfl
@[simp] theorem opMin_ii : opMin [.int i, .int j] h = some (.int (if j < i then j else i), h) := rfl
@[simp] theorem opLen_t : opLen [.tup xs] h = some (.int xs.length, h) := rfl
@[simp] theorem opLen_f : opLen [.fls xs] h = some (.int xs.length, h) := rfl
@[simp] theorem opLen_s : opLen [.str y] h = if y.length ≤ sizeLine then some (.int y.length, h) else none := rfl
@[simp] theorem opLen_r : opLen [.ref n] h = match h[n]? with
    | some (.lst ds) => some (.int ds.length, h)
    | some (.dK ds) => some (.int ds.length, h)
    | some (.dT ds) => some (.int ds.length, h)
    | _ => none := rfl
@[simp] theorem opList_t : opList [.tup xs] h = some (.ref h.length, h ++ [.lst xs]) := rfl
@[simp] theorem opList_f : opList [.fls xs] h = some (.ref h.length, h ++ [.lst xs]) := rfl
@[simp] theorem opList_r : opList [.ref n] h = match h[n]? with
    | some (.lst ds) => some (.ref h.length, h ++ [.lst ds])
    | some (.dK kvs) => some (.ref h.length, h ++ [.lst (kvs.map fun kv => kD kv.1)])
    | some (.dT kvs) => some (.ref h.length, h ++ [.lst (kvs.map fun kv => .tup (kv.1.map kD))])
    | _ => none := rfl
@[simp] theorem opTupleOf_t : opTupleOf [.tup xs] h = some (.tup xs, h) := rfl
@[simp] theorem opTupleOf_f : opTupleOf [.fls xs] h = some (.tup xs, h) := rfl
@[simp] theorem opTupleOf_r : opTupleOf [.ref n] h = match h[n]? with
    | some (.lst ds) => some (.tup ds, h)
    | _ => none := rfl
@[simp] theorem opSorted_r : opSorted [.ref n] h = match h[n]? with
    | some (.lst ds) => match intsOf ds with
      | some ns => some (.ref h.length, h ++ [.lst ((sortI ns).map D.int)])
      | none => none
    | some (.dK kvs) => match keyInts kvs with
      | some ns => if ns.length < 64 then some (.ref h.length, h ++ [.lst ((sortI ns).map D.int)]) else none
      | none => none
    | _ => none := rfl
@[simp] theorem isi_n (t : Ty) : opIsi t .non h = some (.bl (isT .none t), h) := rfl
@[simp] theorem isi_b (t : Ty) : opIsi t (.bl k) h = some (.bl (isT .bool t), h) := rfl
@[simp] theorem isi_i (t : Ty) : opIsi t (.int i) h = some (.bl (isT .int t), h) := rfl
@[simp] theorem isi_s (t : Ty) : opIsi t (.str x) h = some (.bl (isT .str t), h) := rfl
@[simp] theorem isi_t (t : Ty) : opIsi t (.tup xs) h = some (.bl (isT .tuple t), h) := rfl
@[simp] theorem isi_f (t : Ty) : opIsi t (.fls xs) h = some (.bl (isT .list t), h) := rfl
@[simp] theorem isi_r (t : Ty) : opIsi t (.ref n) h = (match h[n]? with
    | some (.lst _) => some .list
    | some (.dK _) => some .dict
    | some (.dT _) => some .dict
    | _ => none : Option Ty).map fun u => (.bl (isT u t), h) := rfl
@[simp] theorem isL_r : isL (.ref n) h = (match h[n]? with
    | some (.lst _) => true
    | _ => false) := rfl
@[simp] theorem opAppend_r : opAppend (.ref n) [d] h = match h[n]? with
    | some (.lst xs) => if xs.length < sizeLine then some (.non, h.set n (.lst (xs ++ [d]))) else none
    | _ => none := rfl
@[simp] theorem opPop_r : opPop (.ref n) [] h = match h[n]? with
    | some (.lst xs) => match xs[xs.length - 1]? with
      | some y => some (y, h.set n (.lst xs.dropLast))
      | none => none
    | _ => none := rfl
@[simp] theorem opSetIx_i : opSetIx (.ref n) (.int i) d h = match h[n]? with
    | some (.lst xs) => (ixN xs.length i).map fun j => h.set n (.lst (xs.set j d))
    | some (.dK kvs) => if kvs.length < sizeLine then some (h.set n (.dK (putP kvs (.inl i) d))) else none
    | _ => none := by
  cases e : h[n]? with
  | none => simp [opSetIx, e]
  | some o => cases o <;> simp [opSetIx, e]
@[simp] theorem opSetIx_s : opSetIx (.ref n) (.str x) d h = match h[n]? with
    | some (.dK kvs) => if kvs.length < sizeLine then some (h.set n (.dK (putP kvs (.inr x) d))) else none
    | _ => none := by
  cases e : h[n]? with
  | none => simp [opSetIx, e]
  | some o => cases o <;> simp [opSetIx, e]
@[simp] theorem opSetIx_t : opSetIx (.ref n) (.tup xs) d h = match h[n]? with
    | some (.dT kvs) => match keysOf xs with
      | some ks => if isK xs = false ∧ kvs.length < sizeLine then some (h.set n (.dT (putP kvs ks d))) else none
      | none => none
    | _ => none := rfl
end
@[simp] theorem isT_ii : isT .int .int = true := rfl
@[simp] theorem isT_ib : isT .int .bool = false := rfl
@[simp] theorem isT_bi : isT .bool .int = true := rfl
@[simp] theorem isT_bb : isT .bool .bool = true := rfl
@[simp] theorem isT_it : isT .int .tuple = false := rfl
@[simp] theorem isT_tt : isT .tuple .tuple = true := rfl
@[simp] theorem isT_nt : isT .none .tuple = false := rfl
theorem forL_nil {g : TgM} {body : S} {gd : Option (Nat × O)} {env : Ev} {h : Hh} (hg : gdOk gd h) : forL g body gd [] env h = .nx env h := by
  unfold forL
  rw [if_pos hg]
theorem forL_nx {g : TgM} {body : S} {gd : Option (Nat × O)} {x : D} {xs : List D} {env env1 e' : Ev} {h h' : Hh} (hg : gdOk gd h) (e1 : g x h env = some env1) (e2 : body env1 h = .nx e' h') : forL g body gd (x :: xs) env h = forL g body gd xs e' h' := by
  rw [forL, if_pos hg, e1]
  dsimp only
  rw [e2]
theorem forL_rt {g : TgM} {body : S} {gd : Option (Nat × O)} {x d : D} {xs : List D} {env env1 : Ev} {h h' : Hh} (hg : gdOk gd h) (e1 : g x h env = some env1) (e2 : body env1 h = .rt d h') : forL g body gd (x :: xs) env h = .rt d h' := by
  rw [forL, if_pos hg, e1]
  dsimp only
  rw [e2]
/-- a loop that folds -/
theorem forL_fold {α σ : Type} {g : TgM} {body : S} {gd : Option (Nat × O)} (f : α → D) (upd : σ → α → σ) (Inv : σ → Ev → Hh → Prop) (hg : ∀ s env h, Inv s env h → gdOk gd h) (s0 : σ) (xs : List α) (env : Ev) (h : Hh) (h0 : Inv s0 env h)
    (step : ∀ pre a post env h, xs = pre ++ a :: post → Inv (pre.foldl upd s0) env h → ∃ env1, g (f a) h env = some env1 ∧ ∃ e' h', body env1 h = .nx e' h' ∧ Inv (upd (pre.foldl upd s0) a) e' h') :
    ∃ e' h', forL g body gd (xs.map f) env h = .nx e' h' ∧ Inv (xs.foldl upd s0) e' h' := by
  obtain ⟨e', h', eq, pre, post, hx, hp, i⟩ := forL_inv (g := g) (body := body) (gd := gd) (fun rest env h => ∃ pre post, xs = pre ++ post ∧ rest = post.map f ∧ Inv (pre.foldl upd s0) env h) (xs.map f) env h ⟨[], xs, rfl, rfl, h0⟩
    (fun _ _ _ ⟨_, _, _, _, i⟩ => hg _ _ _ i) (fun x rest env h ⟨pre, post, hx, hp, i⟩ => by
      cases post with
      | nil => cases hp
      | cons a post =>
        obtain ⟨rfl, rfl⟩ := List.cons.inj hp
        obtain ⟨env1, e1, e', h', q, i'⟩ := step pre a post env h hx i
        exact ⟨env1, e1, e', h', q, pre ++ [a], post, by rw [hx, List.append_assoc]; rfl, rfl, by rw [List.foldl_append]; exact i'⟩)
  refine ⟨e', h', eq, ?_⟩
  cases post with
  | nil =>
    rw [List.append_nil] at hx
    rw [hx]
    exact i
  | cons _ _ => cases hp
/-- 0, 1, .. below n -/
def upto (n : Nat) : List Int := (List.range n).map fun (i : Nat) => (i : Int)
theorem rngD_upto (n : Nat) : rngD 0 n = (upto n).map D.int := by
  unfold rngD upto
  rw [List.map_map]
  apply List.map_congr_left
  intro a _
  simp
theorem mem_upto {n : Nat} {x : Int} : x ∈ upto n ↔ 0 ≤ x ∧ x < n := by
  unfold upto
  simp only [List.mem_map, List.mem_range]
  constructor
  · rintro ⟨a, h, rfl⟩
    omega
  · rintro ⟨h1, h2⟩
    exact ⟨x.toNat, by omega, by omega⟩
theorem len_upto (n : Nat) : (upto n).length = n := by unfold upto; simp
/-! ### places behind a heap -/
section
variable (h : Hh) (a b c d : O)
@[simp] theorem hp_at1 : (h ++ [a])[h.length]? = some a := by simp
@[simp] theorem hp_at2 : (h ++ [a, b])[h.length]? = some a := by simp
@[simp] theorem hp_at2b : (h ++ [a, b])[h.length + 1]? = some b := by
  rw [List.getElem?_append_right (by omega)]
  simp
@[simp] theorem hp_set1 : (h ++ [a]).set h.length c = h ++ [c] := by simp
@[simp] theorem hp_set2 : (h ++ [a, b]).set h.length c = h ++ [c, b] := by simp
end
theorem cut_to {xs : List D} {n : Nat} : cutD xs none (some (n : Int)) = xs.take n := by
  unfold cutD
  rw [HT.sIx_none, HT.sIx_nat]
  simp only [List.drop_zero, Nat.sub_zero]
  by_cases h : n ≤ xs.length
  · rw [Nat.min_eq_left h]
  · rw [Nat.min_eq_right (by omega), List.take_of_length_le (Nat.le_refl _), List.take_of_length_le (by omega)]
theorem cut_from {xs : List D} {n : Nat} : cutD xs (some (n : Int)) none = xs.drop n := by
  unfold cutD
  rw [HT.sIx_none, HT.sIx_nat]
  by_cases h : n ≤ xs.length
  · rw [Nat.min_eq_left h, List.take_of_length_le (by simp)]
  · rw [Nat.min_eq_right (by omega), List.drop_of_length_le (Nat.le_refl _), List.drop_of_length_le (by omega)]
    simp
/-- an int's range -/
theorem rngD_nil (lo : Int) : rngD lo 0 = [] := rfl
theorem rngD_succ (lo : Int) (n : Nat) : rngD lo (n + 1) = .int lo :: rngD (lo + 1) n := by
  unfold rngD
  rw [List.range_succ_eq_map]
  simp only [List.map_cons, List.map_map]
  congr 1
  · simp
  · apply List.map_congr_left
    intro a _
    simp only [Function.comp]
    congr 1
    push_cast
    omega
@[simp] theorem b2i_t : b2i true = 1 := rfl
@[simp] theorem b2i_f : b2i false = 0 := rfl
theorem mulOk_r {i j : Int} (h1 : -18446744073709551616 < j) (h2 : j < 18446744073709551616) : mulOk i j = true := by
  unfold mulOk
  simp [h1, h2]
theorem mulOk_l {i j : Int} (h1 : -18446744073709551616 < i) (h2 : i < 18446744073709551616) : mulOk i j = true := by
  unfold mulOk
  simp [h1, h2]
end Sm
/-! SmH: comprehensions, range with a step, extend, all, any, sum, is True, += -/
namespace Sm
open PySem L2 PyProof.Rows

/-! ### the slots of a comprehension's own names -/
theorem wipe_get (σ : L2.St) (j : Nat) : ∀ vs : List Nat, (wipe σ vs)[j]? = if j ∈ vs then (σ[j]?).map (fun _ => none) else σ[j]?
  | [] => by simp [wipe]
  | v :: vs => by
    unfold wipe
    by_cases e : v = j
    · subst e
      have h0 : v ∈ v :: vs := by simp
      rw [if_pos h0]
      by_cases l : v < σ.length
      · rw [List.getElem?_set_self (by rw [wipe_length]; exact l), List.getElem?_eq_getElem l]; rfl
      · rw [List.getElem?_eq_none (by rw [List.length_set, wipe_length]; omega), List.getElem?_eq_none (by omega)]; rfl
    · have e' : ¬ j = v := fun z => e z.symm
      rw [List.getElem?_set_ne e, wipe_get σ j vs]
      simp [e']
theorem wipe_idem (σ : L2.St) (vs : List Nat) : wipe (wipe σ vs) vs = wipe σ vs := by
  apply List.ext_getElem?
  intro j
  rw [wipe_get, wipe_get]
  split
  · rw [Option.map_map]; rfl
  · rfl
theorem wipe_set {σ : L2.St} {vs : List Nat} {i : Nat} {x : Option V} (h : i ∈ vs) : wipe (σ.set i x) vs = wipe σ vs := by
  apply List.ext_getElem?
  intro j
  rw [wipe_get, wipe_get]
  split
  · by_cases e : i = j
    · subst e
      rw [List.getElem?_set, if_pos rfl]
      by_cases l : i < σ.length
      · rw [if_pos l, List.getElem?_eq_getElem l]; rfl
      · rw [if_neg l, List.getElem?_eq_none (by omega)]
    · rw [List.getElem?_set_ne e]
  · rename_i n
    rw [List.getElem?_set_ne (fun e => by subst e; exact n h)]
@[simp] def wipeE (env : Ev) : List Nat → Ev
  | [] => env
  | v :: vs => (wipeE env vs).set v none
theorem Re.wipe {K : PySem.W.Frag} {ρ : List Addr} {H : Hp} {σ : L2.St} {env : Ev} (r : Re K ρ H σ env) : ∀ vs : List Nat, Re K ρ H (L2.wipe σ vs) (wipeE env vs)
  | [] => r
  | v :: vs => by
    have r' := Re.wipe r vs
    unfold L2.wipe wipeE
    refine ⟨by rw [List.length_set, List.length_set, r'.len], fun i d e => ?_⟩
    by_cases q : v = i
    · subst q
      rw [List.getElem?_set, if_pos rfl] at e
      split at e <;> cases e
    · rw [List.getElem?_set_ne q] at e ⊢
      exact r'.get i d e
/-- a target that stores at these slots alone -/
def TgOkW (K : PySem.W.Frag) (G : Cl) (vs : List Nat) (g : TG) (s : TgM) : Prop := ∀ {ρ : List Addr} {H : Hp} {h : Hh} {σ : L2.St} {env env' : Ev} {v : V} {d : D} {Q : L2.St → Hp → Prop}, Rh K G ρ H h → Re K ρ H σ env → Rv K ρ H v d → s d h env = some env' → (∀ σ', Re K ρ H σ' env' → L2.wipe σ' vs = L2.wipe σ vs → Q σ' H) → g v σ H Q
theorem tgw_name {K : PySem.W.Frag} {G : Cl} {vs : List Nat} {i : Nat} (hi : i ∈ vs) : TgOkW K G vs (gName i) (gtName i) := fun {ρ H h σ env env' v d Q} hr he r e k => by
  cases e
  exact k _ (he.set r i) (wipe_set hi)
theorem names_impW {K : PySem.W.Frag} {vs : List Nat} {ρ : List Addr} {H : Hp} : ∀ {is : List Nat} {us : List V} {ds : List D} {σ : L2.St} {env : Ev} {Q : L2.St → Hp → Prop}, (∀ i ∈ is, i ∈ vs) → ds.length = is.length → Re K ρ H σ env → Rvs K ρ H us ds → (∀ σ', Re K ρ H σ' (setAll is ds env) → L2.wipe σ' vs = L2.wipe σ vs → Q σ' H) → gNames is us σ H Q
  | [], _, [], σ, env, Q, _, _, he, .nil, k => ⟨rfl, k σ he rfl⟩
  | i :: is, _, d :: ds, σ, env, Q, hv, l, he, .cons (v := v) (vs := us) r rs, k => ⟨v, us, rfl, names_impW (is := is) (fun j hj => hv j (by simp [hj])) (by simpa using l) (he.set r i) rs fun σ' a b => k σ' a (b.trans (wipe_set (hv i (by simp))))⟩
theorem tgw_tup {K : PySem.W.Frag} {G : Cl} {vs is : List Nat} {n : Nat} (hn : n = is.length) (hv : ∀ i ∈ is, i ∈ vs) : TgOkW K G vs (fun v σ H Q => gTup K n (gNames is) v σ H Q ∨ gLst K n (gNames is) v σ H Q) (gtTup is) := fun {ρ H h σ env env' v d Q} hr he r e k => by
  unfold gtTup at e
  split at e
  · rename_i ds e1
    split at e
    · rename_i hl
      cases e
      unfold partsOf at e1
      split at e1
      · cases e1
        obtain ⟨a, vs, rfl, t, r⟩ := r.sqT
        exact .inl ⟨a, vs, rfl, t, by rw [r.length, hl, hn], names_impW hv hl he r k⟩
      · cases e1
        cases r with
        | fls t r => exact .inr ⟨_, _, rfl, t.sq, by rw [r.length, hl, hn], names_impW hv hl he r k⟩
      · cases r with
        | ref ra =>
          split at e1
          · rename_i e0
            cases e1
            obtain ⟨vs, q, r⟩ := ref_seq hr ra e0
            exact .inr ⟨_, vs, rfl, q, by rw [r.length, hl, hn], names_impW hv hl he r k⟩
          · cases e1
      · cases e1
    · cases e
  · cases e

/-! ### [e for x in xs if t] -/
/-- within a comprehension nothing raises -/
abbrev WN : WX := fun _ _ _ _ => False
theorem Ct.blk {X : Cx} {W : WX} {k : Nat} (c : Ct X W k) (s : Shared) (H : Hp) (scope : Scope) (cenv : Env) (fp : List Addr) : Ct (X.blk s H scope cenv fp) WN k :=
  ⟨fun _ _ ⟨_, _, _, _, _, _, _, _, _, _, _, _, _, _, _, _, w⟩ => w.elim, PassesOwn.never, c.hr, c.hc, c.nd⟩
open Classical in
noncomputable def lcL (g : TgM) (t : MT) (m : M) (vs : List Nat) (n : Nat) (gd : Option (Nat × O)) (env : Ev) : List D → Hh → R D
  | [], h => if gdOk gd h then .ok (.ref n) h else .bad
  | x :: xs, h => if gdOk gd h then (match g x h (wipeE env vs) with
    | none => .bad
    | some env1 => match t env1 h with
      | .ok true h1 => (match m env1 h1 with
        | .ok d h2 => (match h2[n]? with
          | some (.lst acc) => if acc.length < sizeLine then lcL g t m vs n gd env xs (h2.set n (.lst (acc ++ [d]))) else .bad
          | _ => .bad)
        | _ => .bad)
      | .ok false h1 => lcL g t m vs n gd env xs h1
      | _ => .bad) else .bad
noncomputable def eLc (mi : Ev → Hh → R Src) (g : TgM) (t : MT) (m : M) (vs : List Nat) : M := fun env h => (mi env h).bind fun src h1 => lcL g t m vs h1.length src.2 env src.1 (h1 ++ [.lst []])
def tYesM : MT := fun _ h => .ok true h
section
variable {X : Cx} {G : Cl} {W : WX} {e a b c elt tg iter : Expr} {ifs es : List Expr} {pos p : Pos} {m mo : M} {ms : List M} {t : MT} {K : PySem.W.Frag} {ρ : List Addr} {H : Hp} {h : Hh} {σ : L2.St} {env : Ev} {D0 : Ends}
theorem lc_sound {wi : TI} {mi : Ev → Hh → R Src} {g : TG} {s : TgM} {tt : TT} {te : TE} {vs : List Nat} (oi : ItOk K G W wi mi) (ok : TgOkW K G vs g s) (ht : ∀ σ H Q, tT K G WN t σ H Q → tt σ H Q) (hte : ∀ σ H Q, tM K G WN m σ H Q → te σ H Q) (σ : L2.St) (H : Hp) (Q : VK)
    (q : tM K G W (eLc mi s t m vs) σ H Q) : tLc wi g tt te vs σ H Q := by
  obtain ⟨ρ, h, env, hr, he, p⟩ := q
  refine oi σ H _ (tG_mono (tG_bind hr he p) fun J H1 ⟨ρ1, h1, src, e1, hr1, he1, w, p1⟩ => fun L hL => ?_)
  obtain ⟨xs, gd⟩ := src
  dsimp only at w p1
  have hr2 := Rh.new (o := .lst []) hr1 hL (Ro.lst upd_same .nil)
  have hx2 : Ex K ρ1 H1 (ρ1 ++ [L]) (upd H1 L (.lst [])) := Ex.push hL
  have hn : (ρ1 ++ [L])[h1.length]? = some L := by rw [← hr1.len]; exact get_push_eq
  generalize h1.length = n at hn p1
  refine ⟨fun i k H' => i ≤ xs.length ∧ k = xs.length - i ∧ ∃ ρ' h', Ex K ρ1 H1 ρ' H' ∧ Rh K G ρ' H' h' ∧ ρ'[n]? = some L ∧ Re K ρ' H' σ env ∧ Po K G (relV K) W ρ' H' σ (lcL s t m vs n gd env (xs.drop i) h') Q, ⟨_, Nat.zero_le _, rfl, _, _, hx2, hr2, hn, he1.mono hx2, p1.shift hx2⟩, ?_⟩
  rintro i k H' ⟨hi, rfl, ρ', h', ex, hr', hn', he', p'⟩
  by_cases hlt : i < xs.length
  · rw [List.drop_eq_getElem_cons hlt] at p'
    unfold lcL at p'
    split at p'
    · rename_i hg
      refine .inr ⟨w.go i ρ' H' h' hr' ex hg hlt, fun H'' => ∃ ρ2 h2, Ex K ρ' H' ρ2 H'' ∧ Rh K G ρ2 H'' h2 ∧ Po K G (relV K) W ρ2 H'' σ (lcL s t m vs n gd env (xs.drop (i + 1)) h2) Q, fun H'' ⟨ρ2, h2, e2, r2, p2⟩ => ⟨_, by omega, hlt, rfl, ρ2, h2, ex.trans e2, r2, e2.pre _ _ hn', he'.mono e2, p2⟩, fun x H'' y => ?_⟩
      obtain ⟨rfl, rx⟩ := w.yld i ρ' H' h' x H'' hr' ex hg y xs[i] (by simp [hlt])
      split at p'
      · exact p'.elim
      · rename_i env2 q2
        refine ok hr' (he'.wipe vs) rx q2 fun σ2 he2 hw => ⟨hw.trans (wipe_idem σ vs), ?_⟩
        refine ht σ2 _ _ ⟨ρ', h', env2, hr', he2, ?_⟩
        split at p'
        · rename_i h3 q3
          rw [q3]
          intro ρ3 H3 b e3 r3 hb
          subst hb
          simp only [if_true]
          refine hte σ2 _ _ ⟨ρ3, h3, env2, r3, he2.mono e3, ?_⟩
          split at p'
          · rename_i d h4 q4
            rw [q4]
            intro ρ4 H4 v e4 r4 rv
            split at p'
            · rename_i acc q5
              split at p'
              · rename_i hl
                have hn4 : ρ4[n]? = some L := e4.pre _ _ (e3.pre _ _ hn')
                obtain ⟨us, k1, k2⟩ := ref_lst r4 hn4 q5
                have e5 : Ex K ρ4 H4 ρ4 (upd H4 L (.lst (us ++ [v]))) := Ex.write r4 hn4 q5
                refine ⟨us, k1, by rw [k2.length]; exact hl, ρ4, _, (e3.trans e4).trans e5, r4.write hn4 q5 (.lst upd_same ((k2.append (.cons rv .nil)).mono e5)), p'.shift ((e3.trans e4).trans e5)⟩
              · exact p'.elim
            · exact p'.elim
          · exact p'.elim
        · rename_i h3 q3
          rw [q3]
          intro ρ3 H3 b e3 r3 hb
          subst hb
          simp only [Bool.false_eq_true, if_false]
          exact ⟨ρ3, h3, e3, r3, p'.shift e3⟩
        · exact p'.elim
    · exact p'.elim
  · have hl : i = xs.length := by omega
    subst hl
    rw [List.drop_length] at p'
    unfold lcL at p'
    split at p'
    · rename_i hg
      exact .inl ⟨w.stop ρ' H' h' hr' ex hg, p' ρ' H' _ Ex.refl hr' (.ref hn')⟩
    · exact p'.elim
theorem se_lc {scope : Scope} {own : List (Str × Nat)} {wi : TI} {mi : Ev → Hh → R Src} {g : TG} {s : TgM} {tt : TT} (hc : X.calm = true) (hN : X.N.Nodup) (hi : PI X tg iter wi) (oi : ItOk X.K G W wi mi) (bk : BlkOk X.N X.env.scope scope own)
    (hg : ∀ (s : Shared) (H : Hp) (C : Addr) (cl : List (Str × Addr)) (fp : List Addr), PG (X.blk s H scope (compEnvC scope cl C X.env) fp) tg g) (ok : TgOkW X.K G (own.map (·.2)) g s)
    (ht : ∀ (s : Shared) (H : Hp) (C : Addr) (cl : List (Str × Addr)) (fp : List Addr), PTs (X.blk s H scope (compEnvC scope cl C X.env) fp) ifs tt) (htt : ∀ σ H Q, tT X.K G WN t σ H Q → tt σ H Q)
    (he : ∀ (s : Shared) (H : Hp) (C : Addr) (cl : List (Str × Addr)) (fp : List Addr), PE (X.blk s H scope (compEnvC scope cl C X.env) fp) elt (tM X.K G WN m)) (hs : ∀ x, foldedSetIterable iter X.env x = pure x := by intro _; rfl) :
    PE X (.ListComp elt [⟨tg, iter, ifs, 0⟩] scope pos) (tM X.K G W (eLc mi s t m (own.map (·.2)))) :=
  peImp (pe_lc hc hN hi bk hg ht he hs) fun σ H Q q => lc_sound oi ok htt (fun _ _ _ z => z) σ H Q q
theorem s_setLc {i : Nat} {y : Str} {py spos : Pos} {scope : Scope} {own : List (Str × Nat)} {wi : TI} {mi : Ev → Hh → R Src} {g : TG} {s : TgM} {tt : TT} (hc : X.calm = true) (hN : X.N.Nodup)
    (hsw : swapsWith (.ListComp elt [⟨tg, iter, ifs, 0⟩] scope pos) (some (.Name y py)) spos.line X.env = pure true) (hi : PI X tg iter wi) (oi : ItOk X.K G W wi mi) (bk : BlkOk X.N X.env.scope scope own)
    (hg : ∀ (s : Shared) (H : Hp) (C : Addr) (cl : List (Str × Addr)) (fp : List Addr), PG (X.blk s H scope (compEnvC scope cl C X.env) fp) tg g) (ok : TgOkW X.K G (own.map (·.2)) g s)
    (ht : ∀ (s : Shared) (H : Hp) (C : Addr) (cl : List (Str × Addr)) (fp : List Addr), PTs (X.blk s H scope (compEnvC scope cl C X.env) fp) ifs tt) (htt : ∀ σ H Q, tT X.K G WN t σ H Q → tt σ H Q)
    (he : ∀ (s : Shared) (H : Hp) (C : Addr) (cl : List (Str × Addr)) (fp : List Addr), PE (X.blk s H scope (compEnvC scope cl C X.env) fp) elt (tM X.K G WN m)) (hs : ∀ x, foldedSetIterable iter X.env x = pure x := by intro _; rfl)
    (hy : X.N[i]? = some y := by rfl) (hyl : X.env.scope.names.lookup y = some .local := by rfl) :
    PS X (.Assign [.Name y py] (.ListComp elt [⟨tg, iter, ifs, 0⟩] scope pos) spos) (tS X.K G W (sSet i (eLc mi s t m (own.map (·.2))))) :=
  psImp (ps_setLc hc hN hy hyl hsw hi bk hg ht he hs) fun D0 σ H q => by
    obtain ⟨ρ, h, env, hr, he, p⟩ := q
    refine lc_sound oi ok htt (fun _ _ _ z => z) σ H _ (tG_mono (tS_bind (rel := relV X.K) hr he p) fun x H1 ⟨ρ1, h1, d, e1, hr1, he1, r1, p1⟩ => ?_)
    exact p1.nx_ hr1 (he1.set r1 i)
theorem inBlkE {k : Nat} {s : Shared} {H : Hp} {scope : Scope} {cenv : Env} {fp : List Addr} {t : TE} (c : Ct X W k) (f : Ct (X.blk s H scope cenv fp) WN k → PE (X.blk s H scope cenv fp) e t) : PE (X.blk s H scope cenv fp) e t := f (c.blk _ _ _ _ _)
theorem inBlkT {k : Nat} {s : Shared} {H : Hp} {scope : Scope} {cenv : Env} {fp : List Addr} {t : TT} (c : Ct X W k) (f : Ct (X.blk s H scope cenv fp) WN k → PT (X.blk s H scope cenv fp) e t) : PTs (X.blk s H scope cenv fp) [e] t := pts_one (f (c.blk _ _ _ _ _))
theorem yes_imp : ∀ σ H Q, tT K G WN tYesM σ H Q → tYes σ H Q := fun σ H Q ⟨ρ, h, env, hr, he, p⟩ => p ρ H true Ex.refl hr rfl
end
/-! ### range with a step -/
def rngS (lo c : Int) (n : Nat) : List D := (List.range n).map fun (i : Nat) => D.int (lo + (i : Int) * c)
def okR3 (i j c : Int) : Bool := decide (c ≠ 0) && decide (c.natAbs < 1073741824) && PySem.Builtin.Range.small i j c
def cntR3 (i j c : Int) : Nat := (PySem.Builtin.Range.rangeSize i j c).toNat
def mRng3 (ma mb mc : M) : Ev → Hh → R Src := fun env h => (ma env h).bind fun d h1 => (mb env h1).bind fun e h2 => (mc env h2).bind fun f h3 => match d, e, f with
  | .int i, .int j, .int c => if okR3 i j c = true then .ok (rngS i c (cntR3 i j c), none) h3 else .bad
  | _, _, _ => .bad
section
variable {X : Cx} {G : Cl} {W : WX} {K : PySem.W.Frag} {ρ : List Addr} {H : Hp} {h : Hh} {σ : L2.St} {env : Ev}
theorem walks_rngS {lo c : Int} {n : Nat} : Walks K G ρ H (Itc lo c n) (rngS lo c n) none := by
  have hl : (rngS lo c n).length = n := by unfold rngS; simp
  refine ⟨fun i ρ' H' h' hr e _ hi => by rw [hl] at hi; exact hi, fun i ρ' H' h' x H2 hr e _ y d hd => ?_, fun ρ' H' h' hr e _ => by rw [hl]; exact Nat.le_refl _⟩
  obtain ⟨rfl, rfl⟩ := y
  unfold rngS at hd
  rw [List.getElem?_map] at hd
  cases q : (List.range n)[i]? with
  | none => rw [q] at hd; cases hd
  | some j =>
    rw [q] at hd
    cases hd
    obtain ⟨h1, h2⟩ := List.getElem?_eq_some_iff.mp q
    simp at h2
    subst h2
    exact ⟨rfl, .int _⟩
theorem io_rng3 {ma mb mc : M} : ItOk K G W (iRng3 (tL K G W (evs [ma, mb, mc]))) (mRng3 ma mb mc) := fun σ H R0 t => by
  obtain ⟨ρ, h, env, hr, he, p⟩ := t
  refine ⟨ρ, h, env, hr, he, ?_⟩
  unfold mRng3 at p
  show Po K G _ W ρ H σ ((ma env h).bind fun d h1 => ((mb env h1).bind fun d2 h2 => ((mc env h2).bind fun d3 h3 => (evs [] env h3).bind fun ds h4 => .ok (d3 :: ds) h4).bind fun ds h3 => .ok (d2 :: ds) h3).bind fun ds h2 => .ok (d :: ds) h2) _
  cases q : ma env h with
  | bad => rw [q] at p; exact p.elim
  | exc c fs h' => rw [q] at p; exact p
  | ok d h1 =>
    rw [q] at p
    simp only [R.bind_ok] at p ⊢
    cases q2 : mb env h1 with
    | bad => rw [q2] at p; exact p.elim
    | exc c fs h' => rw [q2] at p; exact p
    | ok d2 h2 =>
      rw [q2] at p
      simp only [R.bind_ok] at p ⊢
      cases q3 : mc env h2 with
      | bad => rw [q3] at p; exact p.elim
      | exc c fs h' => rw [q3] at p; exact p
      | ok d3 h3 =>
        rw [q3] at p
        simp only [R.bind_ok] at p ⊢
        split at p
        · rename_i i j c
          split at p
          · rename_i hj
            intro ρ' H' vs e a b
            cases b with
            | cons b1 b2 =>
              cases b2 with
              | cons b2 b3 =>
                cases b3 with
                | cons b3 b4 =>
                  cases b1; cases b2; cases b3; cases b4
                  unfold okR3 at hj
                  simp only [Bool.and_eq_true, decide_eq_true_eq] at hj
                  exact ⟨i, j, c, cntR3 i j c, rfl, ⟨hj.1.1, hj.1.2, hj.2, rangeSize_toNat i j c⟩, p ρ' H' _ e a walks_rngS⟩
          · exact p.elim
        · exact p.elim
end
/-! ### all, any, sum -/
def bools : List D → Option (List Bool)
  | [] => some []
  | .bl b :: r => (bools r).map (b :: ·)
  | _ :: _ => none
theorem bools_eq {K : PySem.W.Frag} {ρ : List Addr} {H : Hp} : ∀ {vs : List V} {ds : List D} {bs : List Bool}, Rvs K ρ H vs ds → bools ds = some bs → vs = bs.map V.bl
  | _, _, _, .nil, e => by cases e; rfl
  | _, _, bs, .cons (d := .bl b) h t, e => by
    simp only [bools, Option.map_eq_some_iff] at e
    obtain ⟨ms, e1, rfl⟩ := e
    cases h
    rw [List.map_cons, ← bools_eq t e1]
  | _, _, _, .cons (d := .non) h t, e => by simp [bools] at e
  | _, _, _, .cons (d := .int _) h t, e => by simp [bools] at e
  | _, _, _, .cons (d := .str _) h t, e => by simp [bools] at e
  | _, _, _, .cons (d := .tup _) h t, e => by simp [bools] at e
  | _, _, _, .cons (d := .fls _) h t, e => by simp [bools] at e
  | _, _, _, .cons (d := .ref _) h t, e => by simp [bools] at e
def opAll : List D → Hh → Option (D × Hh)
  | [.fls ds], h => (bools ds).map fun bs => (.bl (bs.all id), h)
  | [.ref n], h => match h[n]? with
    | some (.lst ds) => (bools ds).map fun bs => (.bl (bs.all id), h)
    | _ => none
  | _, _ => none
def opAny : List D → Hh → Option (D × Hh)
  | [.fls ds], h => (bools ds).map fun bs => (.bl (bs.any id), h)
  | [.ref n], h => match h[n]? with
    | some (.lst ds) => (bools ds).map fun bs => (.bl (bs.any id), h)
    | _ => none
  | _, _ => none
def opSum : List D → Hh → Option (D × Hh)
  | [.fls ds], h => (intsOf ds).map fun ns => (.int ns.sum, h)
  | [.ref n], h => match h[n]? with
    | some (.lst ds) => (intsOf ds).map fun ns => (.int ns.sum, h)
    | _ => none
  | _, _ => none
section
variable {X : Cx} {G : Cl} {W : WX} {e o a b c : Expr} {es : List Expr} {pos p : Pos} {m mo : M} {ms : List M} {K : PySem.W.Frag}
theorem im_all : ImpN K G (rAll K) opAll := fun {ρ H h xs ds d h' Q} hr rs e k => by
  unfold opAll at e
  split at e
  · obtain ⟨v, rfl, r⟩ := rs.one
    cases r with
    | fls t r2 =>
      rw [Option.map_eq_some_iff] at e
      obtain ⟨bs, e1, e2⟩ := e
      cases e2
      have q := t.sq
      rw [bools_eq r2 e1] at q
      exact ⟨_, bs, rfl, q, k _ _ _ Ex.refl hr (.bl _)⟩
  · obtain ⟨v, rfl, r⟩ := rs.one
    cases r with
    | ref ra =>
      split at e
      · rename_i zs e0
        rw [Option.map_eq_some_iff] at e
        obtain ⟨bs, e1, e2⟩ := e
        cases e2
        obtain ⟨vs, q, r2⟩ := ref_seq hr ra e0
        rw [bools_eq r2 e1] at q
        exact ⟨_, bs, rfl, q, k _ _ _ Ex.refl hr (.bl _)⟩
      · cases e
  · cases e
theorem im_any : ImpN K G (rAny K) opAny := fun {ρ H h xs ds d h' Q} hr rs e k => by
  unfold opAny at e
  split at e
  · obtain ⟨v, rfl, r⟩ := rs.one
    cases r with
    | fls t r2 =>
      rw [Option.map_eq_some_iff] at e
      obtain ⟨bs, e1, e2⟩ := e
      cases e2
      have q := t.sq
      rw [bools_eq r2 e1] at q
      exact ⟨_, bs, rfl, q, k _ _ _ Ex.refl hr (.bl _)⟩
  · obtain ⟨v, rfl, r⟩ := rs.one
    cases r with
    | ref ra =>
      split at e
      · rename_i zs e0
        rw [Option.map_eq_some_iff] at e
        obtain ⟨bs, e1, e2⟩ := e
        cases e2
        obtain ⟨vs, q, r2⟩ := ref_seq hr ra e0
        rw [bools_eq r2 e1] at q
        exact ⟨_, bs, rfl, q, k _ _ _ Ex.refl hr (.bl _)⟩
      · cases e
  · cases e
theorem im_sum : ImpN K G (rSum K) opSum := fun {ρ H h xs ds d h' Q} hr rs e k => by
  unfold opSum at e
  split at e
  · obtain ⟨v, rfl, r⟩ := rs.one
    cases r with
    | fls t r2 =>
      rw [Option.map_eq_some_iff] at e
      obtain ⟨bs, e1, e2⟩ := e
      cases e2
      have q := t.sq
      have := intsOf_eq e1
      subst this
      rw [r2.ints] at q
      exact ⟨_, bs, rfl, q, k _ _ _ Ex.refl hr (.int _)⟩
  · obtain ⟨v, rfl, r⟩ := rs.one
    cases r with
    | ref ra =>
      split at e
      · rename_i zs e0
        rw [Option.map_eq_some_iff] at e
        obtain ⟨bs, e1, e2⟩ := e
        cases e2
        obtain ⟨vs, q, r2⟩ := ref_seq hr ra e0
        have := intsOf_eq e1
        subst this
        rw [r2.ints] at q
        exact ⟨_, bs, rfl, q, k _ _ _ Ex.refl hr (.int _)⟩
      · cases e
  · cases e
/-! ### is True -/
def opIsB : D → D → Hh → Option (D × Hh)
  | .bl a, .bl b, h => some (.bl (decide (a = b)), h)
  | _, _, _ => none
theorem im_isB : Imp2 K G (fun x y H Q => ∃ a b : Bool, x = .bl a ∧ y = .bl b ∧ Q (.bl (decide (a = b))) H) opIsB := fun {ρ H h x y dx dy d h' Q} hr rx ry e k => by
  cases rx <;> cases ry <;> simp only [opIsB] at e <;> cases e
  exact ⟨_, _, rfl, rfl, k _ _ _ Ex.refl hr (.bl _)⟩
theorem se_isB {ma mb : M} {a b : Expr} (hu : X.A.units + 64 < cLine) (ha : PE X a (tM X.K G W ma)) (hb : PE X b (tM X.K G W mb)) : PE X (.Compare a [.Is] [b] pos) (tM X.K G W (eB opIsB ma mb)) := se_cmp op_is_bl im_isB ha hb (nomark _)
theorem st_isB {ma mb : M} {a b : Expr} (hu : X.A.units + 64 < cLine) (ha : PE X a (tM X.K G W ma)) (hb : PE X b (tM X.K G W mb)) : PT X (.Compare a [.Is] [b] pos) (tT X.K G W (tBl (eB opIsB ma mb))) := st_cmp op_is_bl im_isB ha hb (nomark _)
/-! ### += of numbers -/
def opIAddI : D → D → Hh → Option (D × Hh)
  | .int a, .int b, h => some (.int (a + b), h)
  | _, _, _ => none
theorem im_iaddI : Imp2 K G (rI0 fun i j => .int (i + j)) opIAddI := fun {ρ H h x y dx dy d h' Q} hr rx ry e k => by
  cases rx <;> cases ry <;> simp only [opIAddI] at e <;> cases e
  exact ⟨_, _, rfl, rfl, k _ _ _ Ex.refl hr (.int _)⟩
/-! ### extend -/
def opExtend : D → List D → Hh → Option (D × Hh)
  | .ref n, [.ref k], h => match h[n]?, h[k]? with
    | some (.lst xs), some (.lst ys) => if xs.length + ys.length ≤ sizeLine then some (.non, h.set n (.lst (xs ++ ys))) else none
    | _, _ => none
  | _, _, _ => none
theorem im_extend : ImpM K G rExtend opExtend := fun {ρ H h x o xs ds d h' Q} hr ro rs e k => by
  unfold opExtend at e
  split at e
  · cases ro with
    | ref ra =>
      obtain ⟨v, rfl, r⟩ := rs.one
      cases r with
      | ref rb =>
        split at e
        · rename_i zs ys e0 e1
          split at e
          · rename_i hl
            cases e
            obtain ⟨vs, q, r2⟩ := ref_lst hr ra e0
            obtain ⟨us, q1, r3⟩ := ref_lst hr rb e1
            exact ⟨_, _, vs, us, rfl, rfl, q, q1, by rw [r2.length, r3.length]; exact hl, wr_lst hr ra e0 (r2.append r3) .non k⟩
          · cases e
        · cases e
  · cases e
theorem se_extend (ho : PE X o (tM X.K G W mo)) (ha : PA X (e :: es) (tL X.K G W (evs ms))) {apos : Pos} (hbase : attributeBase o "extend" X.env (eval o X.env) = eval o X.env := by rfl)
    (hfew : ((backTo pos (starEach (e :: es) X.env)).all (fun x => !x.1) && (backToKw pos (keywordEach [] X.env)).all (fun x => x.1.isSome)
      && decide ((e :: es).length + ([] : List Keyword).length + (if ([] : List Keyword).isEmpty then 0 else 1) < 30)) = true := by rfl)
    (hline : (apos.endLine == pos.line) = true := by rfl) (hs : starEach (e :: es) X.env = (false, eval e X.env) :: starEach es X.env := by rfl) (hplain : (backTo pos (starEach es X.env)).any (·.1) = false := by rfl) :
    PE X (.Call (.Attribute o "extend" apos) (e :: es) [] pos) (tM X.K G W (eMt opExtend mo ms)) :=
  peImp (pe_bm PySem.F.plainAttrs_list PySem.F.slot_list_extend PySem.F.type_list_extend mt_extend ho ha hbase hfew hline hs hplain) fun σ H Q t => mt_imp im_extend σ H Q t
end
end Sm
/-! SmI: running the mirrors of SmH -/
namespace Sm
open PySem L2 PyProof.Rows
section
variable (env : Ev) (h : Hh) (f g : D → D → Hh → Option (D × Hh)) (a b c m : M) (d e : D) (ds xs ys : List D) (i j k n : Nat) (s1 s2 : S) (t u : MT) (tg : TgM) (vs : List Nat) (mi : Ev → Hh → R Src) (src : Src)
noncomputable def eLc1 (env : Ev) (r : R Src) : R D := r.bind fun src h1 => lcL tg t m vs h1.length src.2 env src.1 (h1 ++ [.lst []])
@[simp] theorem eLc_eq : eLc mi tg t m vs env h = eLc1 m t tg vs env (mi env h) := rfl
@[simp] theorem eLc1_ok : eLc1 m t tg vs env (.ok src h) = lcL tg t m vs h.length src.2 env src.1 (h ++ [.lst []]) := rfl
@[simp] theorem tYesM_eq : tYesM env h = .ok true h := rfl
def mRng31 (env : Ev) (r : R D) : R Src := r.bind fun d h1 => (b env h1).bind fun e h2 => (c env h2).bind fun f h3 => match d, e, f with
  | .int i, .int j, .int c => if okR3 i j c = true then .ok (rngS i c (cntR3 i j c), none) h3 else .bad
  | _, _, _ => .bad
def mRng32 (env : Ev) (d : D) (r : R D) : R Src := r.bind fun e h2 => (c env h2).bind fun f h3 => match d, e, f with
  | .int i, .int j, .int c => if okR3 i j c = true then .ok (rngS i c (cntR3 i j c), none) h3 else .bad
  | _, _, _ => .bad
def mRng33 (d e : D) (r : R D) : R Src := r.bind fun f h3 => match d, e, f with
  | .int i, .int j, .int c => if okR3 i j c = true then .ok (rngS i c (cntR3 i j c), none) h3 else .bad
  | _, _, _ => .bad
@[simp] theorem mRng3_eq : mRng3 a b c env h = mRng31 b c env (a env h) := rfl
@[simp] theorem mRng31_ok : mRng31 b c env (.ok d h) = mRng32 c env d (b env h) := rfl
@[simp] theorem mRng32_ok : mRng32 c env d (.ok e h) = mRng33 d e (c env h) := rfl
@[simp] theorem mRng33_ok (x y z : Int) : mRng33 (.int x) (.int y) (.ok (.int z) h) = if okR3 x y z = true then .ok (rngS x z (cntR3 x y z), none) h else .bad := rfl
@[simp] theorem opAll_r : opAll [.ref n] h = match h[n]? with
    | some (.lst ds) => (bools ds).map fun bs => (.bl (bs.all id), h)
    | _ => none := rfl
@[simp] theorem opAny_r : opAny [.ref n] h = match h[n]? with
    | some (.lst ds) => (bools ds).map fun bs => (.bl (bs.any id), h)
    | _ => none := rfl
@[simp] theorem opSum_r : opSum [.ref n] h = match h[n]? with
    | some (.lst ds) => (intsOf ds).map fun ns => (.int ns.sum, h)
    | _ => none := rfl
@[simp] theorem opIsB_bb (p q : Bool) : opIsB (.bl p) (.bl q) h = some (.bl (decide (p = q)), h) := rfl
@[simp] theorem opIAddI_ii (x y : Int) : opIAddI (.int x) (.int y) h = some (.int (x + y), h) := rfl
@[simp] theorem opExtend_rr : opExtend (.ref n) [.ref k] h = match h[n]?, h[k]? with
    | some (.lst xs), some (.lst ys) => if xs.length + ys.length ≤ sizeLine then some (.non, h.set n (.lst (xs ++ ys))) else none
    | _, _ => none := rfl
end
/-- a comprehension that changes nothing -/
theorem lcL_pure {g : TgM} {t : MT} {m : M} {vs : List Nat} {gd : Option (Nat × O)} {env : Ev} (h : Hh) (f : D → D) (hg : ∀ acc, gdOk gd (h ++ [.lst acc])) : ∀ (xs acc : List D),
    (∀ x ∈ xs, ∀ acc, ∃ env1, g x (h ++ [.lst acc]) (wipeE env vs) = some env1 ∧ t env1 (h ++ [.lst acc]) = .ok true (h ++ [.lst acc]) ∧ m env1 (h ++ [.lst acc]) = .ok (f x) (h ++ [.lst acc])) →
    acc.length + xs.length ≤ sizeLine → lcL g t m vs h.length gd env xs (h ++ [.lst acc]) = .ok (.ref h.length) (h ++ [.lst (acc ++ xs.map f)])
  | [], acc, _, _ => by
    unfold lcL
    rw [if_pos (hg acc)]
    simp
  | x :: xs, acc, hx, hl => by
    obtain ⟨env1, e1, e2, e3⟩ := hx x (by simp) acc
    rw [List.length_cons] at hl
    unfold lcL
    rw [if_pos (hg acc), e1]
    dsimp only
    rw [e2]
    dsimp only
    rw [e3]
    simp only [hp_at1]
    rw [if_pos (by omega)]
    have := lcL_pure h f hg xs (acc ++ [f x]) (fun y hy => hx y (by simp [hy])) (by simp; omega)
    simpa using this
/-- a comprehension, by what holds of the rest and of the list so far -/
theorem lcL_inv {g : TgM} {t : MT} {m : M} {vs : List Nat} {n : Nat} {gd : Option (Nat × O)} {env : Ev} (I : List D → List D → Hh → Prop)
    (hg : ∀ rest acc h, I rest acc h → gdOk gd h)
    (step : ∀ x rest acc h, I (x :: rest) acc h → ∃ env1 d h2, g x h (wipeE env vs) = some env1 ∧ t env1 h = .ok true h ∧ m env1 h = .ok d h2 ∧ h2[n]? = some (.lst acc) ∧ acc.length < sizeLine ∧ I rest (acc ++ [d]) (h2.set n (.lst (acc ++ [d])))) :
    ∀ (xs acc : List D) (h : Hh), I xs acc h → ∃ acc' h', lcL g t m vs n gd env xs h = .ok (.ref n) h' ∧ I [] acc' h'
  | [], acc, h, i => by
    refine ⟨acc, h, ?_, i⟩
    unfold lcL
    rw [if_pos (hg _ _ _ i)]
  | x :: xs, acc, h, i => by
    obtain ⟨env1, d, h2, e1, e2, e3, e4, hl, i'⟩ := step x xs acc h i
    obtain ⟨acc', h', e, j⟩ := lcL_inv I hg step xs _ _ i'
    refine ⟨acc', h', ?_, j⟩
    unfold lcL
    rw [if_pos (hg _ _ _ i), e1]
    dsimp only
    rw [e2]
    dsimp only
    rw [e3]
    dsimp only
    rw [e4]
    dsimp only
    rw [if_pos hl]
    exact e
theorem inR_ok {i : Int} (h0 : -2000000 ≤ i) (h1 : i ≤ 2000000) : inR i = true := Nat.ble_eq_true_of_le (by omega)
theorem rngS_succ (lo c : Int) (n : Nat) : rngS lo c (n + 1) = .int lo :: rngS (lo + c) c n := by
  unfold rngS
  rw [List.range_succ_eq_map, List.map_cons, List.map_map]
  congr 1
  · simp
  · apply List.map_congr_left
    intro a _
    simp only [Function.comp]
    congr 1
    rw [Nat.succ_eq_add_one, Int.natCast_add, Int.add_mul]
    simp
    omega
theorem rngS_zero (lo c : Int) : rngS lo c 0 = [] := rfl
end Sm
/-! SmPool: the drawing functions that many laws share, once. -/
namespace SmPool
open PySem L2 PyProof.Rows Sm
noncomputable def b__law_pool_2 : S := (sIf (tBl (eB opGt (eV 4) (eC (.int 0)))) (sSeq (sExpr (eMt opAppend (eV 1) [(eB opMod (eN opInt [(eV 4)]) (eC (.int 1000)))]))
    (sSet 4 (eB opFdiv (eV 4) (eC (.int 1000))))) sSkip)
noncomputable def b__law_pool_1 : S := (sSeq (sSet 4 (eB opMod (eN opInt [(eB opAdd (eB opMul (eC (.int 2)) (eN opAbs [(eN opInt [(eV 3)])])) (eN opInt [(eB opLt (eV 3) (eC (.int 0)))]))]) (eB opPow (eC (.int 10)) (eC (.int 60)))))
    (sSeq (sSet 2 (eB opMod (eN opInt [(eB opAdd (eB opAdd (eB opMul (eV 2) (eC (.int 48271))) (eV 4)) (eC (.int 11)))]) (eC (.int 2147483647))))
    (sSeq (sIf (tBl (eB opLt (eV 4) (eB opPow (eC (.int 10)) (eC (.int 18))))) (sSeq (sExpr (eMt opAppend (eV 1) [(eB opFdiv (eB opMod (eN opInt [(eB opMul (eV 2) (eC (.int 742938285)))]) (eC (.int 2147483399))) (eC (.int 64)))]))
    (sSet 4 (eC (.int 0)))) sSkip)
    (sFor (mRng1 (eC (.int 20))) (gtName 5) b__law_pool_2))))
noncomputable def b__law_pool : S := (sSeq (sSet 1 (eLst []))
    (sSeq (sSet 2 (eC (.int 7)))
    (sSeq (sFor (mSeq (eSl (eV 0) none (some (eC (.int 63))))) (gtName 3) b__law_pool_1)
    (sRet (eB opAdd (eLst [(eV 2)]) (eU opRev (eV 1)))))))
noncomputable def m__law_pool : Fm := fnM 6 b__law_pool
noncomputable def b__law_take : S := (sSeq (sIf (tBl (eB opGt (eN opLen [(eV 0)]) (eC (.int 1)))) (sRet (eB opMod (eN opInt [(eMt opPop (eV 0) [])]) (eV 1))) sSkip)
    (sSeq (sSetIx (eV 0) (eC (.int 0)) (eB opMod (eN opInt [(eB opAdd (eB opMul (eB opIx (eV 0) (eC (.int 0))) (eC (.int 48271))) (eC (.int 11)))]) (eC (.int 2147483647))))
    (sRet (eB opMod (eN opInt [(eB opFdiv (eB opMod (eN opInt [(eB opMul (eB opIx (eV 0) (eC (.int 0))) (eC (.int 742938285)))]) (eC (.int 2147483399))) (eC (.int 64)))]) (eV 1)))))
noncomputable def m__law_take : Fm := fnM 2 b__law_take
noncomputable def b__law_wide : S := (sRet (eB opMod (eN opInt [(eB opAdd (eB opMul (eCall m__law_take [(eV 0), (eC (.int 1000))]) (eC (.int 1000))) (eCall m__law_take [(eV 0), (eC (.int 1000))]))]) (eV 1)))
noncomputable def m__law_wide : Fm := fnM 2 b__law_wide
noncomputable def b__law_edge : S := (sSeq (sSet 2 (eCall m__law_take [(eV 0), (eC (.int 6))]))
    (sSeq (sIf (tBl (eB opEq (eV 2) (eC (.int 0)))) (sRet (eC (.int 0))) sSkip)
    (sSeq (sIf (tBl (eB opEq (eV 2) (eC (.int 1)))) (sRet (eV 1)) sSkip)
    (sSeq (sIf (tBl (eB opEq (eV 2) (eC (.int 2)))) (sRet (eN opMax [(eC (.int 0)), (eB opSub (eV 1) (eCall m__law_take [(eV 0), (eC (.int 3))]))])) sSkip)
    (sSeq (sIf (tBl (eB opEq (eV 2) (eC (.int 3)))) (sRet (eN opMin [(eV 1), (eCall m__law_take [(eV 0), (eC (.int 8))])])) sSkip)
    (sRet (eCall m__law_wide [(eV 0), (eB opAdd (eV 1) (eC (.int 1)))])))))))
noncomputable def m__law_edge : Fm := fnM 3 b__law_edge
/-- a pool stands at n -/
def Pl (h : Hh) (n : Nat) : Prop := ∃ p : List Int, p ≠ [] ∧ p.length ≤ 2000 ∧ h[n]? = some (.lst (p.map D.int))
theorem take_spec {h : Hh} {n : Nat} {m : Int} {p : List Int} (hp : p ≠ []) (hl : p.length ≤ 2000) (e : h[n]? = some (.lst (p.map D.int))) (hm : 0 < m) :
    ∃ (r : Int) (q : List Int), q ≠ [] ∧ q.length ≤ 2000 ∧ 0 ≤ r ∧ r < m ∧ m__law_take [.ref n, .int m] h = .ok (.int r) (h.set n (.lst (q.map D.int))) := by
  obtain ⟨hn, e'⟩ := List.getElem?_eq_some_iff.mp e
  by_cases hlen : 1 < p.length
  · have hlen' : (1 : Int) < (p.length : Int) := by omega
    obtain ⟨y, hy⟩ : ∃ y, p[p.length - 1]? = some y := ⟨p[p.length - 1], by simp⟩
    refine ⟨y % m, p.dropLast, ?_, ?_, Int.emod_nonneg _ (by omega), Int.emod_lt_of_pos _ hm, ?_⟩
    · intro z
      have := congrArg List.length z
      simp at this
      omega
    · simp; omega
    · simp [m__law_take, b__law_take, e, hlen', hy, hm]
  · cases p with
    | nil => exact absurd rfl hp
    | cons x p =>
      have hp0 : p = [] := by
        cases p with
        | nil => rfl
        | cons _ _ => simp at hlen
      subst hp0
      refine ⟨(((x * 48271 + 11) % 2147483647) * 742938285 % 2147483399 / 64) % m, [(x * 48271 + 11) % 2147483647], by simp, by simp, Int.emod_nonneg _ (by omega), Int.emod_lt_of_pos _ hm, ?_⟩
      have hs : ∀ o : O, (h.set n o)[n]? = some o := fun o => List.getElem?_set_self hn
      simp [m__law_take, b__law_take, e, hm, mulOk_r, ixN, atI, hs]

theorem big_line {n : Nat} (h : n ≤ 3000) : n < sizeLine := by rw [sizeLine_eq]; omega
theorem inner_spec (h : Hh) (cells : O) (e0 e2 e3 : Option D) (num : Int) (e5 : Option D) (xs : List D) (p : List Int) (hl : p.length + xs.length ≤ 2900) :
    ∃ (q : List Int) (num' : Int) (e5' : Option D), q.length ≤ p.length + xs.length ∧ forL (gtName 5) b__law_pool_2 none xs [e0, some (.ref h.length), e2, e3, some (.int num), e5] (h ++ [.lst (p.map D.int), cells]) =
      .nx [e0, some (.ref h.length), e2, e3, some (.int num'), e5'] (h ++ [.lst (q.map D.int), cells]) := by
  obtain ⟨e', h', eq, q, num', e5', hq, rfl, rfl⟩ := forL_inv (g := gtName 5) (body := b__law_pool_2) (gd := none)
    (fun rest env h' => ∃ (q : List Int) (num' : Int) (e5' : Option D), q.length + rest.length ≤ p.length + xs.length ∧ env = [e0, some (.ref h.length), e2, e3, some (.int num'), e5'] ∧ h' = h ++ [.lst (q.map D.int), cells])
    xs _ _ ⟨p, num, e5, Nat.le_refl _, rfl, rfl⟩ (fun _ _ _ _ => trivial) (fun x rest env h' => by
      rintro ⟨q, num', e5', hq, rfl, rfl⟩
      rw [List.length_cons] at hq
      have hq' : q.length < sizeLine := big_line (by omega)
      refine ⟨_, rfl, ?_⟩
      by_cases hn : 0 < num'
      · exact ⟨[e0, some (.ref h.length), e2, e3, some (.int (num' / 1000)), some x], h ++ [.lst ((q ++ [num' % 1000]).map D.int), cells], by simp [b__law_pool_2, hn, hq'], q ++ [num' % 1000], num' / 1000, some x, by simp; omega, rfl, rfl⟩
      · exact ⟨[e0, some (.ref h.length), e2, e3, some (.int num'), some x], h ++ [.lst (q.map D.int), cells], by simp [b__law_pool_2, hn], q, num', some x, by omega, rfl, rfl⟩)
  exact ⟨q, num', e5', by simpa using hq, eq⟩
theorem rngD_len (lo : Int) (n : Nat) : (rngD lo n).length = n := by unfold rngD; simp
theorem pool_turn (h : Hh) (cells : O) (e0 : Option D) (seed y : Int) (e4 e5 : Option D) (q : List Int) (hq : q.length ≤ 1400) :
    ∃ (q2 : List Int) (seed' : Int) (e4' e5' : Option D), q2.length ≤ q.length + 21 ∧ b__law_pool_1 [e0, some (.ref h.length), some (.int seed), some (.int y), e4, e5] (h ++ [.lst (q.map D.int), cells]) =
      .nx [e0, some (.ref h.length), some (.int seed'), some (.int y), e4', e5'] (h ++ [.lst (q2.map D.int), cells]) := by
  have hq' : q.length < sizeLine := big_line (by omega)
  have h60 : (10 : Int) ^ 60 = 1000000000000000000000000000000000000000000000000000000000000 := by decide
  have h18 : (10 : Int) ^ 18 = 1000000000000000000 := by decide
  have hb : ∀ (b : Bool), (if b = true then (1 : Int) else 0) = (if b = true then (1 : Int) else 0) := fun _ => rfl
  generalize hN : (2 * (if y < 0 then -y else y) + (if decide (y < 0) = true then 1 else 0)) % (1000000000000000000000000000000000000000000000000000000000000 : Int) = N
  by_cases hn : N < 1000000000000000000
  · obtain ⟨q2, n2, e2, hl, eq⟩ := inner_spec h cells e0 (some (.int ((seed * 48271 + N + 11) % 2147483647))) (some (.int y)) 0 e5 (rngD 0 20) (q ++ [(seed * 48271 + N + 11) % 2147483647 * 742938285 % 2147483399 / 64]) (by rw [rngD_len]; simp; omega)
    rw [rngD_len, List.length_append] at hl
    refine ⟨q2, (seed * 48271 + N + 11) % 2147483647, some (.int n2), e2, by simp at hl; omega, ?_⟩
    rw [List.map_append, List.map_cons, List.map_nil] at eq
    rw [← eq]
    simp [b__law_pool_1, mulOk_r, mulOk_l, h60, h18, Sm.inR] at hN ⊢
    simp [hN, hn, hq', mulOk_r, mulOk_l, Sm.inR]
  · obtain ⟨q2, n2, e2, hl, eq⟩ := inner_spec h cells e0 (some (.int ((seed * 48271 + N + 11) % 2147483647))) (some (.int y)) N e5 (rngD 0 20) q (by rw [rngD_len]; omega)
    rw [rngD_len] at hl
    refine ⟨q2, (seed * 48271 + N + 11) % 2147483647, some (.int n2), e2, by omega, ?_⟩
    rw [← eq]
    simp [b__law_pool_1, mulOk_r, mulOk_l, h60, h18, Sm.inR] at hN ⊢
    simp [hN, hn, mulOk_r, mulOk_l, Sm.inR]
theorem pool_spec (ns : List Int) (hl : ns.length ≤ 63) (h : Hh) : ∃ (p : List Int) (a b c d : O), p ≠ [] ∧ p.length ≤ 2000 ∧
    m__law_pool [.fls (ns.map D.int)] h = .ok (.ref (h.length + 4)) (h ++ [a, b, c, d, .lst (p.map D.int)]) := by
  obtain ⟨e', h', eq, seed, q, e3, e4, e5, ⟨⟨r, hr⟩, hq⟩, rfl, rfl⟩ := forL_inv (g := gtName 3) (body := b__law_pool_1) (gd := some (h.length + 1, .lst (ns.map D.int)))
    (fun rest env h' => ∃ (seed : Int) (q : List Int) (e3 e4 e5 : Option D), ((∃ r : List Int, rest = r.map D.int) ∧ q.length + 21 * rest.length ≤ 1323) ∧ env = [some (.fls (ns.map D.int)), some (.ref h.length), some (.int seed), e3, e4, e5] ∧ h' = h ++ [.lst (q.map D.int), .lst (ns.map D.int)])
    (ns.map D.int) [some (.fls (ns.map D.int)), some (.ref h.length), some (.int 7), none, none, none] (h ++ [.lst [], .lst (ns.map D.int)]) ⟨7, [], none, none, none, ⟨⟨ns, rfl⟩, by simp; omega⟩, rfl, rfl⟩
    (fun rest env h' ⟨_, _, _, _, _, _, _, z⟩ => by subst z; simp) (fun x rest env h' => by
      rintro ⟨seed, q, e3, e4, e5, ⟨⟨r, hr⟩, hq⟩, rfl, rfl⟩
      cases r with
      | nil => cases hr
      | cons y r =>
        obtain ⟨rfl, rfl⟩ := List.cons.inj hr
        rw [List.length_cons] at hq
        obtain ⟨q2, seed', e4', e5', l2, eq⟩ := pool_turn h (.lst (ns.map D.int)) (some (.fls (ns.map D.int))) seed y e4 e5 q (by omega)
        exact ⟨_, rfl, _, _, eq, seed', q2, some (.int y), e4', e5', ⟨⟨r, rfl⟩, by omega⟩, rfl, rfl⟩)
  have hc : cutD (ns.map D.int) none (some 63) = ns.map D.int := by
    have := cut_to (xs := ns.map D.int) (n := 63)
    rw [List.take_of_length_le (by simpa using hl)] at this
    exact this
  have hz : 1 + q.length ≤ sizeLine := by rw [sizeLine_eq]; simp at hq; omega
  refine ⟨seed :: q.reverse, .lst (q.map D.int), .lst (ns.map D.int), .lst [.int seed], .lst (q.reverse.map D.int), by simp, by simp at hq ⊢; omega, ?_⟩
  simp [m__law_pool, b__law_pool, hc, eq, hz]
/-! ### draws: the pool at n -/
theorem set_at {h : Hh} {n : Nat} {o u : O} (e : h[n]? = some u) : (h.set n o)[n]? = some o := List.getElem?_set_self (List.getElem?_eq_some_iff.mp e).1
theorem wide_spec {h : Hh} {n : Nat} {m : Int} {p : List Int} (hp : p ≠ []) (hl : p.length ≤ 2000) (e : h[n]? = some (.lst (p.map D.int))) (hm : 0 < m) :
    ∃ (r : Int) (q : List Int), q ≠ [] ∧ q.length ≤ 2000 ∧ 0 ≤ r ∧ r < m ∧ m__law_wide [.ref n, .int m] h = .ok (.int r) (h.set n (.lst (q.map D.int))) := by
  obtain ⟨r1, q1, a1, b1, _, _, e1⟩ := take_spec (m := 1000) hp hl e (by decide)
  obtain ⟨r2, q2, a2, b2, _, _, e2⟩ := take_spec (h := h.set n (.lst (q1.map D.int))) (m := 1000) a1 b1 (set_at e) (by decide)
  refine ⟨(r1 * 1000 + r2) % m, q2, a2, b2, Int.emod_nonneg _ (by omega), Int.emod_lt_of_pos _ hm, ?_⟩
  simp [m__law_wide, b__law_wide, e1, e2, mulOk_r, hm]
theorem edge_spec {h : Hh} {n : Nat} {m : Int} {p : List Int} (hp : p ≠ []) (hl : p.length ≤ 2000) (e : h[n]? = some (.lst (p.map D.int))) (hm : 0 ≤ m) :
    ∃ (r : Int) (q : List Int), q ≠ [] ∧ q.length ≤ 2000 ∧ 0 ≤ r ∧ r ≤ m ∧ m__law_edge [.ref n, .int m] h = .ok (.int r) (h.set n (.lst (q.map D.int))) := by
  obtain ⟨k, q1, a1, b1, k1, k2, e1⟩ := take_spec (m := 6) hp hl e (by decide)
  have e' := set_at (o := .lst (q1.map D.int)) e
  by_cases h0 : k = 0
  · subst h0
    exact ⟨0, q1, a1, b1, by omega, by omega, by simp [m__law_edge, b__law_edge, e1]⟩
  by_cases h1 : k = 1
  · subst h1
    exact ⟨m, q1, a1, b1, by omega, by omega, by simp [m__law_edge, b__law_edge, e1]⟩
  by_cases h2 : k = 2
  · subst h2
    obtain ⟨r2, q2, a2, b2, _, _, e2⟩ := take_spec (m := 3) a1 b1 e' (by decide)
    exact ⟨if m - r2 > 0 then m - r2 else 0, q2, a2, b2, by split <;> omega, by split <;> omega, by simp [m__law_edge, b__law_edge, e1, e2]⟩
  by_cases h3 : k = 3
  · subst h3
    obtain ⟨r2, q2, a2, b2, _, _, e2⟩ := take_spec (m := 8) a1 b1 e' (by decide)
    exact ⟨if r2 < m then r2 else m, q2, a2, b2, by split <;> omega, by split <;> omega, by simp [m__law_edge, b__law_edge, e1, e2]⟩
  obtain ⟨r2, q2, a2, b2, _, _, e2⟩ := wide_spec (m := m + 1) a1 b1 e' (by omega)
  exact ⟨r2, q2, a2, b2, by omega, by omega, by simp [m__law_edge, b__law_edge, e1, e2, h0, h1, h2, h3]⟩
theorem wide_spec' {h : Hh} {n : Nat} {m : Int} {u : O} {p : List Int} (e : h[n]? = some u) (hp : p ≠ []) (hl : p.length ≤ 2000) (hm : 0 < m) :
    ∃ (r : Int) (q : List Int), q ≠ [] ∧ q.length ≤ 2000 ∧ 0 ≤ r ∧ r < m ∧ m__law_wide [.ref n, .int m] (h.set n (.lst (p.map D.int))) = .ok (.int r) (h.set n (.lst (q.map D.int))) := by
  obtain ⟨r, q, a, b, c, d, f⟩ := wide_spec hp hl (set_at e) hm
  exact ⟨r, q, a, b, c, d, by rw [f, List.set_set]⟩
theorem take_spec' {h : Hh} {n : Nat} {m : Int} {u : O} {p : List Int} (e : h[n]? = some u) (hp : p ≠ []) (hl : p.length ≤ 2000) (hm : 0 < m) :
    ∃ (r : Int) (q : List Int), q ≠ [] ∧ q.length ≤ 2000 ∧ 0 ≤ r ∧ r < m ∧ m__law_take [.ref n, .int m] (h.set n (.lst (p.map D.int))) = .ok (.int r) (h.set n (.lst (q.map D.int))) := by
  obtain ⟨r, q, a, b, c, d, f⟩ := take_spec hp hl (set_at e) hm
  exact ⟨r, q, a, b, c, d, by rw [f, List.set_set]⟩
theorem edge_spec' {h : Hh} {n : Nat} {m : Int} {u : O} {p : List Int} (e : h[n]? = some u) (hp : p ≠ []) (hl : p.length ≤ 2000) (hm : 0 ≤ m) :
    ∃ (r : Int) (q : List Int), q ≠ [] ∧ q.length ≤ 2000 ∧ 0 ≤ r ∧ r ≤ m ∧ m__law_edge [.ref n, .int m] (h.set n (.lst (p.map D.int))) = .ok (.int r) (h.set n (.lst (q.map D.int))) := by
  obtain ⟨r, q, a, b, c, d, f⟩ := edge_spec hp hl (set_at e) hm
  exact ⟨r, q, a, b, c, d, by rw [f, List.set_set]⟩
theorem get_app {h g : Hh} {n : Nat} {o : O} (e : h[n]? = some o) : (h ++ g)[n]? = some o := by
  rw [List.getElem?_append_left (List.getElem?_eq_some_iff.mp e).1]
  exact e
theorem set_app {h g : Hh} {n : Nat} {o u : O} (e : h[n]? = some o) : (h ++ g).set n u = h.set n u ++ g := List.set_append_left _ _ (List.getElem?_eq_some_iff.mp e).1

/-- what stood still stands, but the pool at p -/
def Xt (p : Nat) (h h' : Hh) : Prop := ∀ n o, n ≠ p → h[n]? = some o → h'[n]? = some o
theorem Xt.refl {p : Nat} {h : Hh} : Xt p h h := fun _ _ _ e => e
theorem Xt.trans {p : Nat} {h h1 h2 : Hh} (a : Xt p h h1) (b : Xt p h1 h2) : Xt p h h2 := fun n o q e => b n o q (a n o q e)
theorem Xt.app {p : Nat} {h g : Hh} : Xt p h (h ++ g) := fun _ _ _ e => get_app e
theorem Xt.set {p : Nat} {h : Hh} {o : O} : Xt p h (h.set p o) := fun n u q e => by rw [List.getElem?_set_ne (fun z => q z.symm)]; exact e
theorem Pl.app {h g : Hh} {p : Nat} (a : Pl h p) : Pl (h ++ g) p := by
  obtain ⟨q, x, y, z⟩ := a
  exact ⟨q, x, y, get_app z⟩
theorem Pl.lt {h : Hh} {p : Nat} (a : Pl h p) : p < h.length := by
  obtain ⟨q, x, y, z⟩ := a
  exact (List.getElem?_eq_some_iff.mp z).1
theorem take_x {h : Hh} {p : Nat} {m : Int} (a : Pl h p) (hm : 0 < m) : ∃ r h', 0 ≤ r ∧ r < m ∧ Pl h' p ∧ Xt p h h' ∧ h'.length = h.length ∧ m__law_take [.ref p, .int m] h = .ok (.int r) h' := by
  obtain ⟨q, x, y, z⟩ := a
  obtain ⟨r, q', x', y', c, d, e⟩ := take_spec x y z hm
  exact ⟨r, _, c, d, ⟨q', x', y', set_at z⟩, Xt.set, by simp, e⟩
theorem wide_x {h : Hh} {p : Nat} {m : Int} (a : Pl h p) (hm : 0 < m) : ∃ r h', 0 ≤ r ∧ r < m ∧ Pl h' p ∧ Xt p h h' ∧ h'.length = h.length ∧ m__law_wide [.ref p, .int m] h = .ok (.int r) h' := by
  obtain ⟨q, x, y, z⟩ := a
  obtain ⟨r, q', x', y', c, d, e⟩ := wide_spec x y z hm
  exact ⟨r, _, c, d, ⟨q', x', y', set_at z⟩, Xt.set, by simp, e⟩
theorem edge_x {h : Hh} {p : Nat} {m : Int} (a : Pl h p) (hm : 0 ≤ m) : ∃ r h', 0 ≤ r ∧ r ≤ m ∧ Pl h' p ∧ Xt p h h' ∧ h'.length = h.length ∧ m__law_edge [.ref p, .int m] h = .ok (.int r) h' := by
  obtain ⟨q, x, y, z⟩ := a
  obtain ⟨r, q', x', y', c, d, e⟩ := edge_spec x y z hm
  exact ⟨r, _, c, d, ⟨q', x', y', set_at z⟩, Xt.set, by simp, e⟩
theorem pool_x (ns : List Int) (hl : ns.length ≤ 63) : ∃ p h, Pl h p ∧ m__law_pool [.fls (ns.map D.int)] [] = .ok (.ref p) h := by
  obtain ⟨p, a, b, c, d, x, y, e⟩ := pool_spec ns hl []
  exact ⟨_, _, ⟨p, x, y, rfl⟩, e⟩
/-- all that stood stands -/
def Kp (h h' : Hh) : Prop := ∀ (n : Nat) (o : O), h[n]? = some o → h'[n]? = some o
theorem Kp.refl {h : Hh} : Kp h h := fun _ _ e => e
theorem Kp.trans {h h1 h2 : Hh} (a : Kp h h1) (b : Kp h1 h2) : Kp h h2 := fun n o e => b n o (a n o e)
theorem Kp.app {h g : Hh} : Kp h (h ++ g) := fun _ _ e => get_app e
theorem Kp.xt {h h' : Hh} {p : Nat} (a : Kp h h') : Xt p h h' := fun n o _ e => a n o e
theorem Kp.pl {h h' : Hh} {p : Nat} (a : Kp h h') (b : Pl h p) : Pl h' p := by
  obtain ⟨q, x, y, z⟩ := b
  exact ⟨q, x, y, a _ _ z⟩
theorem Kp.of_xt {h h' g : Hh} (a : Xt h.length (h ++ g) h') : Kp h h' := fun n o e => a n o (by have := (List.getElem?_eq_some_iff.mp e).1; omega) (get_app e)
theorem Pl.set_ne {H : Hh} {p j : Nat} {o : O} (P : Pl H p) (q : p ≠ j) : Pl (H.set j o) p := by
  obtain ⟨l, a, b, c⟩ := P
  exact ⟨l, a, b, by rw [List.getElem?_set_ne (fun z => q z.symm)]; exact c⟩
theorem Xt.set_new {p : Nat} {h H : Hh} {j : Nat} {o : O} (x : Xt p h H) (q : h.length ≤ j) : Xt p h (H.set j o) := fun n u hn e => by
  have := (List.getElem?_eq_some_iff.mp e).1
  rw [List.getElem?_set_ne (by omega)]
  exact x n u hn e
end SmPool
/-! SmX: own exceptions whose __init__ calls the built-in one through super() -/
namespace Sm
open PySem L2 PyProof.Rows
theorem bt_super : bootBuiltins "super" = some (.type "super") := by decide +kernel
section
variable {X : Cx} {pins : List (Addr × Obj)} {σ : L2.St} {H : Hp} {s : Shared} {E : Value → Shared → Prop}
/-- what K says of such a def and its class -/
structure SupK (X : Cx) (f cc cda D : Addr) (sn : Str) : Prop where
  hks : X.env.kindOf "super" = some .globalImplicit
  hkc : X.env.kindOf "__class__" = some .free
  hka : X.env.kindOf sn = some .local
  hfu : X.env.func = some f
  hco : X.env.code = .ref cda
  hcl : X.env.cells.lookup ("__class__" : Str) = some cc
  fd : ∃ o fd ar, X.K.lookup f = some o ∧ o.data = .func fd ∧ (fd.params.posonlyargs ++ fd.params.args).head? = some ar ∧ ar.arg = sn
  code : ∃ o vs file tf, X.K.lookup cda = some o ∧ o.data = .fields vs ∧ vs[2]? = some (.str file tf) ∧ ((X.prog.main.file : Str) == file) = true
  htop : (X.prog.main.scope.names.lookup ("super" : Str)).isSome = false
  cell : ∃ cl cld csl, X.K.lookup cc = some ⟨cl, cld, .cell (some (.ref D)), csl⟩
  cls : ∃ cdD, PySem.W.clsIn X.K D = some cdD
  mgs : X.mg "super" = none
  thi : PySem.W.nsIn X.K PySem.cStatics "thirdparty.any" = some none
/-- what K says of the class of the error that is made -/
structure SupC (K : PySem.W.Frag) (C D : Addr) : Prop where
  oex : OexC K C
  sub : PySem.W.mroIn K C (.ref D) = some true
  sup : PySem.W.ks_superIn K C D "__init__" = some (some (.builtin "ValueError.__init__"))
  val : PySem.W.subIn K (.ref C) (.type "ValueError") = some true
open PySem.W in
theorem wp_super_init {f cc cda D a C : Addr} {sn : Str} {body : List Stmt} {p0 p1 p2 p3 pos spos : Pos} {m : Str} {j : Nat} {pl : Sem Bool} (S : SupK X f cc cda D sn) (T : SupC X.K C D) (I : Inv X pins σ H s) (hN : X.N[0]? = some sn) (hσ : σ[0]? = some (some (.ref a))) (ha : H a = some (exo a C none)) {Q : Flow → Shared → Prop}
    (hq : ∀ s', Inv X pins σ H s' → Q .next s')
    (he : eval (.Call (.Attribute (.Call (.Name "super" p0) [] [] p1) "__init__" p2) [.Constant (.str m) j p3] [] pos) X.env = (do
      let ov ← attributeBase (.Call (.Name "super" p0) [] [] p1) "__init__" X.env (eval (.Call (.Name "super" p0) [] [] p1) X.env)
      standAt p2.atName
      let (f, first) ← holding [ov] (getMethod ov "__init__" pl)
      callWith pos f first (backTo pos (starEach [.Constant (.str m) j p3] X.env)) []))
    (hs : starEach [.Constant (.str m) j p3] X.env = (false, eval (.Constant (.str m) j p3) X.env) :: starEach [] X.env := by rfl) :
    _root_.PySem.wpAt (model X.prog X.w) X.A (.func body X.env) (exec (.Expr (.Call (.Attribute (.Call (.Name "super" p0) [] [] p1) "__init__" p2) [.Constant (.str m) j p3] [] pos) spos) X.env) Q X.xe s := by
  obtain ⟨oF, fd, ar, hf, hfd, hp, rfl⟩ := S.fd
  obtain ⟨oc, vs, file, tf, hcode, hoc, hvs, hfile⟩ := S.code
  obtain ⟨cl, cld, csl, hcell⟩ := S.cell
  obtain ⟨cdD, hD⟩ := S.cls
  have KX := I.kIn
  obtain ⟨t1, ho⟩ := exo_at I.hok ha
  refine ks_wpAt_Expr_any (hi := I.quiet) (ks_wpAt_MethodCall (pl := pl) ?_ he)
  refine ks_wpAt_super_base S.hks S.hkc rfl S.hfu (KX _ _ hf) hfd hp S.hco (KX _ _ hcode) hoc hvs hfile S.htop ?_
  obtain ⟨mb, b1, b2⟩ := I.mod.blt
  refine ks_loadName_global I.ok.kind S.hks (Calls.loadGlobal_builtin (by rw [I.ok.glob]; exact I.mod.glob.keeps I.bk) S.mgs (by rw [I.ok.blt]; exact b1.keeps I.bk) ((b2 _ (by decide)).trans bt_super) ⟨rfl, ?_⟩)
  refine wpAny_loadName_free I.ok.kind S.hkc S.hcl ⟨_, KX _ _ hcell, rfl⟩ ?_
  obtain ⟨mm, hn, hl⟩ := I.loc
  obtain ⟨u, ru, lk⟩ := hl 0 ar.arg (.ref a) hN hσ (.inl S.hka)
  obtain rfl : u = Value.ref a := ru
  have hmm : mm ar.arg = some (.ref a) := by
    rcases lk with ⟨_, z⟩ | ⟨z, _⟩
    · exact z
    · rw [S.hka] at z
      rcases z with z | z <;> cases z
  refine wpAny_loadName_local I.ok.kind S.hka hn hmm ?_
  obtain ⟨oD, hD1, hD2⟩ : ∃ oD, s.heap.get? D = some oD ∧ oD.data = .cls cdD := by
    unfold clsIn at hD
    split at hD
    · rename_i c d cd' sl ho'
      cases hD
      exact ⟨_, KX _ _ ho', rfl⟩
    · cases hD
  obtain ⟨hh, g, d, t, os⟩ := s
  refine ks_wpAny_isType_cls hD1 hD2 ⟨rfl, ?_⟩
  refine ks_wpAny_call_super hD1 hD2 ho rfl (fun c e => by cases e) (looks_mroIn KX T.sub) (fun h' e k => ?_)
  have I2 : Inv X pins σ H ⟨h', g, d, t, os⟩ := I.kept k
  have KX2 := I2.kIn
  have ho2 := k _ _ ho
  have Ia : InstAt h' a { cls := .ref C, dict := none, data := .fields #[.ref t1, .none, .none, .none, .bool false, .none] } C none := ⟨ho2, rfl, rfl, trivial⟩
  have hI : Looks (model X.prog X.w) h' (isInstance (.ref a) (.type "ValueError")) true := Ia.type.andThen (looks_subIn KX2 T.val)
  have hsup := T.sup
  obtain ⟨cdC, hcC⟩ : ∃ cdC, clsIn X.K C = some cdC := by
    cases hc : clsIn X.K C with
    | none => unfold ks_superIn at hsup; rw [hc] at hsup; cases hsup
    | some cd => exact ⟨cd, rfl⟩
  unfold ks_superIn at hsup
  rw [hcC] at hsup
  refine kxs_getMethod kxs_ValueError e (looks_opaque KX2 S.thi) (l₀ := cdC.mro) (fun A Q E s k q => wpAny_bind ((looks_clsIn KX2 hcC) A _ E s k (wpAny_pure q))) rfl KX2 hsup hI (ks_ne KX2 Ia hcC) (by decide) ?_
  have k3 : ∀ b o, h'.get? b = some o → (h'.push (kxs_mw "ValueError.__init__" a)).get? b = some o := fun b o e => Heap.get?_push_of_some _ e
  have I3 : Inv X pins σ H ⟨h'.push (kxs_mw "ValueError.__init__" a), g, d, t + 1, os⟩ := I2.kept k3
  have hu : (h'.push (kxs_mw "ValueError.__init__" a)).get? h'.objs.size = some (kxs_mw "ValueError.__init__" a) := Heap.get?_push_at rfl rfl
  dsimp only
  rw [hs]
  refine kxs_callWith (i := "ValueError.__init__") (x := a) rfl (Calls.evalArgs_plain ?_)
  show wpAny _ _ (spliced ((false, eval (.Constant (.str m) j p3) X.env) :: backTo pos (starEach [] X.env))) _ _ _
  refine Calls.spliced_cons (Calls.Constant_str ?_)
  refine Calls.spliced_nil ⟨hu, ?_⟩
  obtain ⟨nm, q, N, bs, bm, sn', sub, ab, col, dd, k0, k1, k2, k3', k5, hC, hbm⟩ := T.oex.cls
  have he3 := k3 _ _ ho2
  have hC3 := I3.kIn _ _ hC
  have fin : ∀ h4, (∀ b o, b ≠ a → (h'.push (kxs_mw "ValueError.__init__" a)).get? b = some o → h4.get? b = some o) → (∃ t2 : Addr, h4.get? a = some ({ cls := .ref C, dict := none, data := .fields #[.ref t2, .none, .none, .none, .bool false, .none] } : Obj)) → ∀ t4, Q .next ⟨h4, g, d, t4, os⟩ := fun h4 k4 ⟨t2, hx⟩ t4 => by
    have J := I3.write (t' := t4) (x := a) (e := a) (o := exo a C none) (by rw [ha]; exact True.intro) (.inl rfl) k4 ⟨_, hx⟩ (exo_ok hx)
    have eu : upd H a (exo a C none) = H := by
      funext b
      by_cases hb : b = a
      · rw [hb, upd_same, ha]
      · rw [upd_ne hb]
    rw [eu] at J
    exact hq _ J
  refine wpAny_call (codeAny_of_tree ?_)
  show wpAny _ X.A.in1 (callAny (.ref h'.objs.size) ⟨[.str m _], []⟩) _ _ _
  simp only [callAny]
  refine wpAny_bind (wpAny_load hu ?_)
  simp only [kxs_mw, show (Value.type "method-wrapper" == Value.type "method" || Value.type "method-wrapper" == Value.type "builtin_function_or_method" || Value.type "method-wrapper" == Value.type "method-wrapper") = true by decide, if_true]
  refine KFB.if_so (by decide) ?_
  refine wpAny_bind (check_bound_init F.excBase_ValueError.toExcCallFacts hC3 he3 rfl ?_)
  refine wpAny_bind (wpAny_pure (wpAny_pure ?_))
  refine ⟨plainId_quiet F.excBase_ValueError.init.plain _, codeAny_builtin F.excBase_ValueError.initEntry ?_⟩
  exact exc_init_tree (cls := .ref C) (t0 := t1) (dv := none) (c2 := .none) (c3 := .none) (b4 := .bool false) he3 (by rw [sizeLine_eq, List.length_singleton]; omega) (fun h4 k4 hx _ => fin h4 k4 ⟨_, hx⟩ _)
end
section
open NdefX
variable {CX : CXT} {P : Program} {w : World} {K : PySem.W.Frag} {mg : Str → Option Value} {base : Heap} {k : Nat} {N ps : List Str} {F : NF} {f cc D : Addr} {dV kV doc pm ct : Value} {an : Option Addr} {sp : Sp} {p0 p1 p2 p3 pos spos : Pos} {m sn : Str} {j : Nat} {rest : List Stmt}
abbrev fdx (F : NF) (dV kV doc pm : Value) (an : Option Addr) (ct : Value) : FuncData := PySem.W.fnX F.name F.qual F.params F.body F.scope F.cl dV kV doc pm an (.ref F.c) ct
theorem fn_init {pl : Sem Bool} {oc : Value} {od : Option Addr} {osl : Array (Option Value)} (lk : K.lookup f = some ⟨oc, od, .func (fdx F dV kV doc pm an ct), osl⟩) (hcd : PySem.W.codeIn K (.ref F.c) F.qual = true) (S : NScope N ps ["__class__"] F.scope)
    (hcl : F.cl = [(("__class__" : Str), cc)]) (hbd : F.body = .Expr (.Call (.Attribute (.Call (.Name "super" p0) [] [] p1) "__init__" p2) [.Constant (.str m) j p3] [] pos) spos :: rest)
    (hpar : ∃ ar, (F.params.posonlyargs ++ F.params.args).head? = some ar ∧ ar.arg = sn) (hsn : ps[0]? = some sn) (hks : F.scope.names.lookup ("super" : Str) = some .globalImplicit)
    (code : ∃ o vs file tf, K.lookup F.c = some o ∧ o.data = .fields vs ∧ vs[2]? = some (.str file tf) ∧ ((P.main.file : Str) == file) = true) (htop : (P.main.scope.names.lookup ("super" : Str)).isSome = false)
    (hcell : ∃ cl cld csl, K.lookup cc = some ⟨cl, cld, .cell (some (.ref D)), csl⟩) (hcls : ∃ cdD, PySem.W.clsIn K D = some cdD) (mgs : mg "super" = none) (thi : PySem.W.nsIn K PySem.cStatics "thirdparty.any" = some none)
    (he : ∀ L, eval (.Call (.Attribute (.Call (.Name "super" p0) [] [] p1) "__init__" p2) [.Constant (.str m) j p3] [] pos) (envF F f L) = (do
      let ov ← attributeBase (.Call (.Name "super" p0) [] [] p1) "__init__" (envF F f L) (eval (.Call (.Name "super" p0) [] [] p1) (envF F f L))
      standAt p2.atName
      let (fm, first) ← holding [ov] (getMethod ov "__init__" pl)
      callWith pos fm first (backTo pos (starEach [.Constant (.str m) j p3] (envF F f L))) []))
    (len : ∀ vs H Q E, sp vs H Q E → vs.length = ps.length)
    (hbody : ∀ (A : Around) (outer : List Env) (s : Shared) (H : Hp) (vs : List V) (Q : VK) (E : XK), Room k (A.deeper (envF F f s.heap.objs.size)) → sp vs H Q E →
      (∃ a C, vs[0]? = some (.ref a) ∧ SupC K C D ∧ H a = some (exo a C none)) ∧ ∃ t, PSs (ncx CX P w K mg base N F f A outer s H E) rest t ∧ t { nx := fun _ H' => Q .non H', rt := Q } (startF N vs [some (.ref D)]) H) :
    FnOk P w K mg base CX (k + 1) f (fdx F dV kV doc pm an ct) ps sp := by
  refine ⟨len, fun A outer s H args us vs Q E hr e0 hb r hsp => ?_⟩
  have KX : K.In s.heap := e0.mod.kin.keeps fun b o e => (e0.bs b o e).1
  have hl := len _ _ _ _ hsp
  have lim : s.heap.NoLimit := e0.mod.nolimit.keeps fun b o e => (e0.bs b o e).1
  obtain ⟨⟨a, C, hva, T, ha⟩, t, ht, hq⟩ := hbody A outer s H vs Q E (hr.deeper _) hsp
  obtain ⟨cl, cld, csl, hc⟩ := hcell
  have Cs : CellsAt F.cl ["__class__"] [some (.ref D)] s.heap H := by
    rw [hcl]
    have one : ∀ y c, List.lookup y [(("__class__" : Str), cc)] = some c → y = "__class__" ∧ c = cc := fun y c e => by
      simp only [List.lookup] at e
      split at e
      · rename_i q
        cases e
        exact ⟨by simpa using q, rfl⟩
      · cases e
    refine ⟨rfl, fun y c e => ?_, fun x y c e1 e2 => by rw [(one _ _ e1).1, (one _ _ e2).1], fun i y e => ?_⟩
    · obtain ⟨rfl, rfl⟩ := one _ _ e
      exact ⟨(e0.bs _ _ (e0.mod.kin _ _ hc)).2, _, _, KX _ _ hc, rfl⟩
    · cases i with
      | zero =>
        cases e
        refine ⟨cc, by simp [List.lookup], fun v e => ?_⟩
        cases e
        exact ⟨.ref D, rfl, _, KX _ _ hc, rfl⟩
      | succ i => simp at e
  refine PySem.ks_codeAny_call_defAt (binds := ps.zip us) hr.depth (KX _ _ lk) rfl lim (PySem.W.codeRec_of KX hcd) rfl hb S.nocell (fun ⟨n, _⟩ hy => S.par n (List.of_mem_zip hy).1) (fun h₁ hns kp => ?_) S.co S.gen S.kind
  have I : Inv (ncx CX P w K mg base N F f A outer s H E) [] (startF N vs [some (.ref D)]) H { s with heap := h₁, toks := s.toks + (ps.zip us).length } := inv_startN S hr.hd e0 hl r Cs hns kp
  obtain ⟨ar, hp1, hp2⟩ := hpar
  have SK : SupK (ncx CX P w K mg base N F f A outer s H E) f cc F.c D sn := by
    refine ⟨hks, S.frk _ (by simp), S.par sn (List.mem_of_getElem? hsn), rfl, rfl, ?_, ⟨_, _, ar, lk, rfl, hp1, hp2⟩, code, htop, ⟨cl, cld, csl, hc⟩, hcls, mgs, thi⟩
    show F.cl.lookup ("__class__" : Str) = some cc
    rw [hcl]
    simp [List.lookup]
  have hN : N[0]? = some sn := by
    have h1 := S.pre
    have h2 : (N.take (ps.length + 1))[0]? = (ps ++ [("__class__" : Str)])[0]? := by rw [← h1]; rfl
    rw [List.getElem?_take_of_lt (by omega)] at h2
    rw [h2, List.getElem?_append_left (List.getElem?_eq_some_iff.mp hsn).1]
    exact hsn
  have hσ : (startF N vs [some (V.ref D)])[0]? = some (some (.ref a)) := by
    unfold startF
    rw [List.getElem?_append_left (by simpa using (List.getElem?_eq_some_iff.mp hva).1), List.getElem?_map, hva]
    rfl
  have fin : ∀ {σ' : L2.St} {H' : Hp} {v : V} {u : Value} {s' : Shared}, Inv (ncx CX P w K mg base N F f A outer s H E) [] σ' H' s' → L2.RelV v u → Q v H' → CE outer P w H s Q u s' :=
    fun {σ' H' v u s'} J rv q => ⟨v, H', J.os, J.bare, J.base, J.hok, rv, q⟩
  show _root_.PySem.wpAt (model P w) (A.deeper (envF F f s.heap.objs.size)) (.func F.body (envF F f s.heap.objs.size)) (execs F.body (envF F f s.heap.objs.size)) _ _ _
  rw [hbd]
  refine PySem.ks_wpAt_execs_cons ?_
  refine wp_super_init (X := ncx CX P w K mg base N F f A outer s H E) SK T I hN hσ ha (fun s' J => ?_) (he _)
  dsimp only
  refine wpAt_of_wpAny ?_
  refine wpAny_mono (ht.run [] s' (startF N vs [some (.ref D)]) H _ J hq) (fun fl s'' hs => ?_) fun e s'' hs => hs
  cases fl with
  | ret u =>
    obtain ⟨v, σ', H', J, rv, q⟩ := hs
    exact fin J rv q
  | next =>
    obtain ⟨σ', H', J, q⟩ := hs
    exact fin (v := V.non) (u := Value.none) J rfl q
  | brk =>
    obtain ⟨_, _, _, q⟩ := hs
    exact False.elim q
  | cont =>
    obtain ⟨_, _, _, q⟩ := hs
    exact False.elim q
end
end Sm
/-! SmX2: raise C(..) of an own class whose __init__ says super().__init__('..'), self.f = f -/
namespace Sm
open PySem L2 PyProof.Rows
/-- what the __init__ of an error of the class at C with these fields does -/
def spI (C : Addr) (fs : List Str) : Sp := fun vs H Q _ => ∃ (a : Addr) (ys : List V), vs = .ref a :: ys ∧ ys.length = fs.length ∧ H a = some (exo a C none) ∧
  ∀ (H2 : Hp) (d : Addr), H2 a = some (exo a C (some d)) → H2 d = some (exd d (fs.zip ys).reverse) → H d = none → d ≠ a → (∀ b, b ≠ a → b ≠ d → H2 b = H b) → Q .non H2
/-- the readings of the stores, one after another -/
def tFs (K : PySem.W.Frag) : List (Str × Nat) → TS
  | [] => tNext
  | (f, i) :: r => tSeq (tOst K f (tVar 0) (tVar i)) (tFs K r)
theorem fs_read {K : PySem.W.Frag} {C a d : Addr} {σ : L2.St} {D : Ends} (T : OexC K C) (hσ : σ[0]? = some (some (.ref a))) (hda : d ≠ a) : ∀ (fis : List (Str × Nat)) (ys : List V) (L : List (Str × V)) (H : Hp), H a = some (exo a C (some d)) → H d = some (exd d L) → L.length + fis.length ≤ 900 → ys.length = fis.length →
    (∀ p ∈ fis.zip ys, σ[p.1.2]? = some (some p.2)) → (∀ p ∈ fis, PySem.W.findIn K (.ref C) p.1 = some none) →
    (∀ H2, H2 a = some (exo a C (some d)) → H2 d = some (exd d (((fis.map (·.1)).zip ys).reverse ++ L)) → (∀ b, b ≠ a → b ≠ d → H2 b = H b) → D.nx σ H2) → tFs K fis D σ H
  | [], [], L, H, ha, hd, hl, _, _, _, k => k H ha (by simpa using hd) fun _ _ _ => rfl
  | (f, i) :: fis, y :: ys, L, H, ha, hd, hl, hy, hs, hf, k => by
    refine ⟨y, hs ((f, i), y) (by simp), .ref a, hσ, a, C, rfl, T, hf (f, i) (by simp), .inr ⟨d, L, ha, hd, by simp at hl; omega, ?_⟩⟩
    refine fs_read T hσ hda fis ys ((f, y) :: L) _ (by rw [upd_ne hda.symm]; exact ha) upd_same (by simp at hl ⊢; omega) (by simpa using hy) (fun p hp => hs p (by simp [hp])) (fun p hp => hf p (by simp [hp])) fun H2 h1 h2 h3 => ?_
    refine k H2 h1 (by rw [h2]; simp) fun b b1 b2 => ?_
    rw [h3 b b1 b2, upd_ne b2]
theorem fs_read0 {K : PySem.W.Frag} {C a : Addr} {σ : L2.St} {D : Ends} (T : OexC K C) (hσ : σ[0]? = some (some (.ref a))) (f : Str) (i : Nat) (y : V) (fis : List (Str × Nat)) (ys : List V) (H : Hp) (ha : H a = some (exo a C none)) (hl : fis.length ≤ 800) (hy : ys.length = fis.length)
    (hs : ∀ p ∈ ((f, i) :: fis).zip (y :: ys), σ[p.1.2]? = some (some p.2)) (hf : ∀ p ∈ (f, i) :: fis, PySem.W.findIn K (.ref C) p.1 = some none)
    (k : ∀ H2 d, H2 a = some (exo a C (some d)) → H2 d = some (exd d ((((f, i) :: fis).map (·.1)).zip (y :: ys)).reverse) → H d = none → d ≠ a → (∀ b, b ≠ a → b ≠ d → H2 b = H b) → D.nx σ H2) : tFs K ((f, i) :: fis) D σ H := by
  refine ⟨y, hs ((f, i), y) (by simp), .ref a, hσ, a, C, rfl, T, hf (f, i) (by simp), .inl ⟨ha, fun d hd hda => ?_⟩⟩
  refine fs_read T hσ hda fis ys [(f, y)] _ upd_same (by rw [upd_ne hda]; exact upd_same) (by simp; omega) hy (fun p hp => hs p (by simp [hp])) (fun p hp => hf p (by simp [hp])) fun H2 h1 h2 h3 => ?_
  refine k H2 d h1 (by rw [h2]; simp) hd hda fun b b1 b2 => ?_
  rw [h3 b b1 b2, upd_ne b1, upd_ne b2]
/-- an error class of the program, as those who raise it know it -/
def ErrOk (P : Program) (w : World) (K : PySem.W.Frag) (mg : Str → Option Value) (base : Heap) (G : Cl) (j : Nat) (x : Str) (c : Nat) : Prop :=
  ∃ (fI : Addr) (fd : FuncData) (ps : List Str), mg x = some (.ref (G.at_ c)) ∧ OexC K (G.at_ c) ∧ PySem.W.findIn K (.ref (G.at_ c)) "__init__" = some (some (.ref fI)) ∧ PySem.W.typeIn K (.ref fI) = some (.type "function") ∧
    FnOk P w K mg base (L2.CX P w) j fI fd ps (spI (G.at_ c) (G.nm c)) ∧ Binds K fd ps [] ∧ (G.nm c).Nodup ∧ (G.nm c).length ≤ 900
def sRaise (c : Nat) (ms : List M) : S := fun env h => bindS (evs ms env h) env fun ds h1 => .exc c ds env h1
theorem zip_sub : ∀ (fs : List Str) (ys : List V), ((fs.zip ys).map (·.1)).Sublist fs
  | [], _ => by simp
  | f :: fs, [] => by simp
  | f :: fs, y :: ys => by
    rw [List.zip_cons_cons, List.map_cons]
    exact List.Sublist.cons_cons f (zip_sub fs ys)
theorem lookup_zip : ∀ {fs : List Str} {ys : List V} {i : Nat} {f : Str} {y : V}, fs.Nodup → fs[i]? = some f → ys[i]? = some y → (fs.zip ys).reverse.lookup f = some y := by
  intro fs ys i f y nd h1 h2
  have key : ∀ (l : List (Str × V)), (l.map (·.1)).Nodup → (f, y) ∈ l → l.lookup f = some y := by
    intro l
    induction l with
    | nil => intro _ h; simp at h
    | cons p l ih =>
      intro nd h
      obtain ⟨g, z⟩ := p
      rw [lookup_put]
      rcases List.mem_cons.mp h with e | e
      · cases e; rw [if_pos rfl]
      · simp only [List.map_cons, List.nodup_cons] at nd
        have : f ≠ g := fun q => nd.1 (by rw [← q]; exact List.mem_map_of_mem (f := (·.1)) e)
        rw [if_neg this]
        exact ih nd.2 e
  refine key _ ?_ ?_
  · rw [List.map_reverse]
    refine (List.reverse_perm _).nodup_iff.mpr ?_
    exact nd.sublist (zip_sub fs ys)
  · rw [List.mem_reverse]
    refine List.mem_of_getElem? (i := i) ?_
    rw [List.getElem?_zip_eq_some]
    exact ⟨h1, h2⟩
section
variable {X : Cx} {G : Cl} {W : WX} {e : Expr} {es : List Expr} {pos pos' p : Pos} {ms : List M} {k j c : Nat} {x : Str}
theorem s_raise (ct : Ct X W k) (Er : ErrOk X.prog X.w X.K X.mg X.base G j x c) (hj : j + 1 ≤ k) (hg : Gl X x) (ha : PA X (e :: es) (tL X.K G W (evs ms))) (hl : ms.length = (G.nm c).length)
    (hdb : (x == ("__debug__" : Str)) = false := by decide) (he : starEach (e :: es) X.env = (false, eval e X.env) :: starEach es X.env := by rfl) (hpl : (backTo pos (starEach es X.env)).any (·.1) = false := by rfl) :
    PS X (.Raise (some (.Call (.Name x p) (e :: es) [] pos)) none pos') (tS X.K G W (sRaise c ms)) := by
  obtain ⟨fI, fd, ps, hm, T, iC, tI, F1, hb, nd, hn⟩ := Er
  refine psImp (ps_raise ct.hc ct.tk (pmk_oex (ds := []) (dvs := []) T iC tI F1 (ct.hr.mono hj) hb .nil (passes_call ct.tk fun _ _ _ _ z => z.elim) hg hm ha hdb he hpl)) fun D0 σ H t => ?_
  obtain ⟨ρ, h, env, hr, hE, q⟩ := t
  refine ⟨ρ, h, env, hr, hE, ?_⟩
  unfold sRaise at q
  cases qe : evs ms env h with
  | bad => rw [qe] at q; exact q
  | exc c' fs h' => rw [qe] at q; exact fun ρ' H' d e a z => q ρ' H' σ d e a (hE.mono e) z
  | ok ds h1 =>
    rw [qe] at q
    intro ρ' H1 vs e1 r1 rv
    have hlen : vs.length = (G.nm c).length := by rw [rv.length, evs_len qe, hl]
    refine ⟨by omega, fun a ha' => ⟨a, vs, by simp, hlen, upd_same, fun H2 d k1 k2 k3 k4 k5 => ⟨rfl, d, _, k1, k2, ?_, ?_⟩⟩⟩
    · rw [upd_ne k4] at k3; exact k3
    · have hd : H1 d = none := by rw [upd_ne k4] at k3; exact k3
      have hH : upd (L2.del H2 a) d (.xd ((G.nm c).zip vs).reverse) = upd H1 d (.xd ((G.nm c).zip vs).reverse) := by
        funext b
        by_cases b2 : b = d
        · rw [b2, upd_same, upd_same]
        · rw [upd_ne b2, upd_ne b2]
          by_cases b1 : b = a
          · rw [b1, del_same, ha']
          · rw [del_ne b1, k5 b b1 b2, upd_ne b1]
      rw [hH]
      have ex2 : Ex X.K ρ' H1 ρ' (upd H1 d (.xd ((G.nm c).zip vs).reverse)) := Ex.fresh hd
      have q' : PoS X.K G W ρ H D0 (.exc c ds env h1) := q
      refine q' ρ' _ σ (some d) (e1.trans ex2) (r1.aux hd) (hE.mono (e1.trans ex2)) ⟨d, _, rfl, upd_same, by rw [← rv.length, hlen], fun i f hf => ?_⟩
      have hi : i < vs.length := by rw [hlen]; exact (List.getElem?_eq_some_iff.mp hf).1
      obtain ⟨y, hy, ry⟩ := rv.getV (i := i) (v := vs[i]) (by simp [hi])
      exact ⟨vs[i], y, lookup_zip nd hf (by simp [hi]), hy, ry.mono ex2⟩
end
end Sm
/-! SmY: try: .. except C as e: return an expression of e's fields -/
namespace Sm
open PySem L2 PyProof.Rows
/-- where the exception is known: slot, address, dict, class -/
structure XCt where
  i : Nat
  a : Addr
  d : Option Addr
  c : Nat
def tX (K : PySem.W.Frag) (G : Cl) {α β : Type} (rel : List Addr → Hp → β → α → Prop) (C : XCt) (m : List D → Ev → Hh → R α) : L2.St → Hp → (β → Hp → Prop) → Prop := fun σ H Q =>
  ∃ fs ρ h env, σ[C.i]? = some (some (.ref C.a)) ∧ Rx K G ρ H C.d C.c fs ∧ Rh K G ρ H h ∧ Re K ρ H σ env ∧ Po K G rel WN ρ H σ (m fs env h) Q
abbrev tXM (K : PySem.W.Frag) (G : Cl) (C : XCt) (m : List D → M) : TE := tX K G (relV K) C m
abbrev tXL (K : PySem.W.Frag) (G : Cl) (C : XCt) (m : List D → Ev → Hh → R (List D)) : TA := tX K G (relVs K) C m
section
variable {X : Cx} {G : Cl} {C : XCt} {e : Expr} {es : List Expr} {pos : Pos} {m : List D → M} {ms : List (List D → M)} {K : PySem.W.Frag}
def eFd (k : Nat) (fs : List D) : M := fun env h => match fs[k]? with
  | some d => .ok d h
  | none => .bad
abbrev evsX (ms : List (List D → M)) (fs : List D) : Ev → Hh → R (List D) := evs (ms.map fun m => m fs)
theorem xe_of {m : M} (he : PE X e (tM X.K G WN m)) : PE X e (tXM X.K G C fun _ => m) := peImp he fun σ H Q ⟨fs, ρ, h, env, _, _, hr, hE, p⟩ => ⟨ρ, h, env, hr, hE, p⟩
theorem xa_nil : PA X [] (tXL X.K G C (evsX [])) := paImp pa_nil fun σ H Q ⟨fs, ρ, h, env, _, _, hr, hE, p⟩ => p ρ H [] Ex.refl hr .nil
theorem xa_cons (ha : PE X e (tXM X.K G C m)) (hb : PA X es (tXL X.K G C (evsX ms))) (hs : starEach (e :: es) X.env = (false, eval e X.env) :: starEach es X.env := by rfl) : PA X (e :: es) (tXL X.K G C (evsX (m :: ms))) := paImp (pa_cons ha hb hs) fun σ H Q ⟨fs, ρ, h, env, hσ, rx, hr, hE, p⟩ => by
  refine ⟨fs, ρ, h, env, hσ, rx, hr, hE, ?_⟩
  unfold evsX at p
  rw [List.map_cons] at p
  unfold evs at p
  cases q : m fs env h with
  | bad => rw [q] at p; exact p
  | exc c' fs' h' => rw [q] at p; exact p
  | ok d h1 =>
    rw [q] at p
    simp only [R.bind_ok] at p
    intro ρ1 H1 v e1 hr1 rv
    refine ⟨fs, ρ1, h1, env, hσ, rx.mono e1, hr1, hE.mono e1, ?_⟩
    unfold evsX
    cases q2 : evs (ms.map fun m => m fs) env h1 with
    | bad => rw [q2] at p; exact p.elim
    | exc c' fs' h' => rw [q2] at p; exact (p.shift e1)
    | ok ds h2 =>
      rw [q2] at p
      intro ρ2 H2 vs e2 hr2 rvs
      exact p ρ2 H2 _ (e1.trans e2) hr2 (.cons (rv.mono e2) rvs)
def eTupX (ms : List (List D → M)) (fs : List D) : M := eTup (ms.map fun m => m fs)
def eLstX (ms : List (List D → M)) (fs : List D) : M := eLst (ms.map fun m => m fs)
theorem xe_tup {x1} (ha : PA X es (tXL X.K G C (evsX ms))) (hl : ms.length ≤ sizeLine := by decide) : PE X (.Tuple es x1 pos) (tXM X.K G C (eTupX ms)) := peImp (pe_tup ha) fun σ H Q ⟨fs, ρ, h, env, hσ, rx, hr, hE, p⟩ => by
  refine ⟨fs, ρ, h, env, hσ, rx, hr, hE, ?_⟩
  unfold eTupX eTup at p
  cases q : evs (ms.map fun m => m fs) env h with
  | bad => unfold evsX; rw [q] at p ⊢; exact p
  | exc c' fs' h' => unfold evsX; rw [q] at p ⊢; exact p
  | ok ds h1 =>
    unfold evsX
    rw [q] at p ⊢
    simp only [R.bind_ok] at p
    intro ρ1 H1 vs e1 hr1 rvs
    exact ⟨by rw [rvs.length, evs_len q, List.length_map]; exact hl, new_tup hr1 rvs (p.shift e1)⟩
theorem xe_lst (ha : PA X es (tXL X.K G C (evsX ms))) (hl : ms.length ≤ sizeLine := by decide) : PE X (.List es pos) (tXM X.K G C (eLstX ms)) := peImp (pe_lst ha) fun σ H Q ⟨fs, ρ, h, env, hσ, rx, hr, hE, p⟩ => by
  refine ⟨fs, ρ, h, env, hσ, rx, hr, hE, ?_⟩
  unfold eLstX eLst at p
  cases q : evs (ms.map fun m => m fs) env h with
  | bad => unfold evsX; rw [q] at p ⊢; exact p
  | exc c' fs' h' => unfold evsX; rw [q] at p ⊢; exact p
  | ok ds h1 =>
    unfold evsX
    rw [q] at p ⊢
    simp only [R.bind_ok] at p
    intro ρ1 H1 vs e1 hr1 rvs
    exact ⟨by rw [rvs.length, evs_len q, List.length_map]; exact hl, new_lst hr1 rvs (p.shift e1)⟩
/-- e.f -/
theorem xe_fld {oe : Obj} {cls : Value} {pn : List (Addr × Obj)} {x f : Str} {ip : Pos} {k : Nat} (T : XfC X.K (G.at_ C.c)) (hno : PySem.W.findIn X.K (.ref (G.at_ C.c)) f = some none) (hcls : cls = .ref (G.at_ C.c)) (hz : Zc cls C.d oe) (hf : ∃ vs, oe.data = .fields vs)
    (hx : X.N[C.i]? = some x) (hv : Vis X.env.scope x) (hk : (G.nm C.c)[k]? = some f) (hd : (x == ("__debug__" : Str)) = false := by decide) (hcd : (x == ("__classdict__" : Str)) = false := by decide)
    (hb : attributeBase (.Name x ip) f X.env (eval (.Name x ip) X.env) = eval (.Name x ip) X.env := by rfl) :
    PE (X.suite C.a ((C.a, oe) :: pn)) (.Attribute (.Name x ip) f pos) (tXM X.K G C (eFd k)) := by
  subst hcls
  refine peImp (pe_xf T hno hz hf (pe_var (X := X.suite C.a ((C.a, oe) :: pn)) hx hv hd hcd) hb) fun σ H Q ⟨fs, ρ, h, env, hσ, rx, hr, hE, p⟩ => ?_
  obtain ⟨dx, vfs, h1, h2, h3, h4⟩ := rx
  obtain ⟨v, y, k1, k2, k3⟩ := h4 k f hk
  refine ⟨.ref C.a, hσ, rfl, rfl, dx, vfs, v, h1, h2, k1, ?_⟩
  unfold eFd at p
  rw [k2] at p
  exact p ρ H v Ex.refl hr k3
end
/-! ### try: body except C as e: return expr -/
/-- the clause C0: which of the classes it takes -/
def sTryX (body : S) (mt : Nat → Option Bool) (i : Nat) (suite : List D → M) : S := fun env h => match body env h with
  | .exc c fs env' h' => (match mt c with
    | some true => if i < env'.length then (match suite fs (env'.set i none) h' with
      | .ok d h2 => .rt d h2
      | _ => .bad) else .bad
    | some false => .exc c fs env' h'
    | none => .bad)
  | r => r
theorem Ct.tr {X : Cx} {W W' : WX} {k : Nat} (c : Ct X W k) (pn : List (Addr × Obj)) (xe : Value → Shared → Prop) (tk : Takes (X.tr pn xe) W') (po : PassesOwn (model X.prog X.w) X.A X.env xe) : Ct (X.tr pn xe) W' k := ⟨tk, po, c.hr, c.hc, c.nd⟩
theorem Re.drop {K : PySem.W.Frag} {ρ : List Addr} {H : Hp} {σ : L2.St} {env : Ev} (r : Re K ρ H σ env) (i : Nat) (x : Option V) : Re K ρ H (σ.set i x) (env.set i none) := by
  refine ⟨by rw [List.length_set, List.length_set, r.len], fun j d e => ?_⟩
  by_cases q : i = j
  · subst q
    rw [List.getElem?_set, if_pos rfl] at e
    split at e <;> cases e
  · rw [List.getElem?_set_ne q] at e ⊢
    exact r.get j d e
theorem pss_of {X : Cx} {st : List Stmt} {t : TS} {p : Prop} (f : p → PSs X st t) : PSs X st (fun D σ H => p ∧ t D σ H) := ⟨fun pins s σ H D I ⟨hp, q⟩ => (f hp).run pins s σ H D I q⟩
section
variable {X : Cx} {G : Cl} {W : WX} {x n : Str} {c i k : Nat} {body : List Stmt} {ex : Expr} {np pos pos' rp : Pos} {sb : S} {mt : Nat → Option Bool} {sm : List D → M}
theorem s_tryX (ct : Ct X W k) (hs : X.stack = X.env :: X.outer) (hf : X.env.frame = some X.env.locals) (hi : X.N[i]? = some n) (hln : X.env.kindOf n = some .local) (hc : Names X x (.ref (G.at_ c)))
    (hm : ∀ c' b, mt c' = some b → PySem.W.exmOne X.K (.ref (G.at_ c')) (.ref (G.at_ c)) = some b) (hone : ∀ c', mt c' = some true → c' = c)
    (hb : ∀ (W : WX) (pn : List (Addr × Obj)) (xe : Value → Shared → Prop), Ct (X.tr pn xe) W k → PSs (X.tr pn xe) body (tS X.K G W sb))
    (hsu : ∀ (a : Addr) (oe : Obj) (cls : Value) (d : Option Addr) (pn : List (Addr × Obj)), Zc cls d oe → (∃ vs, oe.data = .fields vs) → cls = .ref (G.at_ c) → PE (X.suite a ((a, oe) :: pn)) ex (tXM X.K G ⟨i, a, d, c⟩ sm)) :
    PS X (.Try body [.ExceptHandler (some (.Name x np)) (some n) [.Return (some ex) rp] pos'] [] [] pos) (tS X.K G W (sTryX sb mt i sm)) := by
  refine psImp (ps_try_as (c := .ref (G.at_ c)) (Wout := W) (tb := fun W => tS X.K G W sb) (ts := fun a cls d D σ H => cls = .ref (G.at_ c) ∧ tXM X.K G ⟨i, a, d, c⟩ sm σ H D.rt) hs hf ct.nd hi hln hc ct.tk
    (fun W' pn xe tk po => hb W' pn xe (ct.tr pn xe tk po)) (fun a oe cls d pn hz hfl => pss_of fun hcls => pss_one (ps_ret (hsu a oe cls d pn hz hfl hcls)))) fun D0 σ H t => ?_
  obtain ⟨ρ, h, env, hr, he, q⟩ := t
  refine ⟨ρ, h, env, hr, he, ?_⟩
  unfold sTryX at q
  cases qb : sb env h with
  | bad => rw [qb] at q; exact q
  | nx e' h' => rw [qb] at q; exact q
  | rt d h' => rw [qb] at q; exact q
  | bk e' h' => rw [qb] at q; exact q
  | ct e' h' => rw [qb] at q; exact q
  | exc c' fs e' h' =>
    rw [qb] at q
    dsimp only at q
    intro ρ' H' σ' d e1 r1 re1 rx
    cases qm : mt c' with
    | none => rw [qm] at q; exact q.elim
    | some b =>
      rw [qm] at q
      cases b with
      | false => exact ⟨false, hm _ _ qm, (fun z => nomatch z), fun _ => q ρ' H' σ' d e1 r1 re1 rx⟩
      | true =>
        obtain rfl := hone _ qm
        dsimp only at q
        have hlen : i < e'.length := by
          refine Classical.byContradiction fun hn => ?_
          rw [if_neg hn] at q
          exact q
        rw [if_pos hlen] at q
        refine ⟨true, hm _ _ qm, fun _ a ha => ⟨rfl, fs, ρ', h', e'.set i none, ?_, rx, r1, re1.drop i _, ?_⟩, fun z => nomatch z⟩
        · have hl : i < σ'.length := by rw [re1.len]; exact hlen
          exact List.getElem?_set_self hl
        · cases qs : sm fs (e'.set i none) h' with
          | bad => rw [qs] at q; exact q.elim
          | exc c2 fs2 h2 => rw [qs] at q; exact q.elim
          | ok d2 h2 =>
            rw [qs] at q
            exact fun ρ2 H2 v e2 r2 rv => q ρ2 H2 v (e1.trans e2) r2 rv
end
end Sm
/-! SmZ: an error class from what K says of it; the law's end with classes -/
namespace Sm
open PySem L2 PyProof.Rows NdefX
theorem walk_lawG {l : PySem.W.OpenLaw} {k : Nat} {q : Program} {loose : List Str} {XP : (Str → Option Value) → Heap → Prop} {YP : World → Heap → Prop} {d : DefRec} {K : Params → PySem.W.Frag} {f : Fm}
    (hn : l.most = some 63) (hdf : d.params.defaults = []) (hr : Room k callerA)
    (hY : ∀ (w : World) (h : Heap), YP w h → (K w.params).In h) (main : ∀ ns : List Int, ns.length ≤ 63 → ∃ h', f [.fls (ns.map D.int)] [] = .ok (.bl true) h')
    (F : ∀ (w : World) (mg : Str → Option Value) (fa : Addr) (h : Heap), (K w.params).In h → h.Ns mainGlobals mg → mg d.name = some (.ref fa) →
      ∃ (G : Cl) (fd : FuncData), (∀ (s : Shared) (u : Value), BindsTo s fd ⟨[u], []⟩ [("script", u)]) ∧
        ∀ base : Heap, (K w.params).In base → base.Ns mainGlobals mg → FnOk l.prog w (K w.params) mg base (L2.CX l.prog w) k fa fd ["script"] (spM (K w.params) G 1 f)) :
    PySem.W.WalkO q loose XP YP l.row.toRowW d [] (fun f vs => PySem.call f vs) :=
  L2.walk_of (n := 63) (k := k) (x := "script") (CX := fun w => L2.CX l.prog w) (sp := fun w => fun vs H Q E => ∀ G, spM (K w.params) G 1 f vs H Q E) hn (by decide) hdf hr hY
    (fun w mg fa h a b c => by
      obtain ⟨G, fd, h1, h2⟩ := F w mg fa h a b c
      exact ⟨fd, h1, fun base x y => (h2 base x y).imp fun vs H Q E z => z G⟩)
    (fun w H a ns h1 h2 h3 => fun G => law_end main H a ns h1 h2 h3)
    fun w H s e s' z => by
      obtain ⟨_, _, _, _, _, _, _, _, _, _, _, _, z⟩ := z
      exact z
section
variable {P : Program} {w : World} {K : PySem.W.Frag} {mg : Str → Option Value} {base : Heap} {N ps : List Str} {F : NF} {f cc C : Addr} {dV kV doc pm ct : Value} {an : Option Addr} {p0 p1 p2 p3 pos spos : Pos} {m sn : Str} {j : Nat} {rest : List Stmt}
theorem init_ok {pl : Sem Bool} {oc : Value} {od : Option Addr} {osl : Array (Option Value)} {fis : List (Str × Nat)} (T : SupC K C C) (lk : K.lookup f = some ⟨oc, od, .func (fdx F dV kV doc pm an ct), osl⟩) (hcd : PySem.W.codeIn K (.ref F.c) F.qual = true) (S : NScope N ps ["__class__"] F.scope)
    (hcl : F.cl = [(("__class__" : Str), cc)]) (hbd : F.body = .Expr (.Call (.Attribute (.Call (.Name "super" p0) [] [] p1) "__init__" p2) [.Constant (.str m) j p3] [] pos) spos :: rest)
    (hpar : ∃ ar, (F.params.posonlyargs ++ F.params.args).head? = some ar ∧ ar.arg = sn) (hsn : ps[0]? = some sn) (hks : F.scope.names.lookup ("super" : Str) = some .globalImplicit)
    (code : ∃ o vs file tf, K.lookup F.c = some o ∧ o.data = .fields vs ∧ vs[2]? = some (.str file tf) ∧ ((P.main.file : Str) == file) = true) (htop : (P.main.scope.names.lookup ("super" : Str)).isSome = false)
    (hcell : ∃ cl cld csl, K.lookup cc = some ⟨cl, cld, .cell (some (.ref C)), csl⟩) (hcls : ∃ cdD, PySem.W.clsIn K C = some cdD) (mgs : mg "super" = none) (thi : PySem.W.nsIn K PySem.cStatics "thirdparty.any" = some none)
    (he : ∀ L, eval (.Call (.Attribute (.Call (.Name "super" p0) [] [] p1) "__init__" p2) [.Constant (.str m) j p3] [] pos) (envF F f L) = (do
      let ov ← attributeBase (.Call (.Name "super" p0) [] [] p1) "__init__" (envF F f L) (eval (.Call (.Name "super" p0) [] [] p1) (envF F f L))
      standAt p2.atName
      let (fm, first) ← holding [ov] (getMethod ov "__init__" pl)
      callWith pos fm first (backTo pos (starEach [.Constant (.str m) j p3] (envF F f L))) []))
    (hps : ps.length = fis.length + 1) (hne : fis ≠ []) (hfl : fis.length ≤ 800) (hix : ∀ (k : Nat) (p : Str × Nat), fis[k]? = some p → p.2 = k + 1) (hno : ∀ p ∈ fis, PySem.W.findIn K (.ref C) p.1 = some none)
    (hrest : ∀ (A : Around) (outer : List Env) (s : Shared) (H : Hp) (E : XK), PSs (ncx (L2.CX P w) P w K mg base N F f A outer s H E) rest (tFs K fis)) :
    FnOk P w K mg base (L2.CX P w) 1 f (fdx F dV kV doc pm an ct) ps (spI C (fis.map (·.1))) := by
  refine fn_init lk hcd S hcl hbd hpar hsn hks code htop hcell hcls mgs thi he (fun vs H Q E ⟨a, ys, h1, h2, _⟩ => by rw [h1, List.length_cons, h2, List.length_map, hps]) fun A outer s H vs Q E hr ⟨a, ys, h1, h2, h3, h4⟩ => ?_
  subst h1
  refine ⟨⟨a, C, rfl, T, h3⟩, tFs K fis, hrest A outer s H E, ?_⟩
  rw [List.length_map] at h2
  have hσ : ∀ k y, ys[k]? = some y → (startF N (V.ref a :: ys) [some (V.ref C)])[k + 1]? = some (some y) := fun k y e => by
    have hk : k < ys.length := (List.getElem?_eq_some_iff.mp e).1
    unfold startF
    rw [List.getElem?_append_left (by simp; omega), List.getElem?_map, List.getElem?_cons_succ, e]
    rfl
  cases fis with
  | nil => exact absurd rfl hne
  | cons p fis =>
    obtain ⟨f1, i1⟩ := p
    cases ys with
    | nil => simp at h2
    | cons y ys =>
      refine fs_read0 T.oex (by unfold startF; rfl) f1 i1 y fis ys H h3 (by simp at hfl; omega) (by simpa using h2) (fun q hq => ?_) hno fun H2 d k1 k2 k3 k4 k5 => h4 H2 d k1 k2 k3 k4 k5
      obtain ⟨k, hk⟩ := List.mem_iff_getElem?.mp hq
      rw [List.getElem?_zip_eq_some] at hk
      rw [hix k _ hk.1]
      exact hσ k _ hk.2
end
theorem exm_mk {K : PySem.W.Frag} {C : Addr} {t : Value} {b : Bool} {cd : ClassData} (e : PySem.W.subIn K (.ref C) (.type "BaseException") = some true) (cl : PySem.W.clsIn K C = some cd) (ty : PySem.W.typeIn K (.ref C) = some (.type "type")) (s : PySem.W.subIn K t (.ref C) = some b) : PySem.W.exmOne K t (.ref C) = some b := by
  unfold PySem.W.exmOne PySem.W.kitCls
  simp only [e, beq_self_eq_true, if_true, cl, ty, s, Option.isSome_some, Bool.and_self]
end Sm
/-! SmS: texts' methods with one argument: split, join -/
namespace Sm
open PySem L2 PyProof.Rows
def eM1 (f : D → D → Hh → Option (D × Hh)) (mo me : M) : M := fun env h => (mo env h).bind fun o h1 => match o with
  | .str a => (me env h1).bind fun d h2 => R.opt (f (.str a) d h2)
  | _ => .bad
def strsOf : List D → Option (List Str)
  | [] => some []
  | .str x :: r => (strsOf r).map (x :: ·)
  | _ :: _ => none
theorem strsOf_eq {K : PySem.W.Frag} {ρ : List Addr} {H : Hp} : ∀ {vs : List V} {ds : List D} {bs : List Str}, Rvs K ρ H vs ds → strsOf ds = some bs → vs = bs.map V.str
  | _, _, _, .nil, e => by cases e; rfl
  | _, _, bs, .cons (d := .str b) h t, e => by
    simp only [strsOf, Option.map_eq_some_iff] at e
    obtain ⟨ms, e1, rfl⟩ := e
    cases h
    rw [List.map_cons, ← strsOf_eq t e1]
  | _, _, _, .cons (d := .non) h t, e => by simp [strsOf] at e
  | _, _, _, .cons (d := .int _) h t, e => by simp [strsOf] at e
  | _, _, _, .cons (d := .bl _) h t, e => by simp [strsOf] at e
  | _, _, _, .cons (d := .tup _) h t, e => by simp [strsOf] at e
  | _, _, _, .cons (d := .fls _) h t, e => by simp [strsOf] at e
  | _, _, _, .cons (d := .ref _) h t, e => by simp [strsOf] at e
theorem Rvs.of_strs {K : PySem.W.Frag} {ρ : List Addr} {H : Hp} : ∀ xs : List Str, Rvs K ρ H (xs.map V.str) (xs.map D.str)
  | [] => .nil
  | x :: xs => .cons (.str x) (Rvs.of_strs xs)
def opSplit : D → D → Hh → Option (D × Hh)
  | .str a, .str b, h => if (b.length == 0) = false ∧ a.length + 2 ≤ sizeLine then some (.ref h.length, h ++ [.lst ((Txt.split a b).map D.str)]) else none
  | _, _, _ => none
def opJoin : D → D → Hh → Option (D × Hh)
  | .str a, d, h => match partsOf d h with
    | some ds => match strsOf ds with
      | some ys => if (ys.map (·.length)).sum + ys.length * a.length ≤ 16777216 then some (.str (Txt.join a ys), h) else none
      | none => none
    | none => none
  | _, _, _ => none
section
variable {X : Cx} {G : Cl} {W : WX} {e o : Expr} {pos : Pos} {mo me : M} {K : PySem.W.Frag}
def ImpS (K : PySem.W.Frag) (G : Cl) (r : V → List V → Hp → VK → Prop) (f : D → D → Hh → Option (D × Hh)) : Prop := ∀ {ρ : List Addr} {H : Hp} {h : Hh} {x y : V} {dx dy d : D} {h' : Hh} {Q : VK}, Rh K G ρ H h → Rv K ρ H x dx → Rv K ρ H y dy → f dx dy h = some (d, h') →
  (∀ ρ' H' v, Ex K ρ H ρ' H' → Rh K G ρ' H' h' → Rv K ρ' H' v d → Q v H') → r x [y] H Q
theorem m1_imp {r : V → List V → Hp → VK → Prop} {f : D → D → Hh → Option (D × Hh)} (i : ImpS X.K G r f) (σ : L2.St) (H : Hp) (Q : VK) (t : tM X.K G W (eM1 f mo me) σ H Q) : tM1 r (tM X.K G W mo) (tM X.K G W me) σ H Q := by
  obtain ⟨ρ, h, env, hr, he, p⟩ := t
  refine tG_mono (tG_bind (rel := relV X.K) hr he p) fun x H1 ⟨ρ1, h1, d, e1, hr1, he1, r1, p1⟩ => ?_
  cases d with
  | str a =>
    cases r1
    refine ⟨⟨a, rfl⟩, tG_mono (tG_bind (rel := relV X.K) hr1 he1 p1) fun y H2 ⟨ρ2, h2, d2, e2, hr2, he2, r2, p2⟩ => ?_⟩
    obtain ⟨d3, h3, eq, k⟩ := p2.opt
    exact i hr2 (.str a) r2 eq k
  | _ => exact p1.elim
theorem se_split {apos : Pos} (ho : PE X o (tM X.K G W mo)) (he : PE X e (tM X.K G W me)) (hs : starEach [e] X.env = [(false, eval e X.env)] := by rfl) (hbase : attributeBase o "split" X.env (eval o X.env) = eval o X.env := by rfl) (hline : (apos.endLine == pos.line) = true := by rfl) :
    PE X (.Call (.Attribute o "split" apos) [e] [] pos) (tM X.K G W (eM1 opSplit mo me)) := peImp (pe_split ho he hs hbase hline) fun σ H Q t => m1_imp (fun {ρ H h x y dx dy d h' Q} hr rx ry e k => by
  cases rx <;> cases ry <;> simp only [opSplit] at e <;> first | (cases e; done) | skip
  split at e
  · rename_i a b hab
    cases e
    refine ⟨a, b, rfl, rfl, hab.1, hab.2, fun p hp => ?_⟩
    refine k (ρ ++ [p]) _ _ (Ex.push hp) (hr.new hp (.lst upd_same (Rvs.of_strs _))) (.ref ?_)
    rw [← hr.len]
    exact get_push_eq
  · cases e) σ H Q t
theorem se_join {apos : Pos} (ho : PE X o (tM X.K G W mo)) (he : PE X e (tM X.K G W me)) (hs : starEach [e] X.env = [(false, eval e X.env)] := by rfl) (hbase : attributeBase o "join" X.env (eval o X.env) = eval o X.env := by rfl) (hline : (apos.endLine == pos.line) = true := by rfl) :
    PE X (.Call (.Attribute o "join" apos) [e] [] pos) (tM X.K G W (eM1 opJoin mo me)) := peImp (pe_join ho he hs hbase hline) fun σ H Q t => m1_imp (fun {ρ H h x y dx dy d h' Q} hr rx ry e k => by
  unfold opJoin at e
  split at e
  · cases rx
    split at e
    · rename_i ds e1
      split at e
      · rename_i ys e2
        split at e
        · rename_i hz
          cases e
          unfold partsOf at e1
          split at e1
          · cases e1
            obtain ⟨a, vs, rfl, t, r⟩ := ry.sqT
            rw [strsOf_eq r e2] at t
            exact ⟨_, a, ys, rfl, rfl, .inr t, hz, k _ _ _ Ex.refl hr (.str _)⟩
          · cases e1
            cases ry with
            | fls t r =>
              have t' := t.sq
              rw [strsOf_eq r e2] at t'
              exact ⟨_, _, ys, rfl, rfl, .inl t', hz, k _ _ _ Ex.refl hr (.str _)⟩
          · cases ry with
            | ref ra =>
              split at e1
              · rename_i e0
                cases e1
                obtain ⟨vs, q, r⟩ := ref_seq hr ra e0
                rw [strsOf_eq r e2] at q
                exact ⟨_, _, ys, rfl, rfl, .inl q, hz, k _ _ _ Ex.refl hr (.str _)⟩
              · cases e1
          · cases e1
        · cases e
      · cases e
    · cases e
  · cases e) σ H Q t
end
theorem fn_bad {P : Program} {w : World} {K : PySem.W.Frag} {mg : Str → Option Value} {base : Heap} {CX : CXT} {k : Nat} {f : Addr} {fd : FuncData} {ps : List Str} {G : Cl} {np : Nat} (hp : np = ps.length) : FnOk P w K mg base CX k f fd ps (spM K G np fun _ _ => .bad) :=
  ⟨fun vs H Q E ⟨_, _, _, _, _, l, _⟩ => l.trans hp, fun A outer s H args us vs Q E _ _ _ _ ⟨_, _, _, _, _, _, p⟩ => p.elim⟩
end Sm
/-! SmT: in, not in: a sign in a text; flat things in a list or tuple -/
namespace Sm
open PySem L2 PyProof.Rows
def toV : D → Option V
  | .non => some .non
  | .bl b => some (.bl b)
  | .int i => some (.int i)
  | .str x => some (.str x)
  | _ => none
def toVs : List D → Option (List V)
  | [] => some []
  | d :: ds => match toV d, toVs ds with
    | some v, some vs => some (v :: vs)
    | _, _ => none
theorem toV_eq {K : PySem.W.Frag} {ρ : List Addr} {H : Hp} {v v' : V} {d : D} (r : Rv K ρ H v d) (e : toV d = some v') : v = v' ∧ flatV v' = true := by
  cases d <;> simp only [toV] at e <;> cases e <;> cases r <;> exact ⟨rfl, rfl⟩
theorem toVs_eq {K : PySem.W.Frag} {ρ : List Addr} {H : Hp} : ∀ {vs vs' : List V} {ds : List D}, Rvs K ρ H vs ds → toVs ds = some vs' → vs = vs' ∧ vs'.all flatV = true
  | _, _, _, .nil, e => by cases e; exact ⟨rfl, rfl⟩
  | _, vs', _, .cons (d := d) (ds := ds) h t, e => by
    unfold toVs at e
    split at e
    · rename_i v vs e1 e2
      cases e
      obtain ⟨rfl, f1⟩ := toV_eq h e1
      obtain ⟨rfl, f2⟩ := toVs_eq t e2
      exact ⟨rfl, by simp [f1, f2]⟩
    · cases e
def opInB : D → D → Hh → Option Bool
  | .str x, .str z, _ => match x.cps.toList with
    | [c] => some (decide (c ∈ z.cps.toList))
    | _ => none
  | x, y, h => match toV x, partsOf y h with
    | some v, some ds => match toVs ds with
      | some vs => some (inV v vs)
      | none => none
    | _, _ => none
def opIn (x y : D) (h : Hh) : Option (D × Hh) := (opInB x y h).map fun b => (.bl b, h)
def opNin (x y : D) (h : Hh) : Option (D × Hh) := (opInB x y h).map fun b => (.bl (!b), h)
abbrev rSgn (neg : Bool) : R2 := fun x y H Q => ∃ (c : Nat) (z : Str), x = .str ⟨#[c]⟩ ∧ y = .str z ∧ Q (.bl (if neg then !decide (c ∈ z.cps.toList) else decide (c ∈ z.cps.toList))) H
section
variable {X : Cx} {G : Cl} {W : WX} {a b : Expr} {pos : Pos} {ma mb : M} {K : PySem.W.Frag}
theorem im_inB (neg : Bool) : Imp2 K G (fun x y H Q => rSgn neg x y H Q ∨ rIn K neg x y H Q) (fun x y h => (opInB x y h).map fun b => (.bl (if neg then !b else b), h)) := fun {ρ H h x y dx dy d h' Q} hr rx ry e k => by
  rw [Option.map_eq_some_iff] at e
  obtain ⟨bb, e1, e2⟩ := e
  cases e2
  unfold opInB at e1
  split at e1
  · rename_i x z
    cases rx; cases ry
    split at e1
    · rename_i c hc
      cases e1
      have hx : x = ⟨#[c]⟩ := by
        cases x with
        | mk cps =>
          simp only at hc
          congr 1
          apply Array.ext'
          simpa using hc
      exact .inl ⟨c, z, by rw [hx], rfl, k _ _ _ Ex.refl hr (.bl _)⟩
    · cases e1
  · split at e1
    · rename_i v ds e3 e4
      split at e1
      · rename_i vs e5
        cases e1
        obtain ⟨rfl, f1⟩ := toV_eq rx e3
        unfold partsOf at e4
        split at e4
        · cases e4
          obtain ⟨p, us, rfl, t, r⟩ := ry.sqT
          obtain ⟨rfl, f2⟩ := toVs_eq r e5
          exact .inr ⟨p, _, rfl, .inr t, f1, f2, k _ _ _ Ex.refl hr (.bl _)⟩
        · cases e4
          cases ry with
          | fls t r =>
            obtain ⟨rfl, f2⟩ := toVs_eq r e5
            exact .inr ⟨_, _, rfl, .inl t.sq, f1, f2, k _ _ _ Ex.refl hr (.bl _)⟩
        · cases ry with
          | ref ra =>
            split at e4
            · rename_i e0
              cases e4
              obtain ⟨us, q, r⟩ := ref_seq hr ra e0
              obtain ⟨rfl, f2⟩ := toVs_eq r e5
              exact .inr ⟨_, _, rfl, .inl q, f1, f2, k _ _ _ Ex.refl hr (.bl _)⟩
            · cases e4
        · cases e4
      · cases e1
    · cases e1
theorem im_in : Imp2 K G (fun x y H Q => (∃ (c : Nat) (z : Str), x = .str ⟨#[c]⟩ ∧ y = .str z ∧ Q (.bl (decide (c ∈ z.cps.toList))) H) ∨ rIn K false x y H Q) opIn := im_inB false
theorem im_nin : Imp2 K G (fun x y H Q => (∃ (c : Nat) (z : Str), x = .str ⟨#[c]⟩ ∧ y = .str z ∧ Q (.bl (!decide (c ∈ z.cps.toList))) H) ∨ rIn K true x y H Q) opNin := im_inB true
theorem se_in (hu : X.A.units + 64 < cLine) (ha : PE X a (tM X.K G W ma)) (hb : PE X b (tM X.K G W mb)) (hm : behindInMarks .In b = false := by rfl) : PE X (.Compare a [.In] [b] pos) (tM X.K G W (eB opIn ma mb)) := se_cmp (op_in_sign.or op_in_seq) im_in ha hb hm
theorem se_nin (hu : X.A.units + 64 < cLine) (ha : PE X a (tM X.K G W ma)) (hb : PE X b (tM X.K G W mb)) (hm : behindInMarks .NotIn b = false := by rfl) : PE X (.Compare a [.NotIn] [b] pos) (tM X.K G W (eB opNin ma mb)) := se_cmp (op_notIn_sign.or op_notIn_seq) im_nin ha hb hm
theorem st_in (hu : X.A.units + 64 < cLine) (ha : PE X a (tM X.K G W ma)) (hb : PE X b (tM X.K G W mb)) (hm : behindInMarks .In b = false := by rfl) : PT X (.Compare a [.In] [b] pos) (tT X.K G W (tBl (eB opIn ma mb))) := st_cmp (op_in_sign.or op_in_seq) im_in ha hb hm
theorem st_nin (hu : X.A.units + 64 < cLine) (ha : PE X a (tM X.K G W ma)) (hb : PE X b (tM X.K G W mb)) (hm : behindInMarks .NotIn b = false := by rfl) : PT X (.Compare a [.NotIn] [b] pos) (tT X.K G W (tBl (eB opNin ma mb))) := st_cmp (op_notIn_sign.or op_notIn_seq) im_nin ha hb hm
end
end Sm
/-! SmU: running the mirrors of SmX2, SmY, SmS, SmT -/
namespace Sm
open PySem L2 PyProof.Rows
section
variable (env : Ev) (h : Hh) (f : D → D → Hh → Option (D × Hh)) (mo me m : M) (d e : D) (ds fs : List D) (ms : List M) (mx : List (List D → M)) (c k i : Nat) (sb : S) (mt : Nat → Option Bool) (sm : List D → M) (x y z : Str) (n : Nat)
def sRaise1 (c : Nat) (env : Ev) (r : R (List D)) : SR := bindS r env fun ds h1 => .exc c ds env h1
@[simp] theorem sRaise_eq : sRaise c ms env h = sRaise1 c env (evs ms env h) := rfl
@[simp] theorem sRaise1_ok : sRaise1 c env (.ok ds h) = .exc c ds env h := rfl
def sTryX1 (mt : Nat → Option Bool) (i : Nat) (sm : List D → M) (r : SR) : SR := match r with
  | .exc c fs env' h' => (match mt c with
    | some true => if i < env'.length then (match sm fs (env'.set i none) h' with
      | .ok d h2 => .rt d h2
      | _ => .bad) else .bad
    | some false => .exc c fs env' h'
    | none => .bad)
  | r => r
@[simp] theorem sTryX_eq : sTryX sb mt i sm env h = sTryX1 mt i sm (sb env h) := rfl
@[simp] theorem sTryX1_rt : sTryX1 mt i sm (.rt d h) = .rt d h := rfl
@[simp] theorem sTryX1_nx : sTryX1 mt i sm (.nx env h) = .nx env h := rfl
@[simp] theorem sTryX1_exc : sTryX1 mt i sm (.exc c fs env h) = match mt c with
    | some true => if i < env.length then (match sm fs (env.set i none) h with
      | .ok d h2 => .rt d h2
      | _ => .bad) else .bad
    | some false => .exc c fs env h
    | none => .bad := rfl
@[simp] theorem eTupX_eq : eTupX mx fs = eTup (mx.map fun m => m fs) := rfl
@[simp] theorem eLstX_eq : eLstX mx fs = eLst (mx.map fun m => m fs) := rfl
def eM11 (f : D → D → Hh → Option (D × Hh)) (me : M) (env : Ev) (r : R D) : R D := r.bind fun o h1 => match o with
  | .str a => (me env h1).bind fun d h2 => R.opt (f (.str a) d h2)
  | _ => .bad
def eM12 (f : D → D → Hh → Option (D × Hh)) (a : Str) (r : R D) : R D := r.bind fun d h2 => R.opt (f (.str a) d h2)
@[simp] theorem eM1_eq : eM1 f mo me env h = eM11 f me env (mo env h) := rfl
@[simp] theorem eM11_ok : eM11 f me env (.ok (.str x) h) = eM12 f x (me env h) := rfl
@[simp] theorem eM12_ok : eM12 f x (.ok d h) = R.opt (f (.str x) d h) := rfl
@[simp] theorem opSplit_ss : opSplit (.str x) (.str y) h = if (y.length == 0) = false ∧ x.length + 2 ≤ sizeLine then some (.ref h.length, h ++ [.lst ((Txt.split x y).map D.str)]) else none := rfl
theorem strsOf_map : ∀ xs : List Str, strsOf (xs.map D.str) = some xs
  | [] => rfl
  | x :: xs => by simp [strsOf, strsOf_map xs]
theorem opJoin_l {xs : List Str} (e : h[n]? = some (.lst (xs.map D.str))) (hz : (xs.map (·.length)).sum + xs.length * x.length ≤ 16777216) : opJoin (.str x) (.ref n) h = some (.str (Txt.join x xs), h) := by
  have h1 : partsOf (.ref n) h = some (xs.map D.str) := by
    show (match h[n]? with
      | some (.lst ds) => some ds
      | _ => none) = _
    rw [e]
  have h2 := strsOf_map xs
  simp only [opJoin, h1, h2, if_pos hz]
-- an exception passes through
@[simp] theorem rexc_eU1 (g : D → Hh → Option (D × Hh)) : eU1 g (.exc c fs h) = .exc c fs h := rfl
@[simp] theorem rexc_eB1 (b : M) : eB1 f b env (.exc c fs h) = .exc c fs h := rfl
@[simp] theorem rexc_eB2 : eB2 f d (.exc c fs h) = .exc c fs h := rfl
@[simp] theorem rexc_evs1 : evs1 ms env (.exc c fs h) = .exc c fs h := rfl
@[simp] theorem rexc_evs2 : evs2 d (.exc c fs h) = .exc c fs h := rfl
@[simp] theorem rexc_eTup1 : eTup1 (.exc c fs h) = .exc c fs h := rfl
@[simp] theorem rexc_eLst1 : eLst1 (.exc c fs h) = .exc c fs h := rfl
@[simp] theorem rexc_eCall1 (g : Fm) : eCall1 g (.exc c fs h) = .exc c fs h := rfl
@[simp] theorem rexc_eN1 (g : List D → Hh → Option (D × Hh)) : eN1 g (.exc c fs h) = .exc c fs h := rfl
end
end Sm
/-! SmV: a walk over a tuple, a list or a text -/
namespace Sm
open PySem L2 PyProof.Rows
def signs (z : Str) : List D := z.cps.toList.map fun c => .str ⟨#[c]⟩
def mSeqS (m : M) : Ev → Hh → R Src := fun env h => (m env h).bind fun d h1 => match d with
  | .tup ds => .ok (ds, none) h1
  | .fls ds => .ok (ds, none) h1
  | .str z => .ok (signs z, none) h1
  | .ref n => match h1[n]? with
    | some (.lst ds) => .ok (ds, some (n, .lst ds)) h1
    | _ => .bad
  | _ => .bad
section
variable {X : Cx} {G : Cl} {W : WX} {tg iter : Expr} {m : M} {K : PySem.W.Frag} {ρ : List Addr} {H : Hp}
theorem walks_str {z : Str} : Walks K G ρ H (Its z) (signs z) none := by
  have hl : (signs z).length = z.cps.size := by unfold signs; simp
  refine ⟨fun i ρ' H' h' hr e _ hi => by rw [hl] at hi; exact hi, fun i ρ' H' h' x H2 hr e _ y d hd => ?_, fun ρ' H' h' hr e _ => by rw [hl]; exact Nat.le_refl _⟩
  obtain ⟨rfl, c, hc, rfl⟩ := y
  unfold signs at hd
  rw [List.getElem?_map, Array.getElem?_toList, hc] at hd
  cases hd
  exact ⟨rfl, .str _⟩
theorem io_seqS : ItOk K G W (fun σ H R => (iTup K (tM K G W m) σ H R ∨ iList K (tM K G W m) σ H R) ∨ iStr (tM K G W m) σ H R) (mSeqS m) := fun σ H R0 t => by
  obtain ⟨ρ, h, env, hr, he, p⟩ := t
  cases q : m env h with
  | bad => unfold mSeqS at p; rw [q] at p; exact p.elim
  | exc c fs h' => unfold mSeqS at p; rw [q] at p; exact .inl (.inl ⟨ρ, h, env, hr, he, by rw [q]; exact p⟩)
  | ok d h1 =>
    cases d with
    | str z =>
      unfold mSeqS at p
      rw [q] at p
      refine .inr ⟨ρ, h, env, hr, he, ?_⟩
      rw [q]
      intro ρ' H' v e a r
      cases r
      exact ⟨z, rfl, p ρ' H' _ e a walks_str⟩
    | _ => exact .inl (io_seq σ H R0 ⟨ρ, h, env, hr, he, by unfold mSeqS at p; unfold mSeq; rw [q] at p ⊢; exact p⟩)
theorem pi_seqS (ha : PE X iter (tM X.K G W m)) : PI X tg iter (fun σ H R => (iTup X.K (tM X.K G W m) σ H R ∨ iList X.K (tM X.K G W m) σ H R) ∨ iStr (tM X.K G W m) σ H R) := PI.or (pi_seq ha) (pi_str ha)
end
end Sm
/-! SmW: text * int -/
namespace Sm
open PySem L2 PyProof.Rows
section
variable {X : Cx} {G : Cl} {W : WX} {a b : Expr} {pos : Pos} {ma mb : M} {K : PySem.W.Frag}
abbrev rMulS : R2 := fun x y H Q => ∃ (z : Str) (n : Int), x = .str z ∧ y = .int n ∧ PySem.MulOk z n ∧ Q (.str (Txt.mul z n)) H
theorem op_mul_str : OpR X (binaryOp .Mult) rMulS := by
  intro pins s σ H x y v u Q I rx ry h
  obtain ⟨i, j, rfl, rfl, hz, q⟩ := h
  obtain ⟨t, rfl⟩ := rx
  obtain ⟨t', rfl⟩ := ry
  exact SB.mul hz fun t' k => ⟨.str (Txt.mul i j), H, I.tok _, ⟨_, rfl⟩, q⟩
def opMulA : D → D → Hh → Option (D × Hh)
  | .str z, .int n, h => if z.length ≤ 16 ∧ 0 ≤ n ∧ n ≤ 1048576 then some (.str (Txt.mul z n), h) else none
  | x, y, h => opMul x y h
theorem im_mulA : Imp2 K G (fun x y H Q => rI CMul (fun i j => .int (i * j)) x y H Q ∨ rMulS x y H Q) opMulA := fun {ρ H h x y dx dy d h' Q} hr rx ry e k => by
  unfold opMulA at e
  split at e
  · split at e
    · rename_i q
      cases e
      cases rx; cases ry
      exact .inr ⟨_, _, rfl, rfl, PyProof.Rows.mulOk_of 16 1048576 (by omega) (by omega) (by omega) (by decide) (by decide), k _ _ _ Ex.refl hr (.str _)⟩
    · cases e
  · exact .inl (im_mul hr rx ry e k)
theorem se_mulA (ha : PE X a (tM X.K G W ma)) (hb : PE X b (tM X.K G W mb)) : PE X (.BinOp a .Mult b pos) (tM X.K G W (eB opMulA ma mb)) := se_bin (op_mul.or op_mul_str) im_mulA ha hb
end
section
variable (env : Ev) (h : Hh) (m : M) (i j : Int) (z : Str) (ds : List D) (n : Nat)
@[simp] theorem opMulA_ii : opMulA (.int i) (.int j) h = if mulOk i j = true then some (.int (i * j), h) else none := rfl
@[simp] theorem opMulA_si : opMulA (.str z) (.int i) h = if z.length ≤ 16 ∧ 0 ≤ i ∧ i ≤ 1048576 then some (.str (Txt.mul z i), h) else none := rfl
def mSeqS1 (r : R D) : R Src := r.bind fun d h1 => match d with
  | .tup ds => .ok (ds, none) h1
  | .fls ds => .ok (ds, none) h1
  | .str z => .ok (signs z, none) h1
  | .ref n => match h1[n]? with
    | some (.lst ds) => .ok (ds, some (n, .lst ds)) h1
    | _ => .bad
  | _ => .bad
@[simp] theorem mSeqS_eq : mSeqS m env h = mSeqS1 (m env h) := rfl
@[simp] theorem mSeqS1_t : mSeqS1 (.ok (.tup ds) h) = .ok (ds, none) h := rfl
@[simp] theorem mSeqS1_f : mSeqS1 (.ok (.fls ds) h) = .ok (ds, none) h := rfl
@[simp] theorem mSeqS1_s : mSeqS1 (.ok (.str z) h) = .ok (signs z, none) h := rfl
@[simp] theorem mSeqS1_r : mSeqS1 (.ok (.ref n) h) = match h[n]? with
    | some (.lst ds) => .ok (ds, some (n, .lst ds)) h
    | _ => .bad := rfl
end
end Sm
/-! SmFz: a list that is no longer changed becomes a value (it is locked in the abstract heap for good); a call leaves no new objects behind. -/
namespace Sm
open PySem L2 PyProof.Rows
mutual
/-- all places in it lie below n -/
def lo (n : Nat) : D → Bool
  | .tup ds => los n ds
  | .fls ds => los n ds
  | .ref m => decide (m < n)
  | _ => true
def los (n : Nat) : List D → Bool
  | [] => true
  | d :: ds => lo n d && los n ds
end
section
variable {K : PySem.W.Frag} {G : Cl} {ρ ρ' : List Addr} {H H' : Hp} {h h' : Hh} {n : Nat}
mutual
theorem Rv.cutR (hp : ∀ (m : Nat) (a : Addr), m < n → ρ'[m]? = some a → ρ[m]? = some a) : ∀ {v : V} {d : D}, Rv K ρ' H v d → lo n d = true → Rv K ρ H v d
  | _, _, .non, _ => .non
  | _, _, .bl b, _ => .bl b
  | _, _, .int i, _ => .int i
  | _, _, .str x, _ => .str x
  | _, _, .tup h r, l => .tup h (Rvs.cutR hp r (by simpa [lo] using l))
  | _, _, .ktp h q r, l => .ktp h q (Rvs.cutR hp r (by simpa [lo] using l))
  | _, _, .fls h r, l => .fls h (Rvs.cutR hp r (by simpa [lo] using l))
  | _, _, .ref h, l => .ref (hp _ _ (by simpa [lo] using l) h)
theorem Rvs.cutR (hp : ∀ (m : Nat) (a : Addr), m < n → ρ'[m]? = some a → ρ[m]? = some a) : ∀ {vs : List V} {ds : List D}, Rvs K ρ' H vs ds → los n ds = true → Rvs K ρ H vs ds
  | _, _, .nil, _ => .nil
  | _, _, .cons h r, l => .cons (Rv.cutR hp h (by simp [los] at l; exact l.1)) (Rvs.cutR hp r (by simp [los] at l; exact l.2))
end
theorem Ex.take (e : Ex K ρ H ρ' H') (hn : ρ.length ≤ n) : Ex K ρ H (ρ'.take n) H' := ⟨fun m a z => by
  have l : m < ρ.length := (List.getElem?_eq_some_iff.mp z).1
  rw [List.getElem?_take, if_pos (by omega)]
  exact e.pre m a z, e.tup, e.frz, e.xds⟩
/-- the plain heap's objects, read with fewer places: an object whose parts lie below -/
def loO (n : Nat) : O → Bool
  | .lst ds => los n ds
  | .dK kvs => kvs.all fun p => lo n p.2
  | .dT kvs => kvs.all fun p => lo n p.2
  | .ins _ fs => fs.all fun o => match o with
    | some d => lo n d
    | none => true
  | .dead => true
/-- what stands in h2 stood in h or has its parts below n -/
def Kq (n : Nat) (h h2 : Hh) : Prop := ∀ (i : Nat) (o : O), h2[i]? = some o → h[i]? = some o ∨ loO n o = true
mutual
theorem Rv.loR : ∀ {v : V} {d : D}, Rv K ρ H v d → lo ρ.length d = true
  | _, _, .non => rfl
  | _, _, .bl b => rfl
  | _, _, .int i => rfl
  | _, _, .str x => rfl
  | _, _, .tup h r => by simpa [Sm.lo] using Rvs.losR r
  | _, _, .ktp h q r => by simpa [Sm.lo] using Rvs.losR r
  | _, _, .fls h r => by simpa [Sm.lo] using Rvs.losR r
  | _, _, .ref h => by simpa [Sm.lo] using (List.getElem?_eq_some_iff.mp h).1
theorem Rvs.losR : ∀ {vs : List V} {ds : List D}, Rvs K ρ H vs ds → los ρ.length ds = true
  | _, _, .nil => rfl
  | _, _, .cons h r => by simp [Sm.los, Rv.loR h, Rvs.losR r]
end
theorem Paired.loK {β : Type} : ∀ {kvs : List (β × V)} {ds : List (β × D)}, Paired (fun (p : β × V) (q : β × D) => p.1 = q.1 ∧ Rv K ρ H p.2 q.2) kvs ds → (ds.all fun p => lo ρ.length p.2) = true
  | _, _, .nil => rfl
  | _, _, .cons h t => by simp only [List.all_cons, Bool.and_eq_true]; exact ⟨h.2.loR, Paired.loK t⟩
theorem Ro.loR {a : Addr} {o : O} (r : Ro K G ρ H a o) : loO ρ.length o = true := by
  cases r with
  | lst q r => simpa [loO] using r.losR
  | dK q r => simpa [loO] using Paired.loK r
  | dT q r => simpa [loO] using Paired.loK r
  | @ins c dx fs ds q e r nn z =>
    show (ds.all fun o => match o with
      | some d => lo ρ.length d
      | none => true) = true
    rw [List.all_eq_true]
    intro o ho
    obtain ⟨i, hi⟩ := List.getElem?_of_mem ho
    have hl : i < (G.nm c).length := by rw [← e]; exact (List.getElem?_eq_some_iff.mp hi).1
    have q1 := r i _ (List.getElem?_eq_getElem hl)
    rw [hi] at q1
    cases o with
    | none => rfl
    | some d =>
      cases e2 : fs.lookup (G.nm c)[i] with
      | none => rw [e2] at q1; exact q1.elim
      | some v => rw [e2] at q1; exact Rv.loR q1
  | dead q => rfl
theorem lo_mono {m n : Nat} (hmn : m ≤ n) {d : D} (l : lo m d = true) : lo n d = true := by
  have key : (∀ d, lo m d = true → lo n d = true) ∧ (∀ ds, los m ds = true → los n ds = true) := by
    constructor
    · intro d
      refine lo.induct (motive_1 := fun d => lo m d = true → lo n d = true) (motive_2 := fun ds => los m ds = true → los n ds = true) ?_ ?_ ?_ ?_ ?_ ?_ d
      · intro ds ih l; simp [lo] at l ⊢; exact ih l
      · intro ds ih l; simp [lo] at l ⊢; exact ih l
      · intro k l; simp [lo] at l ⊢; omega
      · intro d h1 h2 h3 l; unfold lo; split <;> simp_all
      · intro _; rfl
      · intro d ds ih1 ih2 l; simp [los] at l ⊢; exact ⟨ih1 l.1, ih2 l.2⟩
    · intro ds
      refine los.induct (motive_1 := fun d => lo m d = true → lo n d = true) (motive_2 := fun ds => los m ds = true → los n ds = true) ?_ ?_ ?_ ?_ ?_ ?_ ds
      · intro ds ih l; simp [lo] at l ⊢; exact ih l
      · intro ds ih l; simp [lo] at l ⊢; exact ih l
      · intro k l; simp [lo] at l ⊢; omega
      · intro d h1 h2 h3 l; unfold lo; split <;> simp_all
      · intro _; rfl
      · intro d ds ih1 ih2 l; simp [los] at l ⊢; exact ⟨ih1 l.1, ih2 l.2⟩
  exact key.1 d l
theorem los_mono {m n : Nat} (hmn : m ≤ n) : ∀ {ds : List D}, los m ds = true → los n ds = true
  | [], _ => rfl
  | d :: ds, l => by simp only [los, Bool.and_eq_true] at l ⊢; exact ⟨lo_mono hmn l.1, los_mono hmn l.2⟩
theorem loO_mono {m n : Nat} (hmn : m ≤ n) {o : O} (l : loO m o = true) : loO n o = true := by
  cases o with
  | lst ds => exact los_mono hmn l
  | dK kvs =>
    simp only [loO, List.all_eq_true] at l ⊢
    exact fun x hx => lo_mono hmn (l x hx)
  | dT kvs =>
    simp only [loO, List.all_eq_true] at l ⊢
    exact fun x hx => lo_mono hmn (l x hx)
  | ins c fs =>
    simp only [loO, List.all_eq_true] at l ⊢
    intro x hx
    have := l x hx
    cases x with
    | none => rfl
    | some d => exact lo_mono hmn this
  | dead => rfl
theorem Paired.cutK {β : Type} (hp : ∀ (m : Nat) (a : Addr), m < n → ρ'[m]? = some a → ρ[m]? = some a) : ∀ {kvs : List (β × V)} {ds : List (β × D)}, Paired (fun (p : β × V) (q : β × D) => p.1 = q.1 ∧ Rv K ρ' H p.2 q.2) kvs ds → (ds.all fun p => lo n p.2) = true → Paired (fun (p : β × V) (q : β × D) => p.1 = q.1 ∧ Rv K ρ H p.2 q.2) kvs ds
  | _, _, .nil, _ => .nil
  | _, _, .cons h t, l => by
    simp only [List.all_cons, Bool.and_eq_true] at l
    exact .cons ⟨h.1, h.2.cutR hp l.1⟩ (Paired.cutK hp t l.2)
theorem Ro.cutR (hp : ∀ (m : Nat) (a : Addr), m < n → ρ'[m]? = some a → ρ[m]? = some a) {a : Addr} {o : O} (r : Ro K G ρ' H a o) (l : loO n o = true) : Ro K G ρ H a o := by
  cases r with
  | lst q r => exact .lst q (r.cutR hp (by simpa [loO] using l))
  | dK q r => exact .dK q (Paired.cutK hp r (by simpa [loO] using l))
  | dT q r => exact .dT q (Paired.cutK hp r (by simpa [loO] using l))
  | @ins c dx fs ds q e r nn z =>
    refine .ins q e (fun i f hf => ?_) nn z
    have q1 := r i f hf
    cases e2 : fs.lookup f with
    | none =>
      rw [e2] at q1
      cases e1 : ds[i]? with
      | none => trivial
      | some o1 =>
        rw [e1] at q1
        cases o1 with
        | none => trivial
        | some d => exact q1.elim
    | some v =>
      rw [e2] at q1
      cases e1 : ds[i]? with
      | none => rw [e1] at q1; exact q1.elim
      | some o1 =>
        rw [e1] at q1
        cases o1 with
        | none => exact q1.elim
        | some d =>
          have l1 : lo n d = true := by
            have l2 : (ds.all fun o => match o with
              | some d => lo n d
              | none => true) = true := l
            have := List.all_eq_true.mp l2 (some d) (List.mem_of_getElem? e1)
            simpa using this
          exact Rv.cutR hp q1 l1
  | dead q => exact .dead q
theorem Rh.take (r : Rh K G ρ H h) (hl : ∀ (i : Nat) (o : O), (h.take n)[i]? = some o → loO n o = true) : Rh K G (ρ.take n) H (h.take n) := by
  have hp : ∀ (m : Nat) (a : Addr), m < n → ρ[m]? = some a → (ρ.take n)[m]? = some a := fun m a hm e => by rw [List.getElem?_take, if_pos hm]; exact e
  refine ⟨by rw [List.length_take, List.length_take, r.len], fun i j a h1 h2 => ?_, fun m o q => ?_⟩
  · rw [List.getElem?_take] at h1 h2
    split at h1
    · split at h2
      · exact r.inj i j a h1 h2
      · cases h2
    · cases h1
  · have lo1 : loO n o = true := hl m o q
    rw [List.getElem?_take] at q
    split at q
    · rename_i hm
      obtain ⟨a, h1, h2⟩ := r.obj m o q
      exact ⟨a, hp m a hm h1, h2.cutR hp lo1⟩
    · cases q
end
theorem Rh.kq {K : PySem.W.Frag} {G : Cl} {ρ : List Addr} {n : Nat} {h : Hh} {H0 : Hp} {h0 : Hh} (r : Rh K G ρ H0 h0) (hn : h0.length ≤ n) (q : Kq n h0 h) (i : Nat) (o : O) (e : h[i]? = some o) : loO n o = true := by
  rcases q i o e with z | z
  · obtain ⟨a, _, h2⟩ := r.obj i o z
    exact loO_mono (by rw [r.len]; exact hn) h2.loR
  · exact z
/-! ### a list becomes a value -/
def FQ (Q : VK) : VK := fun v H1 => Q v H1 ∨ ∃ d xs, v = .ref d ∧ H1 d = some (.lst xs) ∧ ∀ od, Q v (upd H1 d (.frz od (.lst xs)))
def tFrz (t : TE) : TE := fun σ H Q => t σ H (FQ Q)
theorem pe_frz {X : Cx} {e : Expr} {t : TE} (h : PE X e t) : PE X e (tFrz t) := by
  refine ⟨fun pins s σ H Q I hw => ?_⟩
  refine thn (h.run pins s σ H _ I hw) fun v s1 ⟨x, H1, I1, r1, q1⟩ => ?_
  rcases q1 with q1 | ⟨d, xs, rfl, hd, q1⟩
  · exact ⟨x, H1, I1, r1, q1⟩
  · obtain ⟨od, I2⟩ := I1.lock hd trivial
    exact ⟨.ref d, _, I2, r1, q1 od⟩
open Classical in
noncomputable def fz1 (h : Hh) (r : R D) : R D := match r with
  | .ok (.ref n) h1 => (match h1[n]? with
    | some (.lst ds) => if h.length ≤ n ∧ n + 1 = h1.length ∧ los n ds = true ∧ Kq n h (h1.take n) then .ok (.fls ds) (h1.take n) else .ok (.fls ds) (h1.set n .dead)
    | _ => .ok (.ref n) h1)
  | r => r
noncomputable def eFz (m : M) : M := fun env h => fz1 h (m env h)
section
variable {K : PySem.W.Frag} {G : Cl} {ρ ρ' : List Addr} {H H' : Hp} {h h' : Hh} {n : Nat} {W : WX} {σ : L2.St}
theorem Po.fz {r : R D} {Q : VK} (hr : Rh K G ρ H h) (p : Po K G (relV K) W ρ H σ (fz1 h r) Q) : Po K G (relV K) W ρ H σ r fun v H1 => Q v H1 ∨ ∃ d xs, v = .ref d ∧ H1 d = some (.lst xs) ∧ ∀ od, Q v (upd H1 d (.frz od (.lst xs))) := by
  cases r with
  | bad => exact p
  | exc c fs h1 => exact p
  | ok d h1 =>
    cases d with
    | ref n =>
      unfold fz1 at p
      dsimp only at p
      split at p
      · rename_i ds e0
        intro ρ' H' v ex rh rv
        cases rv with
        | ref ra =>
          rename_i a
          obtain ⟨vs, hv, rs⟩ := ref_lst rh ra e0
          refine .inr ⟨a, vs, rfl, hv, fun od => ?_⟩
          have e1 : Ex K ρ' H' ρ' (upd H' a (.frz od (.lst vs))) := Ex.write rh ra e0
          have r1 : Rh K G ρ' (upd H' a (.frz od (.lst vs))) (h1.set n .dead) := rh.write ra e0 (.dead upd_same)
          have v1 : Rv K ρ' (upd H' a (.frz od (.lst vs))) (.ref a) (.fls ds) := .fls (.inl ⟨od, upd_same⟩) (rs.mono e1)
          split at p
          · rename_i hc
            obtain ⟨c1, c2, c3, c4⟩ := hc
            have hp : ∀ (m : Nat) (b : Addr), m < n → ρ'[m]? = some b → (ρ'.take n)[m]? = some b := fun m b hm e => by rw [List.getElem?_take, if_pos hm]; exact e
            have t1 : (h1.set n .dead).take n = h1.take n := by
              rw [List.take_set, List.set_eq_of_length_le]
              rw [List.length_take]; omega
            refine p (ρ'.take n) _ _ (Ex.take (ex.trans e1) (by rw [hr.len]; exact c1)) ?_ (v1.cutR hp (by simpa [lo] using c3))
            have := r1.take (n := n) (by rw [t1]; exact hr.kq c1 c4)
            rw [t1] at this
            exact this
          · exact p ρ' _ _ (ex.trans e1) r1 v1
      · exact fun ρ' H' v ex rh rv => .inl (p ρ' H' v ex rh rv)
    | _ => exact fun ρ' H' v ex rh rv => .inl (p ρ' H' v ex rh rv)
theorem se_fz {X : Cx} {e : Expr} {m : M} (he : PE X e (tM X.K G W m)) : PE X e (tM X.K G W (eFz m)) := peImp (pe_frz he) fun σ H Q t => by
  obtain ⟨ρ, h, env, hr, he, p⟩ := t
  exact ⟨ρ, h, env, hr, he, Po.fz hr p⟩
/-! ### operations whose new list is a value at once -/
theorem new_fls {vs : List V} {ds : List D} {Q : VK} (hr : Rh K G ρ H h) (rs : Rvs K ρ H vs ds) (k : ∀ ρ' H' v, Ex K ρ H ρ' H' → Rh K G ρ' H' h → Rv K ρ' H' v (.fls ds) → Q v H') :
    ∀ p, H p = none → FQ Q (.ref p) (upd H p (.lst vs)) := fun p n => .inr ⟨p, vs, rfl, upd_same, fun od => by
  have e : upd (upd H p (.lst vs)) p (.frz od (.lst vs)) = upd H p (.frz od (.lst vs)) := by
    funext b
    by_cases q : b = p
    · rw [q, upd_same, upd_same]
    · rw [upd_ne q, upd_ne q, upd_ne q]
  rw [e]
  exact k ρ _ _ (Ex.fresh n) (hr.aux n) (.fls (.inl ⟨od, upd_same⟩) (rs.mono (Ex.fresh n)))⟩
theorem FQ.k {Q : VK} {ρ : List Addr} {H : Hp} {h' : Hh} {d : D} (k : ∀ ρ' H' v, Ex K ρ H ρ' H' → Rh K G ρ' H' h' → Rv K ρ' H' v d → Q v H') : ∀ ρ' H' v, Ex K ρ H ρ' H' → Rh K G ρ' H' h' → Rv K ρ' H' v d → FQ Q v H' := fun ρ' H' v a b c => .inl (k ρ' H' v a b c)
def Imp1F (K : PySem.W.Frag) (G : Cl) (r : V → Hp → VK → Prop) (f : D → Hh → Option (D × Hh)) : Prop := ∀ {ρ : List Addr} {H : Hp} {h : Hh} {x : V} {dx d : D} {h' : Hh} {Q : VK}, Rh K G ρ H h → Rv K ρ H x dx → f dx h = some (d, h') →
  (∀ ρ' H' v, Ex K ρ H ρ' H' → Rh K G ρ' H' h' → Rv K ρ' H' v d → Q v H') → r x H (FQ Q)
def Imp2F (K : PySem.W.Frag) (G : Cl) (r : R2) (f : D → D → Hh → Option (D × Hh)) : Prop := ∀ {ρ : List Addr} {H : Hp} {h : Hh} {x y : V} {dx dy d : D} {h' : Hh} {Q : VK}, Rh K G ρ H h → Rv K ρ H x dx → Rv K ρ H y dy → f dx dy h = some (d, h') →
  (∀ ρ' H' v, Ex K ρ H ρ' H' → Rh K G ρ' H' h' → Rv K ρ' H' v d → Q v H') → r x y H (FQ Q)
def ImpNF (K : PySem.W.Frag) (G : Cl) (r : List V → Hp → VK → Prop) (f : List D → Hh → Option (D × Hh)) : Prop := ∀ {ρ : List Addr} {H : Hp} {h : Hh} {xs : List V} {ds : List D} {d : D} {h' : Hh} {Q : VK}, Rh K G ρ H h → Rvs K ρ H xs ds → f ds h = some (d, h') →
  (∀ ρ' H' v, Ex K ρ H ρ' H' → Rh K G ρ' H' h' → Rv K ρ' H' v d → Q v H') → r xs H (FQ Q)
section
variable {X : Cx} {e o a b c : Expr} {lo hi : Option Expr} {es : List Expr} {pos p p1 p2 p3 : Pos} {ma mb m mo me : M} {ml mh : Option M} {ms : List M} {env : Ev} {x : Str} {id T : String}
theorem un_impF {r : V → Hp → VK → Prop} {f : D → Hh → Option (D × Hh)} (i : Imp1F X.K G r f) (σ : L2.St) (H : Hp) (Q : VK) (t : tM X.K G W (eU f ma) σ H Q) : tUn r (tM X.K G W ma) σ H (FQ Q) := by
  obtain ⟨ρ, h, env, hr, he, p⟩ := t
  refine tG_mono (tG_bind (rel := relV X.K) hr he p) fun x H1 ⟨ρ1, h1, d, e1, hr1, he1, r1, p1⟩ => ?_
  obtain ⟨d2, h2, eq, k⟩ := p1.opt
  exact i hr1 r1 eq k
theorem bin_impF {r : R2} {f : D → D → Hh → Option (D × Hh)} (i : Imp2F X.K G r f) (σ : L2.St) (H : Hp) (Q : VK) (t : tM X.K G W (eB f ma mb) σ H Q) : tOp r (tM X.K G W ma) (tM X.K G W mb) σ H (FQ Q) := by
  obtain ⟨ρ, h, env, hr, he, p⟩ := t
  refine tG_mono (tG_bind (rel := relV X.K) hr he p) fun x H1 ⟨ρ1, h1, d, e1, hr1, he1, r1, p1⟩ => ?_
  refine tG_mono (tG_bind (rel := relV X.K) hr1 he1 p1) fun y H2 ⟨ρ2, h2, d2, e2, hr2, he2, r2, p2⟩ => ?_
  obtain ⟨d3, h3, eq, k⟩ := p2.opt
  exact i hr2 (r1.mono e2) r2 eq k
theorem nary_impF {r : List V → Hp → VK → Prop} {f : List D → Hh → Option (D × Hh)} (i : ImpNF X.K G r f) (σ : L2.St) (H : Hp) (Q : VK) (t : tM X.K G W (eN f ms) σ H Q) : tCB r (tL X.K G W (evs ms)) σ H (FQ Q) := by
  obtain ⟨ρ, h, env, hr, he, p⟩ := t
  refine tG_mono (tG_bind (rel := relVs X.K) hr he p) fun x H1 ⟨ρ1, h1, d, e1, hr1, he1, r1, p1⟩ => ?_
  obtain ⟨d2, h2, eq, k⟩ := p1.opt
  exact i hr1 r1 eq k
/-- frozen: the reading's end is weaker -/
theorem pe_F {t t' : TE} (h : PE X e t) (i : ∀ σ H Q, t' σ H Q → t σ H (FQ Q)) : PE X e t' := peImp (pe_frz h) i
-- [a, b]
def eLstF (ms : List M) : M := fun env h => (evs ms env h).bind fun ds h1 => .ok (.fls ds) h1
theorem se_lstF (ha : PA X es (tL X.K G W (evs ms))) (hl : ms.length ≤ sizeLine := by decide) : PE X (.List es pos) (tM X.K G W (eLstF ms)) := pe_F (pe_lst ha) fun σ H Q t => by
  obtain ⟨ρ, h, env, hr, he, p⟩ := t
  refine tG_mono (seq_len (t := tNil) (L := fun _ _ => True) hl hr he p) fun vs H1 ⟨l, ρ1, h1, d, e1, hr1, he1, r1, p1⟩ => ⟨l, ?_⟩
  exact new_fls hr1 r1 p1
-- a + b
def opAddF : D → D → Hh → Option (D × Hh)
  | .fls xs, .fls ys, h => if xs.length + ys.length ≤ sizeLine then some (.fls (xs ++ ys), h) else none
  | .ref m, .fls ys, h => match h[m]? with
    | some (.lst xs) => if xs.length + ys.length ≤ sizeLine then some (.fls (xs ++ ys), h) else none
    | _ => none
  | .fls xs, .ref n, h => match h[n]? with
    | some (.lst ys) => if xs.length + ys.length ≤ sizeLine then some (.fls (xs ++ ys), h) else none
    | _ => none
  | .ref m, .ref n, h => match h[m]?, h[n]? with
    | some (.lst xs), some (.lst ys) => if xs.length + ys.length ≤ sizeLine then some (.fls (xs ++ ys), h) else none
    | _, _ => none
  | x, y, h => opAdd x y h
theorem im_addF : Imp2F K G (rAddAll K) opAddF := fun {ρ H h x y dx dy d h' Q} hr rx ry e k => by
  unfold opAddF at e
  split at e
  · split at e
    · rename_i hl
      cases e
      cases rx with
      | fls t1 r1 =>
        cases ry with
        | fls t2 r2 => exact .inr (.inr (.inr ⟨_, _, _, _, rfl, rfl, t1.sq, t2.sq, by rw [r1.length, r2.length]; exact hl, new_fls hr (r1.append r2) k⟩))
    · cases e
  · cases rx with
    | ref ra =>
      cases ry with
      | fls t2 r2 =>
        split at e
        · rename_i xs e1
          split at e
          · rename_i hl
            cases e
            obtain ⟨vs, q1, r1⟩ := ref_seq hr ra e1
            exact .inr (.inr (.inr ⟨_, _, _, _, rfl, rfl, q1, t2.sq, by rw [r1.length, r2.length]; exact hl, new_fls hr (r1.append r2) k⟩))
          · cases e
        · cases e
  · cases rx with
    | fls t1 r1 =>
      cases ry with
      | ref ra2 =>
        split at e
        · rename_i ys e2
          split at e
          · rename_i hl
            cases e
            obtain ⟨vs2, q2, r2⟩ := ref_seq hr ra2 e2
            exact .inr (.inr (.inr ⟨_, _, _, _, rfl, rfl, t1.sq, q2, by rw [r1.length, r2.length]; exact hl, new_fls hr (r1.append r2) k⟩))
          · cases e
        · cases e
  · cases rx with
    | ref ra =>
      cases ry with
      | ref ra2 =>
        split at e
        · rename_i xs ys e1 e2
          split at e
          · rename_i hl
            cases e
            obtain ⟨vs, q1, r1⟩ := ref_seq hr ra e1
            obtain ⟨vs2, q2, r2⟩ := ref_seq hr ra2 e2
            exact .inr (.inr (.inr ⟨_, _, _, _, rfl, rfl, q1, q2, by rw [r1.length, r2.length]; exact hl, new_fls hr (r1.append r2) k⟩))
          · cases e
        · cases e
  · exact im_add hr rx ry e (FQ.k k)
theorem se_addF (ha : PE X a (tM X.K G W ma)) (hb : PE X b (tM X.K G W mb)) : PE X (.BinOp a .Add b pos) (tM X.K G W (eB opAddF ma mb)) := pe_F (pe_op op_addAll ha hb) fun σ H Q t => bin_impF im_addF σ H Q t
-- a[l:u]
def opSlF : D → Option Int → Option Int → Hh → Option (D × Hh)
  | .tup ds, lo, hi, h => some (.tup (cutD ds lo hi), h)
  | .str z, lo, hi, h => if z.length ≤ sizeLine then some (.str (cutS z lo hi), h) else none
  | .fls ds, lo, hi, h => some (.fls (cutD ds lo hi), h)
  | .ref n, lo, hi, h => match h[n]? with
    | some (.lst ds) => some (.fls (cutD ds lo hi), h)
    | _ => none
  | _, _, _, _ => none
def eSlF (m : M) (lo hi : Option M) : M := fun env h => (m env h).bind fun d h1 => (evO lo env h1).bind fun l h2 => (evO hi env h2).bind fun u h3 => R.opt (opSlF d l u h3)
theorem im_slF {x : V} {d d2 : D} {lo hi : Option Int} {h' : Hh} {Q : VK} (hr : Rh K G ρ H h) (rx : Rv K ρ H x d) (e : opSlF d lo hi h = some (d2, h')) (k : ∀ ρ' H' v, Ex K ρ H ρ' H' → Rh K G ρ' H' h' → Rv K ρ' H' v d2 → Q v H') : rSlAll K x lo hi H (FQ Q) := by
  unfold opSlF at e
  split at e
  · cases e
    obtain ⟨a, vs, rfl, t, r⟩ := rx.sqT
    refine .inl ⟨a, vs, rfl, t, fun ⟨z1, z2⟩ => ?_, fun _ => new_tup hr (r.cut lo hi) (FQ.k k)⟩
    rw [r.length] at z1 z2
    rw [whole_cut z1 z2] at k
    exact .inl (k _ _ _ Ex.refl hr rx)
  · split at e
    · cases e; cases rx
      exact .inr (.inr ⟨_, rfl, by assumption, .inl (k _ _ _ Ex.refl hr (.str _))⟩)
    · cases e
  · cases e
    cases rx with
    | fls t r => exact .inr (.inl ⟨_, _, rfl, t.sq, new_fls hr (r.cut _ _) k⟩)
  · cases rx with
    | ref ra =>
      split at e
      · rename_i ds e0
        cases e
        obtain ⟨vs, q, r⟩ := ref_seq hr ra e0
        exact .inr (.inl ⟨_, vs, rfl, q, new_fls hr (r.cut _ _) k⟩)
      · cases e
  · cases e
theorem se_slF (ha : PE X a (tM X.K G W m)) (hl : PO X lo (tG X.K G relO W (evO ml))) (hh : PO X hi (tG X.K G relO W (evO mh))) : PE X (.Subscript a (.Slice lo hi none p2) pos) (tM X.K G W (eSlF m ml mh)) :=
  pe_F (pe_slice (sl_tupA.or (sl_list.or sl_str)) ha hl hh) fun σ H Q t => by
    obtain ⟨ρ, h, env, hr, he, p⟩ := t
    refine tG_mono (tG_bind (rel := relV X.K) hr he p) fun x H1 ⟨ρ1, h1, d, e1, hr1, he1, r1, p1⟩ => ?_
    refine tG_mono (tG_bind (rel := relO) hr1 he1 p1) fun l H2 ⟨ρ2, h2, d2, e2, hr2, he2, r2, p2⟩ => ?_
    refine tG_mono (tG_bind (rel := relO) hr2 he2 p2) fun u H3 ⟨ρ3, h3, d3, e3, hr3, he3, r3, p3⟩ => ?_
    subst r2 r3
    obtain ⟨d4, h4, eq, k⟩ := p3.opt
    exact im_slF hr3 ((r1.mono e2).mono e3) eq k
-- a[::-1]
def opRevF : D → Hh → Option (D × Hh)
  | .fls ds, h => some (.fls ds.reverse, h)
  | .ref n, h => match h[n]? with
    | some (.lst ds) => some (.fls ds.reverse, h)
    | _ => none
  | _, _ => none
theorem se_revF {k : Nat} (ha : PE X a (tM X.K G W m)) : PE X (.Subscript a (.Slice none none (some (.UnaryOp .USub (.Constant (.int 1) k p1) p2)) p3) pos) (tM X.K G W (eU opRevF m)) := pe_F (pe_revL ha) fun σ H Q t => by
  refine un_impF (r := fun x H1 Q => ∃ a xs, x = .ref a ∧ SqL X.K H1 a xs ∧ ∀ p, H1 p = none → Q (.ref p) (upd H1 p (.lst xs.reverse))) (fun {ρ H h x dx d h' Q} hr rx e k => ?_) σ H Q t
  unfold opRevF at e
  split at e
  · cases e
    cases rx with
    | fls t r => exact ⟨_, _, rfl, t.sq, new_fls hr r.reverse k⟩
  · cases rx with
    | ref ra =>
      split at e
      · rename_i ds e0
        cases e
        obtain ⟨vs, q, r⟩ := ref_seq hr ra e0
        exact ⟨_, vs, rfl, q, new_fls hr r.reverse k⟩
      · cases e
  · cases e
-- list(a)
def opListF : List D → Hh → Option (D × Hh)
  | [.tup ds], h => some (.fls ds, h)
  | [.fls ds], h => some (.fls ds, h)
  | [.ref n], h => match h[n]? with
    | some (.lst ds) => some (.fls ds, h)
    | some (.dK kvs) => some (.fls (kvs.map fun kv => kD kv.1), h)
    | some (.dT kvs) => some (.fls (kvs.map fun kv => .tup (kv.1.map kD)), h)
    | _ => none
  | _, _ => none
theorem im_listF : ImpNF K G (rListAll K) opListF := fun {ρ H h xs ds d h' Q} hr rs e k => by
  unfold opListF at e
  split at e
  · cases e
    obtain ⟨v, rfl, r⟩ := rs.one
    obtain ⟨a, vs, rfl, t, q⟩ := r.sqT
    exact .inl ⟨a, vs, rfl, .inr t, new_fls hr q k⟩
  · cases e
    obtain ⟨v, rfl, r⟩ := rs.one
    cases r with
    | fls t q => exact .inl ⟨_, _, rfl, .inl t.sq, new_fls hr q k⟩
  · obtain ⟨v, rfl, r⟩ := rs.one
    cases r with
    | ref ra =>
      split at e
      · rename_i e0
        cases e
        obtain ⟨vs, q, r⟩ := ref_seq hr ra e0
        exact .inl ⟨_, vs, rfl, .inl q, new_fls hr r k⟩
      · rename_i e0
        cases e
        have z := hr.at_ ra e0
        cases z with
        | dK q r => exact .inr (.inl ⟨_, _, rfl, q, new_fls hr (rvs_keys r) k⟩)
      · rename_i e0
        cases e
        have z := hr.at_ ra e0
        cases z with
        | dT q r => exact .inr (.inr ⟨_, _, rfl, .inl q, fun p bs n hb => new_fls hr (rvs_keysT r hb) k p n⟩)
      · cases e
  · cases e
-- sorted(a), numbers
def opSortedF : List D → Hh → Option (D × Hh)
  | [.fls ds], h => match intsOf ds with
    | some ns => some (.fls ((sortI ns).map D.int), h)
    | none => none
  | [.ref n], h => match h[n]? with
    | some (.lst ds) => match intsOf ds with
      | some ns => some (.fls ((sortI ns).map D.int), h)
      | none => none
    | _ => none
  | _, _ => none
theorem im_sortedF : ImpNF K G (rSortedI K) opSortedF := fun {ρ H h xs ds d h' Q} hr rs e k => by
  unfold opSortedF at e
  split at e
  · obtain ⟨v, rfl, r⟩ := rs.one
    cases r with
    | fls t r =>
      split at e
      · rename_i ns e1
        cases e
        have z := intsOf_eq e1
        subst z
        have y := r.ints
        subst y
        refine ⟨_, ns, rfl, t.sq, fun ns' p hp hs hn => ?_⟩
        rw [sortI_eq hp hs]
        exact new_fls hr (Rvs.of_ints _) k p hn
      · cases e
  · obtain ⟨v, rfl, r⟩ := rs.one
    cases r with
    | ref ra =>
      split at e
      · rename_i e0
        split at e
        · rename_i ns e1
          cases e
          have z := intsOf_eq e1
          subst z
          obtain ⟨vs, q, r⟩ := ref_seq hr ra e0
          have y := r.ints
          subst y
          refine ⟨_, ns, rfl, q, fun ns' p hp hs hn => ?_⟩
          rw [sortI_eq hp hs]
          exact new_fls hr (Rvs.of_ints _) k p hn
        · cases e
      · cases e
  · cases e
theorem se_callBF {r : List V → Hp → VK → Prop} {f : List D → Hh → Option (D × Hh)} (hc : CallR X (.builtin id) r) (i : ImpNF X.K G r f) (hg : Gl X x) (hm : X.mg x = none) (hv : bootBuiltins x = some (.builtin id)) (ha : PA X (e :: es) (tL X.K G W (evs ms))) (hn : x ≠ "__name__" := by decide) (hdb : (x == ("__debug__" : Str)) = false := by decide)
    (he : starEach (e :: es) X.env = (false, eval e X.env) :: starEach es X.env := by rfl) (hpl : (backTo pos (starEach es X.env)).any (·.1) = false := by rfl) : PE X (.Call (.Name x p) (e :: es) [] pos) (tM X.K G W (eN f ms)) :=
  pe_F (pe_callB hc hg hm hv ha hn hdb he hpl) fun σ H Q t => nary_impF i σ H Q t
theorem se_callTyF {r : List V → Hp → VK → Prop} {f : List D → Hh → Option (D × Hh)} (hc : CallR X (.type T) r) (i : ImpNF X.K G r f) (hg : Gl X x) (hm : X.mg x = none) (hv : bootBuiltins x = some (.type T)) (ha : PA X (e :: es) (tL X.K G W (evs ms))) (hn : x ≠ "__name__" := by decide) (hdb : (x == ("__debug__" : Str)) = false := by decide)
    (he : starEach (e :: es) X.env = (false, eval e X.env) :: starEach es X.env := by rfl) (hpl : (backTo pos (starEach es X.env)).any (·.1) = false := by rfl) : PE X (.Call (.Name x p) (e :: es) [] pos) (tM X.K G W (eN f ms)) :=
  pe_F (pe_callTy hc hg hm hv ha hn hdb he hpl) fun σ H Q t => nary_impF i σ H Q t
-- split
def opSplitF : D → D → Hh → Option (D × Hh)
  | .str a, .str b, h => if (b.length == 0) = false ∧ a.length + 2 ≤ sizeLine then some (.fls ((Txt.split a b).map D.str), h) else none
  | _, _, _ => none
theorem m1_impF {r : V → List V → Hp → VK → Prop} {f : D → D → Hh → Option (D × Hh)} (i : ∀ {ρ : List Addr} {H : Hp} {h : Hh} {x y : V} {dx dy d : D} {h' : Hh} {Q : VK}, Rh X.K G ρ H h → Rv X.K ρ H x dx → Rv X.K ρ H y dy → f dx dy h = some (d, h') →
  (∀ ρ' H' v, Ex X.K ρ H ρ' H' → Rh X.K G ρ' H' h' → Rv X.K ρ' H' v d → Q v H') → r x [y] H (FQ Q)) (σ : L2.St) (H : Hp) (Q : VK) (t : tM X.K G W (eM1 f mo me) σ H Q) : tM1 r (tM X.K G W mo) (tM X.K G W me) σ H (FQ Q) := by
  obtain ⟨ρ, h, env, hr, he, p⟩ := t
  refine tG_mono (tG_bind (rel := relV X.K) hr he p) fun x H1 ⟨ρ1, h1, d, e1, hr1, he1, r1, p1⟩ => ?_
  cases d with
  | str a =>
    cases r1
    refine ⟨⟨a, rfl⟩, tG_mono (tG_bind (rel := relV X.K) hr1 he1 p1) fun y H2 ⟨ρ2, h2, d2, e2, hr2, he2, r2, p2⟩ => ?_⟩
    obtain ⟨d3, h3, eq, k⟩ := p2.opt
    exact i hr2 (.str a) r2 eq k
  | _ => exact p1.elim
theorem se_splitF {apos : Pos} (ho : PE X o (tM X.K G W mo)) (he : PE X e (tM X.K G W me)) (hs : starEach [e] X.env = [(false, eval e X.env)] := by rfl) (hbase : attributeBase o "split" X.env (eval o X.env) = eval o X.env := by rfl) (hline : (apos.endLine == pos.line) = true := by rfl) :
    PE X (.Call (.Attribute o "split" apos) [e] [] pos) (tM X.K G W (eM1 opSplitF mo me)) := pe_F (pe_split ho he hs hbase hline) fun σ H Q t => m1_impF (fun {ρ H h x y dx dy d h' Q} hr rx ry e k => by
  cases rx <;> cases ry <;> simp only [opSplitF] at e <;> first | (cases e; done) | skip
  split at e
  · rename_i a b hab
    cases e
    exact ⟨a, b, rfl, rfl, hab.1, hab.2, new_fls hr (Rvs.of_strs _) k⟩
  · cases e) σ H Q t
end
def eLstXF (ms : List (List D → M)) (fs : List D) : M := eLstF (ms.map fun m => m fs)
theorem xe_lstF {X : Cx} {C : XCt} {es : List Expr} {pos : Pos} {ms : List (List D → M)} (ha : PA X es (tXL X.K G C (evsX ms))) (hl : ms.length ≤ sizeLine := by decide) : PE X (.List es pos) (tXM X.K G C (eLstXF ms)) := pe_F (pe_lst ha) fun σ H Q ⟨fs, ρ, h, env, hσ, rx, hr, hE, p⟩ => by
  refine ⟨fs, ρ, h, env, hσ, rx, hr, hE, ?_⟩
  unfold eLstXF eLstF at p
  cases q : evs (ms.map fun m => m fs) env h with
  | bad => unfold evsX; rw [q] at p ⊢; exact p
  | exc c' fs' h' => unfold evsX; rw [q] at p ⊢; exact p
  | ok ds h1 =>
    unfold evsX
    rw [q] at p ⊢
    simp only [R.bind_ok] at p
    intro ρ1 H1 vs e1 hr1 rvs
    exact ⟨by rw [rvs.length, evs_len q, List.length_map]; exact hl, new_fls hr1 rvs (p.shift e1)⟩
noncomputable def eFzX (m : List D → M) : List D → M := fun fs => eFz (m fs)
theorem xe_fz {X : Cx} {C : XCt} {e : Expr} {m : List D → M} (he : PE X e (tXM X.K G C m)) : PE X e (tXM X.K G C (eFzX m)) := peImp (pe_frz he) fun σ H Q ⟨fs, ρ, h, env, hσ, rx, hr, hE, p⟩ => ⟨fs, ρ, h, env, hσ, rx, hr, hE, Po.fz hr p⟩
/-! ### a call leaves nothing new behind -/
open Classical in
noncomputable def trR (h : Hh) (r : R D) : R D := match r with
  | .ok d h1 => if lo h.length d = true ∧ Kq h.length h (h1.take h.length) then .ok d (h1.take h.length) else .ok d h1
  | .exc c fs h1 => if los h.length fs = true ∧ Kq h.length h (h1.take h.length) then .exc c fs (h1.take h.length) else .exc c fs h1
  | .bad => .bad
theorem Ex.back (e : Ex K ρ H ρ' H') : Ex K ρ H ρ H' := ⟨fun _ _ h => h, e.tup, e.frz, e.xds⟩
theorem Ex.isTake (e : Ex K ρ H ρ' H') : ρ'.take ρ.length = ρ := by
  apply List.ext_getElem?
  intro i
  rw [List.getElem?_take]
  split
  · rename_i hi
    have := e.pre i ρ[i] (List.getElem?_eq_getElem hi)
    rw [this, List.getElem?_eq_getElem hi]
  · rw [List.getElem?_eq_none (by omega)]
theorem Po.trunc {r : R D} {Q : VK} (hr : Rh K G ρ H h) (p : Po K G (relV K) W ρ H σ (trR h r) Q) : Po K G (relV K) W ρ H σ r Q := by
  cases r with
  | bad => exact p
  | ok d h1 =>
    unfold trR at p
    dsimp only at p
    split at p
    · rename_i hl
      intro ρ' H' v e rh rv
      have et := e.isTake
      rw [hr.len] at et
      have hp : ∀ (m : Nat) (b : Addr), m < h.length → ρ'[m]? = some b → ρ[m]? = some b := fun m b hm z => by rw [← et, List.getElem?_take, if_pos hm]; exact z
      have r2 := rh.take (n := h.length) (hr.kq (Nat.le_refl _) hl.2)
      rw [et] at r2
      exact p ρ H' v e.back r2 (rv.cutR hp hl.1)
    · exact p
  | exc c fs h1 =>
    unfold trR at p
    dsimp only at p
    split at p
    · rename_i hl
      intro ρ' H' v e rh rv
      have et := e.isTake
      rw [hr.len] at et
      have hp : ∀ (m : Nat) (b : Addr), m < h.length → ρ'[m]? = some b → ρ[m]? = some b := fun m b hm z => by rw [← et, List.getElem?_take, if_pos hm]; exact z
      have r2 := rh.take (n := h.length) (hr.kq (Nat.le_refl _) hl.2)
      rw [et] at r2
      refine p ρ H' v e.back r2 ?_
      obtain ⟨x, vfs, h1, h2, h3, h4⟩ := rv
      refine ⟨x, vfs, h1, h2, h3, fun i f hf => ?_⟩
      obtain ⟨v, y, k1, k2, k3⟩ := h4 i f hf
      refine ⟨v, y, k1, k2, k3.cutR hp ?_⟩
      have : ∀ {fs : List D} {i : Nat} {y : D}, los h.length fs = true → fs[i]? = some y → lo h.length y = true := by
        intro fs
        induction fs with
        | nil => intro i y _ z; simp at z
        | cons d ds ih =>
          intro i y l z
          simp only [los, Bool.and_eq_true] at l
          cases i with
          | zero => simp at z; subst z; exact l.1
          | succ i => exact ih l.2 (by simpa using z)
      exact this hl.1 k2
    · exact p
noncomputable def fnT (n : Nat) (body : S) : Fm := fun ds h => trR h (fnM n body ds h)
end
section
variable {P : Program} {w : World} {K : PySem.W.Frag} {mg : Str → Option Value} {base : Heap} {G : Cl}
theorem spT_imp {np n : Nat} {body : S} {vs : List V} {H : Hp} {Q : VK} {E : XK} (t : spM K G np (fnT n body) vs H Q E) : spM K G np (fnM n body) vs H Q E := by
  obtain ⟨ρ, h, ds, rh, rs, l, p⟩ := t
  exact ⟨ρ, h, ds, rh, rs, l, Po.trunc rh p⟩
theorem fn_okT {x qual : Str} {st : Stmt} {f : Addr} {fd : FuncData} {N ps : List Str} {k n np : Nat} {body : S} (hn : N.length = n) (hp : ps.length = np) (F : Fun K x qual st f fd) (S : FnScope N ps (defScope st))
    (hb : ∀ (cdv : Value) (A : Around) (outer : List Env) (s : Shared) (H : Hp) (E : XK), Ct (cxOf (L2.CX P w) P w K mg base N qual (defScope st) f cdv A outer s H E) (fun c d _ H => E c d H) k →
      PSs (cxOf (L2.CX P w) P w K mg base N qual (defScope st) f cdv A outer s H E) (defBody st) (tS K G (fun c d _ H => E c d H) body)) : FnOk P w K mg base (L2.CX P w) (k + 1) f fd ps (spM K G np (fnT n body)) := by
  have q := fn_ok hn hp F S hb
  exact ⟨fun vs H Q E t => q.len vs H Q E (spT_imp t), fun A outer s H args us vs Q E h1 h2 h3 h4 h5 => q.run A outer s H args us vs Q E h1 h2 h3 h4 (spT_imp h5)⟩
end
end Sm
/-! SmR: running the mirrors of SmFz; texts as lists of numbers; loops that look for something. -/
namespace Sm
open PySem L2 PyProof.Rows
section
variable (env : Ev) (h g : Hh) (f : D → D → Hh → Option (D × Hh)) (m mo me a b : M) (d e : D) (ds xs ys : List D) (ms : List M) (mx : List (List D → M)) (i j k n : Nat) (s1 : S) (o o1 o2 : O) (p q : Int) (x y : Str) (l u : Option Int) (lm um : Option M)
-- a call
@[simp] theorem fnT_eq : fnT n s1 ds h = trR h (fnEnd (s1 (ds.map some ++ List.replicate (n - ds.length) none) h)) := by
  unfold fnT
  rw [fnM_eq]
@[simp] theorem Kq_self : Kq n h h := fun i o e => .inl e
@[simp] theorem trR_bad : trR h .bad = .bad := rfl
theorem trR_ok0 : trR h (.ok d h) = .ok d h := by
  unfold trR
  simp
theorem trR_app : trR h (.ok d (h ++ g)) = if lo h.length d = true then .ok d h else .ok d (h ++ g) := by
  unfold trR
  simp
theorem trR_exc0 : trR h (.exc k ds h) = .exc k ds h := by
  unfold trR
  simp
theorem trR_excA : trR h (.exc k ds (h ++ g)) = if los h.length ds = true then .exc k ds h else .exc k ds (h ++ g) := by
  unfold trR
  simp
@[simp] theorem lo_non : lo n .non = true := rfl
@[simp] theorem lo_bl (c : Bool) : lo n (.bl c) = true := rfl
@[simp] theorem lo_int : lo n (.int p) = true := rfl
@[simp] theorem lo_str : lo n (.str x) = true := rfl
@[simp] theorem lo_tup : lo n (.tup ds) = los n ds := by simp [lo]
@[simp] theorem lo_fls : lo n (.fls ds) = los n ds := by simp [lo]
@[simp] theorem lo_ref : lo n (.ref k) = decide (k < n) := by simp [lo]
@[simp] theorem los_nil : los n [] = true := rfl
@[simp] theorem los_cons : los n (d :: ds) = (lo n d && los n ds) := by simp [los]
theorem los_all : los n ds = ds.all (lo n) := by induction ds with
  | nil => rfl
  | cons d ds ih => simp [ih]
@[simp] theorem los_app : los n (xs ++ ys) = (los n xs && los n ys) := by simp [los_all]
@[simp] theorem los_ints (ns : List Int) : los n (ns.map D.int) = true := by simp [los_all]
@[simp] theorem los_strs (ns : List Str) : los n (ns.map D.str) = true := by simp [los_all]
theorem lo_flat {d : D} (hd : lo 0 d = true) : lo n d = true := lo_mono (Nat.zero_le _) hd
theorem los_flat {ds : List D} (hd : los 0 ds = true) : los n ds = true := los_mono (Nat.zero_le _) hd
-- a list frozen
@[simp] theorem eFz_eq : eFz m env h = fz1 h (m env h) := rfl
@[simp] theorem fz1_bad : fz1 h .bad = .bad := rfl
@[simp] theorem fz1_exc : fz1 h (.exc k ds g) = .exc k ds g := rfl
@[simp] theorem fz1_int : fz1 h (.ok (.int p) g) = .ok (.int p) g := rfl
@[simp] theorem fz1_str : fz1 h (.ok (.str x) g) = .ok (.str x) g := rfl
@[simp] theorem fz1_tup : fz1 h (.ok (.tup ds) g) = .ok (.tup ds) g := rfl
@[simp] theorem fz1_fls : fz1 h (.ok (.fls ds) g) = .ok (.fls ds) g := rfl
@[simp] theorem fz1_non : fz1 h (.ok .non g) = .ok .non g := rfl
@[simp] theorem fz1_bl (c : Bool) : fz1 h (.ok (.bl c) g) = .ok (.bl c) g := rfl
@[simp] theorem fz1_new : fz1 h (.ok (.ref h.length) (h ++ [.lst ds])) = if los h.length ds = true then .ok (.fls ds) h else .ok (.fls ds) (h ++ [.dead]) := by
  unfold fz1
  simp
@[simp] theorem fz1_new1 : fz1 (h ++ [o]) (.ok (.ref (h.length + 1)) (h ++ [o, .lst ds])) = if los (h.length + 1) ds = true then .ok (.fls ds) (h ++ [o]) else .ok (.fls ds) (h ++ [o, .dead]) := by
  have e1 : (h ++ [o, .lst ds])[h.length + 1]? = some (.lst ds) := by simp
  have e2 : (h ++ [o, .lst ds]).take (h.length + 1) = h ++ [o] := by
    rw [List.take_append, List.take_of_length_le (by omega)]
    simp
  have e3 : (h ++ [o, .lst ds]).set (h.length + 1) .dead = h ++ [o, .dead] := by
    rw [List.set_append_right _ _ (by omega)]
    simp
  unfold fz1
  simp [e1, e2, e3]
theorem fz1_old {n : Nat} (e : h[n]? = some (.lst ds)) : fz1 h (.ok (.ref n) h) = .ok (.fls ds) (h.set n .dead) := by
  have hn := (List.getElem?_eq_some_iff.mp e).1
  unfold fz1
  dsimp only
  rw [e]
  dsimp only
  rw [if_neg (by omega)]
theorem fz1_oldA (k : Hh) {n : Nat} (e : (h ++ g)[n]? = some (.lst ds)) : fz1 (h ++ g) (.ok (.ref n) (h ++ g)) = .ok (.fls ds) ((h ++ g).set n .dead) := fz1_old _ _ e
def eLstF1 (r : R (List D)) : R D := r.bind fun ds h1 => .ok (.fls ds) h1
@[simp] theorem eLstF_eq : eLstF ms env h = eLstF1 (evs ms env h) := rfl
@[simp] theorem eLstF1_ok : eLstF1 (.ok ds h) = .ok (.fls ds) h := rfl
@[simp] theorem rexc_eLstF1 : eLstF1 (.exc k ds h) = .exc k ds h := rfl
@[simp] theorem eLstXF_eq (fs : List D) : eLstXF mx fs = eLstF (mx.map fun m => m fs) := rfl
@[simp] theorem eFd_eq (fs : List D) : eFd k fs env h = match fs[k]? with
  | some d => .ok d h
  | none => .bad := rfl
def eSlF1 (lo hi : Option M) (env : Ev) (r : R D) : R D := r.bind fun d h1 => (evO lo env h1).bind fun l h2 => (evO hi env h2).bind fun u h3 => R.opt (opSlF d l u h3)
def eSlF2 (hi : Option M) (env : Ev) (d : D) (r : R (Option Int)) : R D := r.bind fun l h2 => (evO hi env h2).bind fun u h3 => R.opt (opSlF d l u h3)
def eSlF3 (d : D) (l : Option Int) (r : R (Option Int)) : R D := r.bind fun u h3 => R.opt (opSlF d l u h3)
@[simp] theorem eSlF_eq : eSlF m lm um env h = eSlF1 lm um env (m env h) := rfl
@[simp] theorem eSlF1_ok : eSlF1 lm um env (.ok d h) = eSlF2 um env d (evO lm env h) := rfl
@[simp] theorem eSlF2_ok : eSlF2 um env d (.ok l h) = eSlF3 d l (evO um env h) := rfl
@[simp] theorem eSlF3_ok : eSlF3 d l (.ok u h) = R.opt (opSlF d l u h) := rfl
@[simp] theorem opSlF_t : opSlF (.tup xs) l u h = some (.tup (cutD xs l u), h) := rfl
@[simp] theorem opSlF_f : opSlF (.fls xs) l u h = some (.fls (cutD xs l u), h) := rfl
@[simp] theorem opSlF_s : opSlF (.str x) l u h = if x.length ≤ sizeLine then some (.str (cutS x l u), h) else none := rfl
@[simp] theorem opSlF_r : opSlF (.ref n) l u h = match h[n]? with
    | some (.lst ds) => some (.fls (cutD ds l u), h)
    | _ => none := rfl
@[simp] theorem opAddF_ff : opAddF (.fls xs) (.fls ys) h = if xs.length + ys.length ≤ sizeLine then some (.fls (xs ++ ys), h) else none := rfl
@[simp] theorem opAddF_fr : opAddF (.fls xs) (.ref n) h = match h[n]? with
    | some (.lst ys) => if xs.length + ys.length ≤ sizeLine then some (.fls (xs ++ ys), h) else none
    | _ => none := rfl
@[simp] theorem opAddF_rf : opAddF (.ref n) (.fls ys) h = match h[n]? with
    | some (.lst xs) => if xs.length + ys.length ≤ sizeLine then some (.fls (xs ++ ys), h) else none
    | _ => none := rfl
@[simp] theorem opAddF_rr : opAddF (.ref n) (.ref k) h = match h[n]?, h[k]? with
    | some (.lst xs), some (.lst ys) => if xs.length + ys.length ≤ sizeLine then some (.fls (xs ++ ys), h) else none
    | _, _ => none := rfl
@[simp] theorem opAddF_ii : opAddF (.int p) (.int q) h = some (.int (p + q), h) := rfl
@[simp] theorem opAddF_ib (c : Bool) : opAddF (.int p) (.bl c) h = some (.int (p + b2i c), h) := rfl
@[simp] theorem opAddF_ss : opAddF (.str x) (.str y) h = if x.length + y.length ≤ sizeLine then some (.str (x ++ y), h) else none := rfl
@[simp] theorem opAddF_tt : opAddF (.tup xs) (.tup ys) h = if xs.length + ys.length ≤ sizeLine then some (.tup (xs ++ ys), h) else none := rfl
@[simp] theorem opRevF_f : opRevF (.fls xs) h = some (.fls xs.reverse, h) := rfl
@[simp] theorem opRevF_r : opRevF (.ref n) h = match h[n]? with
    | some (.lst ds) => some (.fls ds.reverse, h)
    | _ => none := rfl
@[simp] theorem opListF_t : opListF [.tup xs] h = some (.fls xs, h) := rfl
@[simp] theorem opListF_f : opListF [.fls xs] h = some (.fls xs, h) := rfl
@[simp] theorem opListF_r : opListF [.ref n] h = match h[n]? with
    | some (.lst ds) => some (.fls ds, h)
    | some (.dK kvs) => some (.fls (kvs.map fun kv => kD kv.1), h)
    | some (.dT kvs) => some (.fls (kvs.map fun kv => .tup (kv.1.map kD)), h)
    | _ => none := rfl
@[simp] theorem opSplitF_ss : opSplitF (.str x) (.str y) h = if (y.length == 0) = false ∧ x.length + 2 ≤ sizeLine then some (.fls ((Txt.split x y).map D.str), h) else none := rfl
@[simp] theorem opAll_f : opAll [.fls xs] h = (bools xs).map fun bs => (.bl (bs.all id), h) := rfl
@[simp] theorem opAny_f : opAny [.fls xs] h = (bools xs).map fun bs => (.bl (bs.any id), h) := rfl
@[simp] theorem opSum_f : opSum [.fls xs] h = (intsOf xs).map fun ns => (.int ns.sum, h) := rfl
end
@[simp] theorem isT_eq (u t : Ty) : isT u t = (decide (u = t) || (decide (u = .bool) && decide (t = .int))) := by cases u <;> cases t <;> rfl
/-! ### texts -/
def tx (l : List Nat) : Str := ⟨l.toArray⟩
section
variable (l l' : List Nat) (c : Nat) (h : Hh) (z : Str)
@[simp] theorem tx_list : (tx l).cps.toList = l := by simp [tx]
@[simp] theorem tx_len : (tx l).length = l.length := by simp [tx, Str.length]
@[simp] theorem tx_app : tx l ++ tx l' = tx (l ++ l') := by
  show Str.append _ _ = _
  simp [Str.append, tx]
@[simp] theorem tx_inj : (tx l = tx l') ↔ l = l' := ⟨fun e => by simpa using congrArg (fun z : Str => z.cps.toList) e, fun e => by rw [e]⟩
theorem tx_of : z = tx z.cps.toList := by
  cases z with
  | mk cps => simp [tx]
@[simp] theorem one_tx : (⟨#[c]⟩ : Str) = tx [c] := rfl
@[simp] theorem signs_tx : signs (tx l) = l.map fun c => D.str (tx [c]) := by
  unfold signs
  rw [tx_list]
  rfl
/-- the sign is in the text -/
def inS (c : Nat) (z : Str) : Bool := decide (c ∈ z.cps.toList)
@[simp] theorem opIn_tx : opIn (.str (tx [c])) (.str z) h = some (.bl (inS c z), h) := by simp [opIn, opInB, inS]
@[simp] theorem opNin_tx : opNin (.str (tx [c])) (.str z) h = some (.bl (!inS c z), h) := by simp [opNin, opInB, inS]
theorem join_flat : ∀ ls : List (List Nat), Txt.join (tx []) (ls.map tx) = tx ls.flatten := fun ls => by
  show Builtin.Str.glued _ _ = _
  rw [StrLaws.glued_eq_join]
  induction ls with
  | nil => rfl
  | cons l ls ih =>
    cases ls with
    | nil => simp [Str.join]
    | cons l2 ls =>
      rw [List.map_cons, List.map_cons, Str.join, ← List.map_cons, ih]
      · simp
      · simp
/-- cut at a sign -/
def spl (c : Nat) : List Nat → List (List Nat)
  | [] => [[]]
  | x :: t => if x = c then [] :: spl c t else match spl c t with
    | [] => [[x]]
    | p :: ps => (x :: p) :: ps
theorem spl_ne : ∀ t, spl c t ≠ []
  | [] => by simp [spl]
  | x :: t => by
    unfold spl
    split
    · simp
    · split <;> simp
theorem spl_free {p : List Nat} (hp : c ∉ p) : ∀ t, spl c (p ++ t) = match spl c t with
    | [] => [p]
    | q :: qs => (p ++ q) :: qs := by
  induction p with
  | nil =>
    intro t
    cases e : spl c t with
    | nil => exact absurd e (spl_ne c t)
    | cons q qs => simp [e]
  | cons x p ih =>
    intro t
    have h1 : x ≠ c := fun e => hp (by simp [e])
    have h2 : c ∉ p := fun e => hp (by simp [e])
    rw [List.cons_append]
    simp only [spl, if_neg h1, ih h2 t]
    cases e : spl c t with
    | nil => exact absurd e (spl_ne c t)
    | cons q qs => simp
/-- parts put together again -/
def cat (c : Nat) : List (List Nat) → List Nat
  | [] => []
  | [p] => p
  | p :: ps => p ++ c :: cat c ps
theorem spl_cat : ∀ ps : List (List Nat), ps ≠ [] → (∀ p ∈ ps, c ∉ p) → spl c (cat c ps) = ps
  | [], h, _ => absurd rfl h
  | [p], _, h => by
    have := spl_free c (h p (by simp)) []
    simpa [cat, spl] using this
  | p :: q :: ps, _, h => by
    have h1 := spl_free c (h p (by simp)) (c :: cat c (q :: ps))
    have h2 := spl_cat (q :: ps) (by simp) (fun x hx => h x (by simp [hx]))
    rw [cat, h1, spl, if_pos rfl, h2]
    · simp
    · simp
theorem cat_spl : ∀ t, cat c (spl c t) = t
  | [] => rfl
  | x :: t => by
    have ih := cat_spl t
    unfold spl
    split
    · rename_i e
      cases q : spl c t with
      | nil => exact absurd q (spl_ne c t)
      | cons p ps =>
        rw [q] at ih
        rw [cat, ih, e]
        · simp
        · simp
    · cases q : spl c t with
      | nil => exact absurd q (spl_ne c t)
      | cons p ps =>
        rw [q] at ih
        cases ps with
        | nil =>
          simp only [cat] at ih ⊢
          rw [ih]
        | cons p2 ps =>
          simp only [cat] at ih ⊢
          rw [List.cons_append, ih]
theorem spl_mem : ∀ t p, p ∈ spl c t → c ∉ p
  | [], p, h => by simp [spl] at h; simp [h]
  | x :: t, p, h => by
    have ih := spl_mem t
    unfold spl at h
    split at h
    · rcases List.mem_cons.mp h with rfl | h
      · simp
      · exact ih p h
    · rename_i ne
      cases q : spl c t with
      | nil => exact absurd q (spl_ne c t)
      | cons p0 ps =>
        rw [q] at h ih
        rcases List.mem_cons.mp h with rfl | h
        · have := ih p0 (by simp)
          simp only [List.mem_cons, not_or]
          exact ⟨fun e => ne e.symm, this⟩
        · exact ih p (by simp [h])
theorem join_cat : ∀ ps : List (List Nat), (Str.join (tx [c]) (ps.map tx)).cps.toList = cat c ps
  | [] => rfl
  | [p] => by simp [Str.join, cat]
  | p :: q :: ps => by
    have ih := join_cat (q :: ps)
    rw [List.map_cons] at ih
    rw [List.map_cons, List.map_cons, Str.join, cat, ← ih]
    · have e : ∀ a b : Str, (a ++ b).cps.toList = a.cps.toList ++ b.cps.toList := fun a b => by
        rw [tx_of a, tx_of b, tx_app, tx_list, tx_list, tx_list]
      rw [e, e]
      simp
    · simp
    · simp
theorem split_tx : Txt.split (tx l) (tx [c]) = (spl c l).map tx := by
  have h1 := StrLaws.join_split (tx l) (tx [c])
  have h2 : ∀ p ∈ Txt.split (tx l) (tx [c]), c ∉ p.cps.toList := StrLaws.split_free (tx l) c
  have hne : Txt.split (tx l) (tx [c]) ≠ [] := by
    unfold Txt.split
    split
    · simp
    · split
      · simp
      · rw [StrLaws.partsBetween_eq]
        obtain ⟨p, r, e⟩ := StrLaws.partsFrom_ne (tx l) (tx [c]).length 0 (Builtin.Str.occurrences (tx l) (tx [c]) 0 (tx l).length ((tx l).length + 1))
        rw [e]
        simp
  generalize Txt.split (tx l) (tx [c]) = ps at h1 h2 hne
  have h3 : ps = (ps.map fun p => p.cps.toList).map tx := by
    rw [List.map_map]
    conv => lhs; rw [← List.map_id ps]
    exact List.map_congr_left fun p _ => tx_of p
  by_cases h0 : ps = []
  · exact absurd h0 hne
  · have h4 := join_cat c (ps.map fun p => p.cps.toList)
    rw [← h3, h1, tx_list] at h4
    rw [h3, h4, spl_cat]
    · simpa using h0
    · intro p hp
      rw [List.mem_map] at hp
      obtain ⟨q, hq, rfl⟩ := hp
      exact h2 q hq
end
end Sm
/-! SmDraw: _law_draw, that many laws share -/
namespace SmDraw
open PySem L2 PyProof.Rows Sm SmPool
noncomputable def b__law_draw : S := (sSeq (sIf (tAndM (tBl (eB opEq (eB opIx (eV 0) (eC (.int 2))) (eC (.int 0)))) (tBl (eB opLt (eB opIx (eV 0) (eC (.int 1))) (eN opLen [(eB opIx (eV 0) (eC (.int 0)))])))) (sSeq (sSet 2 (eN opAbs [(eB opIx (eB opIx (eV 0) (eC (.int 0))) (eB opIx (eV 0) (eC (.int 1))))]))
    (sSeq (sSetIx (eV 0) (eC (.int 1)) (eB opAdd (eB opIx (eV 0) (eC (.int 1))) (eC (.int 1))))
    (sIf (tBl (eB opGe (eV 2) (eB opPow (eC (.int 10)) (eC (.int 18))))) (sSetIx (eV 0) (eC (.int 2)) (eV 2)) (sSetIx (eV 0) (eC (.int 3)) (eB opMod (eN opInt [(eB opAdd (eB opAdd (eB opMulA (eB opIx (eV 0) (eC (.int 3))) (eC (.int 48271))) (eB opMulA (eV 2) (eC (.int 69621)))) (eC (.int 12345)))]) (eC (.int 2147483647))))))) sSkip)
    (sSeq (sIf (tBl (eB opGt (eB opIx (eV 0) (eC (.int 2))) (eC (.int 0)))) (sSeq (sSet 3 (eB opMod (eN opInt [(eB opIx (eV 0) (eC (.int 2)))]) (eV 1)))
    (sSeq (sSetIx (eV 0) (eC (.int 2)) (eB opFdiv (eB opIx (eV 0) (eC (.int 2))) (eV 1)))
    (sRet (eV 3)))) sSkip)
    (sSeq (sSetIx (eV 0) (eC (.int 3)) (eB opMod (eN opInt [(eB opAdd (eB opMulA (eB opIx (eV 0) (eC (.int 3))) (eC (.int 48271))) (eC (.int 11)))]) (eC (.int 2147483647))))
    (sRet (eB opMod (eB opMod (eN opInt [(eB opAdd (eB opFdiv (eB opMulA (eB opIx (eV 0) (eC (.int 3))) (eB opIx (eV 0) (eC (.int 3)))) (eC (.int 65536))) (eB opIx (eV 0) (eC (.int 3))))]) (eC (.int 2147483629))) (eV 1))))))
noncomputable def m__law_draw : Fm := fnM 4 b__law_draw

/-- a source stands at p -/
def Sr (h : Hh) (p : Nat) : Prop := ∃ (ns : List Int) (i : Nat) (w s : Int), ns.length ≤ 63 ∧ i ≤ ns.length ∧ 0 ≤ w ∧ 0 ≤ s ∧ s < 2147483647 ∧ h[p]? = some (.lst [.fls (ns.map D.int), .int i, .int w, .int s])
theorem draw_x {h : Hh} {p : Nat} {m : Int} (a : Sr h p) (hm : 0 < m) (hm2 : m < 1073741824) : ∃ r h', 0 ≤ r ∧ r < m ∧ Sr h' p ∧ Xt p h h' ∧ h'.length = h.length ∧ m__law_draw [.ref p, .int m] h = .ok (.int r) h' := by
  obtain ⟨ns, i, w, sd, hl, hi, hw, hs0, hs1, e⟩ := a
  have h18 : (10 : Int) ^ 18 = 1000000000000000000 := by decide
  have hp : p < h.length := (List.getElem?_eq_some_iff.mp e).1
  have fs : ∀ o : O, (h.set p o)[p]? = some o := fun o => List.getElem?_set_self hp
  have t0 : ∀ a b c d : D, atI [a, b, c, d] 0 = some a := fun _ _ _ _ => rfl
  have t1 : ∀ a b c d : D, atI [a, b, c, d] 1 = some b := fun _ _ _ _ => rfl
  have t2 : ∀ a b c d : D, atI [a, b, c, d] 2 = some c := fun _ _ _ _ => rfl
  have t3 : ∀ a b c d : D, atI [a, b, c, d] 3 = some d := fun _ _ _ _ => rfl
  have n1 : ixN 4 1 = some 1 := rfl
  have n2 : ixN 4 2 = some 2 := rfl
  have n3 : ixN 4 3 = some 3 := rfl
  have m1 : mulOk sd 48271 = true := mulOk_r (by decide) (by decide)
  by_cases c1 : w = 0 ∧ i < ns.length
  · obtain ⟨rfl, c2⟩ := c1
    obtain ⟨x, hx⟩ : ∃ x, atI (ns.map D.int) (i : Int) = some (.int x) := ⟨ns[i], atI_nat (by simp [c2])⟩
    have c2' : (i : Int) < (ns.length : Int) := by omega
    generalize hX : (if x < 0 then -x else x) = X
    have hX0 : 0 ≤ X := by rw [← hX]; split <;> omega
    by_cases c3 : X ≥ 1000000000000000000
    · refine ⟨X % m, h.set p (.lst [.fls (ns.map D.int), .int ((i + 1 : Nat) : Int), .int (X / m), .int sd]), Int.emod_nonneg _ (by omega), Int.emod_lt_of_pos _ hm, ⟨ns, i + 1, X / m, sd, hl, by omega, Int.ediv_nonneg hX0 (by omega), hs0, hs1, fs _⟩, Xt.set, by simp, ?_⟩
      have c4 : 0 < X := by omega
      have c3' : (1000000000000000000 : Int) ≤ X := c3
      simp [m__law_draw, b__law_draw, e, t0, t1, t2, t3, n1, n2, n3, hx, c2, hX, h18, c3', c4, hm, hm2, fs]
    · have c3' : ¬ (1000000000000000000 : Int) ≤ X := c3
      have mx : mulOk X 69621 = true := mulOk_r (by decide) (by decide)
      generalize hS : (sd * 48271 + X * 69621 + 12345) % 2147483647 = S
      have mS : mulOk S 48271 = true := mulOk_r (by decide) (by decide)
      generalize hR : (S * 48271 + 11) % 2147483647 = R
      have hR0 : 0 ≤ R := by rw [← hR]; exact Int.emod_nonneg _ (by decide)
      have hR1 : R < 2147483647 := by rw [← hR]; exact Int.emod_lt_of_pos _ (by decide)
      have mR : mulOk R R = true := mulOk_r (by omega) (by omega)
      refine ⟨(R * R / 65536 + R) % 2147483629 % m, h.set p (.lst [.fls (ns.map D.int), .int ((i + 1 : Nat) : Int), .int 0, .int R]), Int.emod_nonneg _ (by omega), Int.emod_lt_of_pos _ hm, ⟨ns, i + 1, 0, R, hl, by omega, Int.le_refl _, hR0, hR1, fs _⟩, Xt.set, by simp, ?_⟩
      simp [m__law_draw, b__law_draw, e, t0, t1, t2, t3, n1, n2, n3, hx, c2, hX, h18, c3', hm, hm2, fs, m1, mx, hS, mS, hR, mR]
  · by_cases c5 : 0 < w
    · have c5' : ¬ w = 0 := by omega
      refine ⟨w % m, h.set p (.lst [.fls (ns.map D.int), .int (i : Int), .int (w / m), .int sd]), Int.emod_nonneg _ (by omega), Int.emod_lt_of_pos _ hm, ⟨ns, i, w / m, sd, hl, hi, Int.ediv_nonneg hw (by omega), hs0, hs1, fs _⟩, Xt.set, by simp, ?_⟩
      simp [m__law_draw, b__law_draw, e, t0, t1, t2, t3, n1, n2, n3, c5, c5', hm, hm2, fs]
    · have hw0 : w = 0 := by omega
      subst hw0
      have c6 : ¬ i < ns.length := fun z => c1 ⟨rfl, z⟩
      generalize hR : (sd * 48271 + 11) % 2147483647 = R
      have hR0 : 0 ≤ R := by rw [← hR]; exact Int.emod_nonneg _ (by decide)
      have hR1 : R < 2147483647 := by rw [← hR]; exact Int.emod_lt_of_pos _ (by decide)
      have mR : mulOk R R = true := mulOk_r (by omega) (by omega)
      refine ⟨(R * R / 65536 + R) % 2147483629 % m, h.set p (.lst [.fls (ns.map D.int), .int (i : Int), .int 0, .int R]), Int.emod_nonneg _ (by omega), Int.emod_lt_of_pos _ hm, ⟨ns, i, 0, R, hl, hi, Int.le_refl _, hR0, hR1, fs _⟩, Xt.set, by simp, ?_⟩
      simp [m__law_draw, b__law_draw, e, t0, t1, t2, t3, n1, n2, n3, c6, hm, hm2, fs, m1, hR, mR]
end SmDraw
/-! SmR2: loops that look for something, comprehensions, places, slices, equality, the drawing function at the heap's head. -/
namespace Sm
open PySem L2 PyProof.Rows
/-! ### loops -/
def isStop : SR → Bool
  | .rt _ _ => true
  | .exc _ _ _ _ => true
  | _ => false
section
variable {i : Nat} {body : S} {env : Ev} {h : Hh}
theorem forL_find (p : D → Bool) (r : D → SR) : ∀ (xs : List D) (env : Ev), (∀ x ∈ xs, body (env.set i (some x)) h = if p x = true then .nx (env.set i (some x)) h else r x) → (∀ x ∈ xs, p x = false → isStop (r x) = true) →
    (∀ x, xs.find? (fun x => !p x) = some x → forL (gtName i) body none xs env h = r x) ∧ (xs.find? (fun x => !p x) = none → ∃ e, forL (gtName i) body none xs env h = .nx (env.set i e) h)
  | [], env, _, _ => by
    refine ⟨fun x e => by simp at e, fun _ => ?_⟩
    rw [forL_nil (gd := none) trivial]
    by_cases hl : i < env.length
    · exact ⟨env[i], by rw [List.set_getElem_self]⟩
    · exact ⟨none, by rw [List.set_eq_of_length_le (by omega)]⟩
  | x :: xs, env, hb, hs => by
    have h1 := hb x (by simp)
    by_cases hp : p x = true
    · rw [if_pos hp] at h1
      have ih := forL_find p r xs (env.set i (some x)) (fun y hy => by rw [List.set_set]; exact hb y (by simp [hy])) (fun y hy => hs y (by simp [hy]))
      have e : forL (gtName i) body none (x :: xs) env h = forL (gtName i) body none xs (env.set i (some x)) h := forL_nx (gd := none) trivial rfl h1
      rw [e]
      simp only [List.find?_cons, hp, Bool.not_true]
      refine ⟨ih.1, fun z => ?_⟩
      obtain ⟨e, q⟩ := ih.2 z
      exact ⟨e, by rw [q, List.set_set]⟩
    · have hp' : p x = false := by simpa using hp
      rw [if_neg hp] at h1
      have e : forL (gtName i) body none (x :: xs) env h = r x := by
        have hstop := hs x (by simp) hp'
        unfold forL
        rw [if_pos (show gdOk none h from trivial)]
        show (match body (env.set i (some x)) h with
          | .nx e' h' => forL (gtName i) body none xs e' h'
          | .ct e' h' => forL (gtName i) body none xs e' h'
          | .bk e' h' => .nx e' h'
          | r => r) = r x
        rw [h1]
        cases q : r x with
        | rt d h' => rfl
        | exc c fs e' h' => rfl
        | nx e' h' => rw [q] at hstop; cases hstop
        | bk e' h' => rw [q] at hstop; cases hstop
        | ct e' h' => rw [q] at hstop; cases hstop
        | bad => rfl
      simp only [List.find?_cons, hp', Bool.not_false]
      exact ⟨fun y z => by cases z; exact e, fun z => by cases z⟩
theorem forL_all (p : D → Bool) (r : D) (xs : List D) (hb : ∀ x ∈ xs, body (env.set i (some x)) h = if p x = true then .nx (env.set i (some x)) h else .rt r h) :
    (xs.all p = true → ∃ e, forL (gtName i) body none xs env h = .nx (env.set i e) h) ∧ (xs.all p = false → forL (gtName i) body none xs env h = .rt r h) := by
  have q := forL_find (i := i) (body := body) (h := h) p (fun _ => .rt r h) xs env hb (fun _ _ _ => rfl)
  refine ⟨fun z => q.2 ?_, fun z => ?_⟩
  · rw [List.find?_eq_none]
    intro x hx
    have := List.all_eq_true.mp z x hx
    simp [this]
  · cases e : xs.find? (fun x => !p x) with
    | none =>
      rw [List.find?_eq_none] at e
      have : xs.all p = true := List.all_eq_true.mpr fun x hx => by simpa using e x hx
      rw [this] at z
      cases z
    | some x => exact q.1 x e
end
/-! ### while -/
section
variable {t : MT} {body : S} {n : Nat} {env e' : Ev} {h h1 h' : Hh} {c : Nat} {fs : List D} {d : D}
theorem whileF_f (h1 : t env h = .ok false h') : whileF t body (n + 1) env h = .nx env h' := by
  unfold whileF
  rw [h1]
  rfl
theorem whileF_t (e1 : t env h = .ok true h1) (e2 : body env h1 = .nx e' h') : whileF t body (n + 1) env h = whileF t body n e' h' := by
  rw [whileF, e1]
  show (match body env h1 with
    | .nx e' h' => whileF t body n e' h'
    | .ct e' h' => whileF t body n e' h'
    | .bk e' h' => .nx e' h'
    | r => r) = _
  rw [e2]
theorem whileF_x (e1 : t env h = .ok true h1) (e2 : body env h1 = .exc c fs e' h') : whileF t body (n + 1) env h = .exc c fs e' h' := by
  rw [whileF, e1]
  show (match body env h1 with
    | .nx e' h' => whileF t body n e' h'
    | .ct e' h' => whileF t body n e' h'
    | .bk e' h' => .nx e' h'
    | r => r) = _
  rw [e2]
theorem whileF_r (e1 : t env h = .ok true h1) (e2 : body env h1 = .rt d h') : whileF t body (n + 1) env h = .rt d h' := by
  rw [whileF, e1]
  show (match body env h1 with
    | .nx e' h' => whileF t body n e' h'
    | .ct e' h' => whileF t body n e' h'
    | .bk e' h' => .nx e' h'
    | r => r) = _
  rw [e2]
@[simp] theorem sWhile_eq (k : Nat) : sWhile k t body env h = whileF t body k env h := rfl
end
/-! ### comprehensions -/
theorem lcL_pf {g : TgM} {t : MT} {m : M} {vs : List Nat} {gd : Option (Nat × O)} {env : Ev} (h : Hh) (p : D → Bool) (f : D → D) (hg : ∀ acc, gdOk gd (h ++ [.lst acc])) : ∀ (xs acc : List D),
    (∀ x ∈ xs, ∀ acc, ∃ env1, g x (h ++ [.lst acc]) (wipeE env vs) = some env1 ∧ t env1 (h ++ [.lst acc]) = .ok (p x) (h ++ [.lst acc]) ∧ (p x = true → m env1 (h ++ [.lst acc]) = .ok (f x) (h ++ [.lst acc]))) →
    acc.length + xs.length ≤ sizeLine → lcL g t m vs h.length gd env xs (h ++ [.lst acc]) = .ok (.ref h.length) (h ++ [.lst (acc ++ (xs.filter p).map f)])
  | [], acc, _, _ => by
    unfold lcL
    rw [if_pos (hg acc)]
    simp
  | x :: xs, acc, hx, hl => by
    obtain ⟨env1, e1, e2, e3⟩ := hx x (by simp) acc
    rw [List.length_cons] at hl
    unfold lcL
    rw [if_pos (hg acc), e1]
    dsimp only
    rw [e2]
    cases hp : p x with
    | true =>
      dsimp only
      rw [e3 hp]
      simp only [hp_at1]
      rw [if_pos (by omega)]
      have := lcL_pf h p f hg xs (acc ++ [f x]) (fun y hy => hx y (by simp [hy])) (by simp; omega)
      simpa [hp] using this
    | false =>
      dsimp only
      have := lcL_pf h p f hg xs acc (fun y hy => hx y (by simp [hy])) (by omega)
      simpa [hp] using this
/-- a frozen comprehension that changes nothing -/
theorem fz_lc {i : Nat} {m : M} {env : Ev} {h : Hh} (f : D → D) (xs : List D) (hm : ∀ x ∈ xs, ∀ acc, m ((env.set i none).set i (some x)) (h ++ [.lst acc]) = .ok (f x) (h ++ [.lst acc])) (hl : xs.length ≤ sizeLine) (hlo : los h.length (xs.map f) = true) :
    fz1 h (lcL (gtName i) tYesM m [i] h.length none env xs (h ++ [.lst []])) = .ok (.fls (xs.map f)) h := by
  have := lcL_pure (g := gtName i) (t := tYesM) (m := m) (vs := [i]) (gd := none) (env := env) h f (fun _ => trivial) xs [] (fun x hx acc => ⟨_, rfl, rfl, by simpa using hm x hx acc⟩) (by simpa using hl)
  rw [this]
  simp [hlo]
theorem fz_lcf {i : Nat} {t : MT} {m : M} {env : Ev} {h : Hh} (p : D → Bool) (f : D → D) (xs : List D) (ht : ∀ x ∈ xs, ∀ acc, t ((env.set i none).set i (some x)) (h ++ [.lst acc]) = .ok (p x) (h ++ [.lst acc])) (hm : ∀ x ∈ xs, p x = true → ∀ acc, m ((env.set i none).set i (some x)) (h ++ [.lst acc]) = .ok (f x) (h ++ [.lst acc])) (hl : xs.length ≤ sizeLine) (hlo : los h.length ((xs.filter p).map f) = true) :
    fz1 h (lcL (gtName i) t m [i] h.length none env xs (h ++ [.lst []])) = .ok (.fls ((xs.filter p).map f)) h := by
  have := lcL_pf (g := gtName i) (t := t) (m := m) (vs := [i]) (gd := none) (env := env) h p f (fun _ => trivial) xs [] (fun x hx acc => ⟨_, rfl, by simpa using ht x hx acc, fun hp => by simpa using hm x hx hp acc⟩) (by simpa using hl)
  rw [this]
  simp [hlo]
/-! .. over things of a kind of its own -/
theorem fz_lcM {α : Type} {i : Nat} {m : M} {env : Ev} {h : Hh} (e f : α → D) (xs : List α) (hm : ∀ x ∈ xs, ∀ acc, m ((env.set i none).set i (some (e x))) (h ++ [.lst acc]) = .ok (f x) (h ++ [.lst acc])) (hl : xs.length ≤ sizeLine) (hlo : los h.length (xs.map f) = true) :
    fz1 h (lcL (gtName i) tYesM m [i] h.length none env (xs.map e) (h ++ [.lst []])) = .ok (.fls (xs.map f)) h := by
  have key : ∀ (xs : List α) (acc : List D), (∀ x ∈ xs, ∀ acc, m ((env.set i none).set i (some (e x))) (h ++ [.lst acc]) = .ok (f x) (h ++ [.lst acc])) → acc.length + xs.length ≤ sizeLine →
      lcL (gtName i) tYesM m [i] h.length none env (xs.map e) (h ++ [.lst acc]) = .ok (.ref h.length) (h ++ [.lst (acc ++ xs.map f)]) := by
    intro xs
    induction xs with
    | nil =>
      intro acc _ _
      unfold lcL
      simp [gdOk]
    | cons x xs ih =>
      intro acc hm hl
      rw [List.length_cons] at hl
      rw [List.map_cons]
      unfold lcL
      rw [if_pos (show gdOk none (h ++ [.lst acc]) from trivial)]
      simp only [gtName_eq, wipeE, tYesM_eq]
      rw [hm x (by simp) acc]
      simp only [hp_at1, hp_set1]
      rw [if_pos (by omega), ih _ (fun y hy => hm y (by simp [hy])) (by simp; omega)]
      simp
  rw [key xs [] hm (by simpa using hl)]
  simp [hlo]
theorem fz_lcfM {α : Type} {i : Nat} {t : MT} {m : M} {env : Ev} {h : Hh} (p : α → Bool) (e f : α → D) (xs : List α) (ht : ∀ x ∈ xs, ∀ acc, t ((env.set i none).set i (some (e x))) (h ++ [.lst acc]) = .ok (p x) (h ++ [.lst acc])) (hm : ∀ x ∈ xs, p x = true → ∀ acc, m ((env.set i none).set i (some (e x))) (h ++ [.lst acc]) = .ok (f x) (h ++ [.lst acc])) (hl : xs.length ≤ sizeLine) (hlo : los h.length ((xs.filter p).map f) = true) :
    fz1 h (lcL (gtName i) t m [i] h.length none env (xs.map e) (h ++ [.lst []])) = .ok (.fls ((xs.filter p).map f)) h := by
  have key : ∀ (xs : List α) (acc : List D), (∀ x ∈ xs, ∀ acc, t ((env.set i none).set i (some (e x))) (h ++ [.lst acc]) = .ok (p x) (h ++ [.lst acc])) → (∀ x ∈ xs, p x = true → ∀ acc, m ((env.set i none).set i (some (e x))) (h ++ [.lst acc]) = .ok (f x) (h ++ [.lst acc])) → acc.length + xs.length ≤ sizeLine →
      lcL (gtName i) t m [i] h.length none env (xs.map e) (h ++ [.lst acc]) = .ok (.ref h.length) (h ++ [.lst (acc ++ (xs.filter p).map f)]) := by
    intro xs
    induction xs with
    | nil =>
      intro acc _ _ _
      unfold lcL
      simp [gdOk]
    | cons x xs ih =>
      intro acc ht hm hl
      rw [List.length_cons] at hl
      rw [List.map_cons]
      unfold lcL
      rw [if_pos (show gdOk none (h ++ [.lst acc]) from trivial)]
      simp only [gtName_eq, wipeE]
      rw [ht x (by simp) acc]
      cases hp : p x with
      | true =>
        dsimp only
        rw [hm x (by simp) hp acc]
        simp only [hp_at1, hp_set1]
        rw [if_pos (by omega), ih _ (fun y hy => ht y (by simp [hy])) (fun y hy => hm y (by simp [hy])) (by simp; omega)]
        simp [hp]
      | false =>
        dsimp only
        rw [ih _ (fun y hy => ht y (by simp [hy])) (fun y hy => hm y (by simp [hy])) (by omega)]
        simp [hp]
  rw [key xs [] ht hm (by simpa using hl)]
  simp [hlo]
theorem bools_map {α : Type} (p : α → Bool) : ∀ l : List α, bools (l.map fun a => D.bl (p a)) = some (l.map p)
  | [] => rfl
  | a :: l => by simp [bools, bools_map p l]
theorem forL_findM {α : Type} {i : Nat} {body : S} {h : Hh} (e : α → D) (p : α → Bool) (r : α → SR) : ∀ (xs : List α) (env : Ev), (∀ x ∈ xs, body (env.set i (some (e x))) h = if p x = true then .nx (env.set i (some (e x))) h else r x) → (∀ x ∈ xs, p x = false → isStop (r x) = true) →
    (∀ x, xs.find? (fun x => !p x) = some x → forL (gtName i) body none (xs.map e) env h = r x) ∧ (xs.find? (fun x => !p x) = none → ∃ e0, forL (gtName i) body none (xs.map e) env h = .nx (env.set i e0) h)
  | [], env, _, _ => by
    refine ⟨fun x e => by simp at e, fun _ => ?_⟩
    rw [List.map_nil, forL_nil (gd := none) trivial]
    by_cases hl : i < env.length
    · exact ⟨env[i], by rw [List.set_getElem_self]⟩
    · exact ⟨none, by rw [List.set_eq_of_length_le (by omega)]⟩
  | x :: xs, env, hb, hs => by
    have h1 := hb x (by simp)
    rw [List.map_cons]
    by_cases hp : p x = true
    · rw [if_pos hp] at h1
      have ih := forL_findM e p r xs (env.set i (some (e x))) (fun y hy => by rw [List.set_set]; exact hb y (by simp [hy])) (fun y hy => hs y (by simp [hy]))
      have e1 : forL (gtName i) body none (e x :: xs.map e) env h = forL (gtName i) body none (xs.map e) (env.set i (some (e x))) h := forL_nx (gd := none) trivial rfl h1
      rw [e1]
      simp only [List.find?_cons, hp, Bool.not_true]
      refine ⟨ih.1, fun z => ?_⟩
      obtain ⟨e0, q⟩ := ih.2 z
      exact ⟨e0, by rw [q, List.set_set]⟩
    · have hp' : p x = false := by simpa using hp
      rw [if_neg hp] at h1
      have e1 : forL (gtName i) body none (e x :: xs.map e) env h = r x := by
        have hstop := hs x (by simp) hp'
        unfold forL
        rw [if_pos (show gdOk none h from trivial)]
        show (match body (env.set i (some (e x))) h with
          | .nx e' h' => forL (gtName i) body none (xs.map e) e' h'
          | .ct e' h' => forL (gtName i) body none (xs.map e) e' h'
          | .bk e' h' => .nx e' h'
          | r => r) = r x
        rw [h1]
        cases q : r x with
        | rt d h' => rfl
        | exc c fs e' h' => rfl
        | nx e' h' => rw [q] at hstop; cases hstop
        | bk e' h' => rw [q] at hstop; cases hstop
        | ct e' h' => rw [q] at hstop; cases hstop
        | bad => rfl
      simp only [List.find?_cons, hp', Bool.not_false]
      exact ⟨fun y z => by cases z; exact e1, fun z => by cases z⟩
theorem forL_allM {α : Type} {i : Nat} {body : S} {env : Ev} {h : Hh} (e : α → D) (p : α → Bool) (r : D) (xs : List α) (hb : ∀ x ∈ xs, body (env.set i (some (e x))) h = if p x = true then .nx (env.set i (some (e x))) h else .rt r h) :
    (xs.all p = true → ∃ e0, forL (gtName i) body none (xs.map e) env h = .nx (env.set i e0) h) ∧ (xs.all p = false → forL (gtName i) body none (xs.map e) env h = .rt r h) := by
  have q := forL_findM (i := i) (body := body) (h := h) e p (fun _ => .rt r h) xs env hb (fun _ _ _ => rfl)
  refine ⟨fun z => q.2 ?_, fun z => ?_⟩
  · rw [List.find?_eq_none]
    intro x hx
    have := List.all_eq_true.mp z x hx
    simp [this]
  · cases e : xs.find? (fun x => !p x) with
    | none =>
      rw [List.find?_eq_none] at e
      have : xs.all p = true := List.all_eq_true.mpr fun x hx => by simpa using e x hx
      rw [this] at z
      cases z
    | some x => exact q.1 x e
/-! ### places, slices -/
theorem atI_pos {α : Type} {xs : List α} {i : Int} (h : 0 ≤ i) : atI xs i = xs[i.toNat]? := by
  unfold atI ixN
  rw [if_pos h]
  by_cases q : i < xs.length
  · rw [if_pos q]; rfl
  · rw [if_neg q, List.getElem?_eq_none (by omega)]; rfl
theorem atI_m1 {α : Type} {xs : List α} : atI xs (-1) = xs.getLast? := by
  unfold atI ixN
  rw [if_neg (by omega)]
  by_cases q : xs = []
  · subst q; rfl
  · have hl : 0 < xs.length := List.length_pos_iff.mpr q
    rw [if_pos (by omega), List.getLast?_eq_getElem?]
    show xs[((-1 : Int) + xs.length).toNat]? = _
    congr 1
    omega
theorem sIx_pos {n d : Nat} {i : Int} (h : 0 ≤ i) : HT.sIx n d (some i) = min i.toNat n := by
  unfold HT.sIx
  simp only
  rw [if_neg (by omega)]
theorem take_min {α : Type} (l : List α) (k : Nat) : l.take (min k l.length) = l.take k := by
  by_cases q : k ≤ l.length
  · rw [Nat.min_eq_left q]
  · rw [Nat.min_eq_right (by omega), List.take_of_length_le (Nat.le_refl _), List.take_of_length_le (by omega)]
theorem drop_min {α : Type} (l : List α) (k : Nat) : l.drop (min k l.length) = l.drop k := by
  by_cases q : k ≤ l.length
  · rw [Nat.min_eq_left q]
  · rw [Nat.min_eq_right (by omega), List.drop_of_length_le (Nat.le_refl _), List.drop_of_length_le (by omega)]
theorem slice_mid {α : Type} (l : List α) (a b : Nat) : (l.drop (min a l.length)).take (min b l.length - min a l.length) = (l.take b).drop a := by
  rw [drop_min, List.drop_take]
  by_cases q : a ≤ l.length
  · rw [Nat.min_eq_left q]
    by_cases r : b ≤ l.length
    · rw [Nat.min_eq_left r]
    · rw [Nat.min_eq_right (by omega), List.take_of_length_le (by simp), List.take_of_length_le (by simp; omega)]
  · rw [List.drop_of_length_le (by omega)]
    simp
section
variable {xs : List D} {l : List Nat} {i j : Int}
theorem cutD_to (h : 0 ≤ i) : cutD xs none (some i) = xs.take i.toNat := by
  unfold cutD
  rw [HT.sIx_none, sIx_pos h]
  simp [take_min]
theorem cutD_from (h : 0 ≤ i) : cutD xs (some i) none = xs.drop i.toNat := by
  unfold cutD
  rw [HT.sIx_none, sIx_pos h, drop_min, List.take_of_length_le]
  rw [List.length_drop]
  omega
theorem cutD_mid (hi : 0 ≤ i) (hj : 0 ≤ j) : cutD xs (some i) (some j) = (xs.take j.toNat).drop i.toNat := by
  unfold cutD
  rw [sIx_pos hi, sIx_pos hj, slice_mid]
theorem cutS_to (h : 0 ≤ i) : cutS (tx l) none (some i) = tx (l.take i.toNat) := by
  unfold cutS
  rw [HT.sIx_none, sIx_pos h, tx_list, tx_len]
  simp only [List.drop_zero, Nat.sub_zero, take_min]
  rfl
theorem cutS_from (h : 0 ≤ i) : cutS (tx l) (some i) none = tx (l.drop i.toNat) := by
  unfold cutS
  rw [HT.sIx_none, sIx_pos h, tx_list, tx_len, drop_min, List.take_of_length_le]
  · rfl
  · rw [List.length_drop]
    omega
theorem cutS_mid (hi : 0 ≤ i) (hj : 0 ≤ j) : cutS (tx l) (some i) (some j) = tx ((l.take j.toNat).drop i.toNat) := by
  unfold cutS
  rw [sIx_pos hi, sIx_pos hj, tx_list, tx_len, slice_mid]
  rfl
theorem cutS_m1 : cutS (tx l) none (some (-1)) = tx l.dropLast := by
  unfold cutS
  rw [HT.sIx_none, tx_list, tx_len]
  show tx _ = _
  congr 1
  unfold HT.sIx
  simp only
  rw [if_pos (by omega), List.drop_zero, List.dropLast_eq_take]
  congr 1
  omega
end
/-! ### equality -/
mutual
def eqd : D → D → Bool
  | .non, .non => true
  | .bl a, .bl b => a == b
  | .bl a, .int j => (if a then 1 else 0) == j
  | .int i, .bl b => i == (if b then 1 else 0)
  | .int i, .int j => i == j
  | .str x, .str y => x == y
  | .fls xs, .fls ys => eqds xs ys
  | .tup xs, .tup ys => eqds xs ys
  | _, _ => false
def eqds : List D → List D → Bool
  | [], [] => true
  | x :: xs, y :: ys => eqd x y && eqds xs ys
  | _, _ => false
end
mutual
/-- no places, no great depth, signs of Unicode -/
def okD : Nat → D → Bool
  | 0, _ => false
  | _ + 1, .str x => x.cps.all (· < 0x110000)
  | k + 1, .tup ds => okDs k ds
  | k + 1, .fls ds => okDs k ds
  | _ + 1, .ref _ => false
  | _ + 1, _ => true
def okDs : Nat → List D → Bool
  | _, [] => true
  | k, d :: ds => okD k d && okDs k ds
end
mutual
def pyd : D → PyData
  | .non => .none
  | .bl b => .bool b
  | .int i => .int i
  | .str x => .str x
  | .tup ds => .tuple (pyds ds)
  | .fls ds => .list (pyds ds)
  | .ref _ => .none
def pyds : List D → List PyData
  | [] => []
  | d :: ds => pyd d :: pyds ds
end
theorem okDs_mem : ∀ {k : Nat} {ds : List D} {d : D}, okDs k ds = true → d ∈ ds → okD k d = true
  | k, d' :: ds, d, h, hm => by
    simp only [okDs, Bool.and_eq_true] at h
    rcases List.mem_cons.mp hm with rfl | hm
    · exact h.1
    · exact okDs_mem h.2 hm
theorem okDs_iff {k : Nat} {ds : List D} : okDs k ds = true ↔ ∀ d ∈ ds, okD k d = true := by
  refine ⟨fun h d hd => okDs_mem h hd, fun h => ?_⟩
  induction ds with
  | nil => rfl
  | cons d ds ih =>
    simp only [okDs, Bool.and_eq_true]
    exact ⟨h d (by simp), ih fun x hx => h x (by simp [hx])⟩
theorem pyds_map : ∀ ds : List D, pyds ds = ds.map pyd
  | [] => rfl
  | d :: ds => by simp [pyds, pyds_map ds]
theorem mapM_some {α β : Type} {f : α → Option β} {g : α → β} : ∀ {xs : List α}, (∀ x ∈ xs, f x = some (g x)) → xs.mapM f = some (xs.map g)
  | [], _ => rfl
  | x :: xs, h => by
    rw [List.mapM_cons, h x (by simp), mapM_some (xs := xs) fun y hy => h y (by simp [hy])]
    rfl
theorem toP_ok (h : Hh) : ∀ (k n : Nat) (d : D), k ≤ n → okD k d = true → toP h n d = some (pyd d)
  | 0, _, _, _, e => by simp [okD] at e
  | k + 1, 0, _, l, _ => by omega
  | k + 1, n + 1, .non, _, _ => rfl
  | k + 1, n + 1, .bl _, _, _ => rfl
  | k + 1, n + 1, .int _, _, _ => rfl
  | k + 1, n + 1, .str _, _, _ => rfl
  | k + 1, n + 1, .tup ds, l, e => by
    simp only [okD] at e
    simp only [toP, pyd, pyds_map]
    rw [mapM_some (g := pyd) fun x hx => toP_ok h k n x (by omega) (okDs_mem e hx)]
    rfl
  | k + 1, n + 1, .fls ds, l, e => by
    simp only [okD] at e
    simp only [toP, pyd, pyds_map]
    rw [mapM_some (g := pyd) fun x hx => toP_ok h k n x (by omega) (okDs_mem e hx)]
    rfl
  | k + 1, n + 1, .ref _, _, e => by simp [okD] at e
theorem depth_ok : ∀ (k : Nat) (d : D), okD k d = true → (pyd d).depth ≤ k ∧ (pyd d).canLay0 = true
  | 0, _, e => by simp [okD] at e
  | k + 1, .non, _ => by simp [pyd, PyData.depth, PyData.canLay0]
  | k + 1, .bl _, _ => by simp [pyd, PyData.depth, PyData.canLay0]
  | k + 1, .int _, _ => by simp [pyd, PyData.depth, PyData.canLay0]
  | k + 1, .str x, e => by
    simp only [okD] at e
    simp [pyd, PyData.depth, PyData.canLay0, PyData.strOk]
    simpa using e
  | k + 1, .tup ds, e => by
    simp only [okD] at e
    have h : ∀ ds : List D, okDs k ds = true → PyData.depthAll (pyds ds) ≤ k ∧ PyData.canLayAll0 (pyds ds) = true := by
      intro ds
      induction ds with
      | nil => intro _; simp [pyds, PyData.depthAll, PyData.canLayAll0]
      | cons d ds ih =>
        intro e
        simp only [okDs, Bool.and_eq_true] at e
        have h1 := depth_ok k d e.1
        have h2 := ih e.2
        simp only [pyds, PyData.depthAll, PyData.canLayAll0, Bool.and_eq_true]
        exact ⟨by omega, h1.2, h2.2⟩
    have := h ds e
    simp only [pyd, PyData.depth, PyData.canLay0]
    exact ⟨by omega, this.2⟩
  | k + 1, .fls ds, e => by
    simp only [okD] at e
    have h : ∀ ds : List D, okDs k ds = true → PyData.depthAll (pyds ds) ≤ k ∧ PyData.canLayAll0 (pyds ds) = true := by
      intro ds
      induction ds with
      | nil => intro _; simp [pyds, PyData.depthAll, PyData.canLayAll0]
      | cons d ds ih =>
        intro e
        simp only [okDs, Bool.and_eq_true] at e
        have h1 := depth_ok k d e.1
        have h2 := ih e.2
        simp only [pyds, PyData.depthAll, PyData.canLayAll0, Bool.and_eq_true]
        exact ⟨by omega, h1.2, h2.2⟩
    have := h ds e
    simp only [pyd, PyData.depth, PyData.canLay0]
    exact ⟨by omega, this.2⟩
  | k + 1, .ref _, e => by simp [okD] at e
mutual
theorem eqd_py : ∀ (k : Nat) (a b : D), okD k a = true → okD k b = true → PyData.eqv (pyd a) (pyd b) = eqd a b
  | 0, _, _, e, _ => by simp [okD] at e
  | k + 1, .tup xs, b, ha, hb => by
    cases b <;> first | (simp [okD] at hb; done) | skip
    all_goals simp only [pyd, PyData.eqv, eqd]
    exact eqds_py k xs _ (by simpa [okD] using ha) (by simpa [okD] using hb)
  | k + 1, .fls xs, b, ha, hb => by
    cases b <;> first | (simp [okD] at hb; done) | skip
    all_goals simp only [pyd, PyData.eqv, eqd]
    exact eqds_py k xs _ (by simpa [okD] using ha) (by simpa [okD] using hb)
  | k + 1, .non, b, ha, hb => by cases b <;> first | (simp [okD] at hb; done) | simp [pyd, PyData.eqv, eqd]
  | k + 1, .bl _, b, ha, hb => by cases b <;> first | (simp [okD] at hb; done) | simp [pyd, PyData.eqv, eqd]
  | k + 1, .int _, b, ha, hb => by cases b <;> first | (simp [okD] at hb; done) | simp [pyd, PyData.eqv, eqd]
  | k + 1, .str _, b, ha, hb => by cases b <;> first | (simp [okD] at hb; done) | simp [pyd, PyData.eqv, eqd]
  | k + 1, .ref _, b, ha, hb => by simp [okD] at ha
theorem eqds_py : ∀ (k : Nat) (a b : List D), okDs k a = true → okDs k b = true → PyData.eqvAll (pyds a) (pyds b) = eqds a b
  | _, [], [], _, _ => by simp [pyds, PyData.eqvAll, eqds]
  | _, [], _ :: _, _, _ => by simp [pyds, PyData.eqvAll, eqds]
  | _, _ :: _, [], _, _ => by simp [pyds, PyData.eqvAll, eqds]
  | k, x :: xs, y :: ys, ha, hb => by
    simp only [okDs, Bool.and_eq_true] at ha hb
    simp only [pyds, PyData.eqvAll, eqds]
    rw [eqd_py k x y ha.1 hb.1, eqds_py k xs ys ha.2 hb.2]
end
theorem opEqB_ok {a b : D} (h : Hh) (ha : okD 60 a = true) (hb : okD 60 b = true) : opEqB a b h = some (eqd a b) := by
  have gen : eqP h a b = some (eqd a b) := by
    unfold eqP
    rw [toP_ok h 60 60 a (Nat.le_refl _) ha, toP_ok h 60 60 b (Nat.le_refl _) hb]
    dsimp only
    have h1 := depth_ok 60 a ha
    have h2 := depth_ok 60 b hb
    rw [if_pos ⟨by simp [SeqAt.shaped, h1.2]; omega, by simp [SeqAt.shaped, h2.2]; omega⟩, eqd_py 60 a b ha hb]
  unfold opEqB
  split
  · simp [eqd, BEq.beq]
  · simp [eqd, BEq.beq]
  · simp [eqd, BEq.beq]
  · simp [eqd]
  · exact gen
theorem opEq_ok {a b : D} (h : Hh) (ha : okD 60 a = true) (hb : okD 60 b = true) : opEq a b h = some (.bl (eqd a b), h) := by
  unfold opEq
  rw [opEqB_ok h ha hb]
  rfl
theorem opNe_ok {a b : D} (h : Hh) (ha : okD 60 a = true) (hb : okD 60 b = true) : opNe a b h = some (.bl (!eqd a b), h) := by
  unfold opNe
  rw [opEqB_ok h ha hb]
  rfl
theorem okD_mono : ∀ {m n : Nat} {d : D}, m ≤ n → okD m d = true → okD n d = true
  | 0, _, _, _, e => by simp [okD] at e
  | m + 1, 0, _, l, _ => by omega
  | m + 1, n + 1, .non, _, _ => rfl
  | m + 1, n + 1, .bl _, _, _ => rfl
  | m + 1, n + 1, .int _, _, _ => rfl
  | m + 1, n + 1, .str _, _, e => e
  | m + 1, n + 1, .tup ds, l, e => by
    simp only [okD] at e ⊢
    exact okDs_iff.mpr fun d hd => okD_mono (by omega) (okDs_mem e hd)
  | m + 1, n + 1, .fls ds, l, e => by
    simp only [okD] at e ⊢
    exact okDs_iff.mpr fun d hd => okD_mono (by omega) (okDs_mem e hd)
  | m + 1, n + 1, .ref _, _, e => by simp [okD] at e
theorem okD_lo : ∀ {m n : Nat} {d : D}, okD m d = true → lo n d = true
  | 0, _, _, e => by simp [okD] at e
  | m + 1, n, .non, _ => rfl
  | m + 1, n, .bl _, _ => rfl
  | m + 1, n, .int _, _ => rfl
  | m + 1, n, .str _, e => rfl
  | m + 1, n, .tup ds, e => by
    simp only [okD] at e
    rw [lo_tup, los_all, List.all_eq_true]
    exact fun d hd => okD_lo (okDs_mem e hd)
  | m + 1, n, .fls ds, e => by
    simp only [okD] at e
    rw [lo_fls, los_all, List.all_eq_true]
    exact fun d hd => okD_lo (okDs_mem e hd)
  | m + 1, n, .ref _, e => by simp [okD] at e
theorem eqds_strs : ∀ (xs ys : List (List Nat)), eqds (xs.map fun l => D.str (tx l)) (ys.map fun l => D.str (tx l)) = decide (xs = ys)
  | [], [] => rfl
  | [], _ :: _ => rfl
  | _ :: _, [] => rfl
  | x :: xs, y :: ys => by
    simp only [List.map_cons, eqds, eqd, eqds_strs xs ys]
    by_cases h : x = y <;> simp [h]
end Sm
/-! SmR3: tame data; the drawing function at the heap's head. -/
namespace Sm
open PySem L2 PyProof.Rows SmPool
mutual
/-- no places, no great depth, no long texts or rows -/
def tm : Nat → D → Bool
  | 0, _ => false
  | _ + 1, .str x => x.cps.all (· < 0x110000) && decide (x.length ≤ 4096)
  | k + 1, .tup ds => tms k ds && decide (ds.length ≤ 4096)
  | k + 1, .fls ds => tms k ds && decide (ds.length ≤ 4096)
  | _ + 1, .ref _ => false
  | _ + 1, _ => true
def tms : Nat → List D → Bool
  | _, [] => true
  | k, d :: ds => tm k d && tms k ds
end
theorem tms_mem : ∀ {k : Nat} {ds : List D} {d : D}, tms k ds = true → d ∈ ds → tm k d = true
  | k, d' :: ds, d, h, hm => by
    simp only [tms, Bool.and_eq_true] at h
    rcases List.mem_cons.mp hm with rfl | hm
    · exact h.1
    · exact tms_mem h.2 hm
theorem tms_iff {k : Nat} {ds : List D} : tms k ds = true ↔ ∀ d ∈ ds, tm k d = true := by
  refine ⟨fun h d hd => tms_mem h hd, fun h => ?_⟩
  induction ds with
  | nil => rfl
  | cons d ds ih =>
    simp only [tms, Bool.and_eq_true]
    exact ⟨h d (by simp), ih fun x hx => h x (by simp [hx])⟩
theorem tm_ok : ∀ {k : Nat} {d : D}, tm k d = true → okD k d = true
  | 0, _, e => by simp [tm] at e
  | k + 1, .non, _ => rfl
  | k + 1, .bl _, _ => rfl
  | k + 1, .int _, _ => rfl
  | k + 1, .str _, e => by simp only [tm, Bool.and_eq_true] at e; exact e.1
  | k + 1, .tup ds, e => by
    simp only [tm, Bool.and_eq_true] at e
    simp only [okD]
    exact okDs_iff.mpr fun d hd => tm_ok (tms_mem e.1 hd)
  | k + 1, .fls ds, e => by
    simp only [tm, Bool.and_eq_true] at e
    simp only [okD]
    exact okDs_iff.mpr fun d hd => tm_ok (tms_mem e.1 hd)
  | k + 1, .ref _, e => by simp [tm] at e
theorem tm_mono : ∀ {m n : Nat} {d : D}, m ≤ n → tm m d = true → tm n d = true
  | 0, _, _, _, e => by simp [tm] at e
  | m + 1, 0, _, l, _ => by omega
  | m + 1, n + 1, .non, _, _ => rfl
  | m + 1, n + 1, .bl _, _, _ => rfl
  | m + 1, n + 1, .int _, _, _ => rfl
  | m + 1, n + 1, .str _, _, e => e
  | m + 1, n + 1, .tup ds, l, e => by
    simp only [tm, Bool.and_eq_true] at e ⊢
    exact ⟨tms_iff.mpr fun d hd => tm_mono (by omega) (tms_mem e.1 hd), e.2⟩
  | m + 1, n + 1, .fls ds, l, e => by
    simp only [tm, Bool.and_eq_true] at e ⊢
    exact ⟨tms_iff.mpr fun d hd => tm_mono (by omega) (tms_mem e.1 hd), e.2⟩
  | m + 1, n + 1, .ref _, _, e => by simp [tm] at e
theorem tm_len {k : Nat} {x : Str} (e : tm k (.str x) = true) : x.cps.toList.length ≤ sizeLine := by
  cases k with
  | zero => simp [tm] at e
  | succ k =>
    simp only [tm, Bool.and_eq_true, decide_eq_true_eq] at e
    have := e.2
    rw [sizeLine_eq]
    unfold Str.length at this
    simp
    omega
theorem tm_tup {k : Nat} {ds : List D} (e : tm k (.tup ds) = true) : tms (k - 1) ds = true ∧ ds.length ≤ 4096 := by
  cases k with
  | zero => simp [tm] at e
  | succ k =>
    simp only [tm, Bool.and_eq_true, decide_eq_true_eq] at e
    exact e
theorem tm_fls {k : Nat} {ds : List D} (e : tm k (.fls ds) = true) : tms (k - 1) ds = true ∧ ds.length ≤ 4096 := by
  cases k with
  | zero => simp [tm] at e
  | succ k =>
    simp only [tm, Bool.and_eq_true, decide_eq_true_eq] at e
    exact e
theorem tm_ref {k n : Nat} : ¬ tm k (.ref n) = true := by cases k <;> simp [tm]
theorem tm_cps {k : Nat} {x : Str} (e : tm k (.str x) = true) : x.cps.all (· < 0x110000) = true := by
  cases k with
  | zero => simp [tm] at e
  | succ k =>
    simp only [tm, Bool.and_eq_true] at e
    exact e.1
theorem tm_mkT {k : Nat} {ds : List D} (h : ∀ d ∈ ds, tm k d = true) (hl : ds.length ≤ 4096) : tm (k + 1) (.tup ds) = true := by
  have h1 := tms_iff.mpr h
  have e : tm (k + 1) (.tup ds) = (tms k ds && decide (ds.length ≤ 4096)) := by simp only [tm]
  rw [e, h1]
  simpa using hl
theorem tm_mkF {k : Nat} {ds : List D} (h : ∀ d ∈ ds, tm k d = true) (hl : ds.length ≤ 4096) : tm (k + 1) (.fls ds) = true := by
  have h1 := tms_iff.mpr h
  have e : tm (k + 1) (.fls ds) = (tms k ds && decide (ds.length ≤ 4096)) := by simp only [tm]
  rw [e, h1]
  simpa using hl
theorem tm_sub {k : Nat} {ds es : List D} (e : tm k (.tup ds) = true) (h : ∀ d ∈ es, d ∈ ds) (hl : es.length ≤ ds.length) : tm k (.tup es) = true := by
  cases k with
  | zero => simp [tm] at e
  | succ k =>
    obtain ⟨h1, h2⟩ := tm_tup e
    exact tm_mkT (fun d hd => tms_mem h1 (h d hd)) (by omega)
theorem tm_mkS {k : Nat} {l : List Nat} (h : ∀ c ∈ l, c < 128) (hl : l.length ≤ 4096) : tm (k + 1) (.str (tx l)) = true := by
  have e : tm (k + 1) (.str (tx l)) = ((tx l).cps.all (· < 0x110000) && decide ((tx l).length ≤ 4096)) := by simp only [tm]
  rw [e]
  simp only [Bool.and_eq_true, decide_eq_true_eq, tx_len]
  refine ⟨?_, hl⟩
  unfold tx
  simp
  intro c hc
  have := h c hc
  omega
theorem tm_lo {k n : Nat} {d : D} (e : tm k d = true) : lo n d = true := okD_lo (tm_ok e)
theorem tms_lo {k n : Nat} {ds : List D} (e : tms k ds = true) : los n ds = true := by
  rw [los_all, List.all_eq_true]
  exact fun d hd => tm_lo (tms_mem e hd)
theorem line4k {n : Nat} (h : n ≤ 100000) : n ≤ sizeLine := by rw [sizeLine_eq]; omega
theorem line4kI {n : Int} (h : n ≤ 100000) : n ≤ (sizeLine : Int) := by rw [sizeLine_eq]; omega
theorem rngD_range (n : Nat) : rngD 0 n = (List.range n).map fun (k : Nat) => D.int (k : Int) := by
  unfold rngD
  apply List.map_congr_left
  intro a _
  simp
theorem opJoin_f {x : Str} {xs : List Str} {h : Hh} (hz : (xs.map (·.length)).sum + xs.length * x.length ≤ 16777216) : opJoin (.str x) (.fls (xs.map D.str)) h = some (.str (Txt.join x xs), h) := by
  have h1 : partsOf (.fls (xs.map D.str)) h = some (xs.map D.str) := rfl
  have h2 := strsOf_map xs
  simp only [opJoin, h1, h2, if_pos hz]
theorem sumLen {xs : List Str} {B : Nat} (hB : ∀ y ∈ xs, y.length ≤ B) : (xs.map (·.length)).sum ≤ xs.length * B := StrLaws.sumLen_le xs hB
/-! ### a source at the heap's head -/
def SrO (o : O) : Prop := ∃ (ns : List Int) (i : Nat) (w s : Int), ns.length ≤ 63 ∧ i ≤ ns.length ∧ 0 ≤ w ∧ 0 ≤ s ∧ s < 2147483647 ∧ o = .lst [.fls (ns.map D.int), .int i, .int w, .int s]
theorem SrO.lo {o : O} {n : Nat} (a : SrO o) : loO n o = true := by
  obtain ⟨ns, i, w, s, _, _, _, _, _, rfl⟩ := a
  simp [loO]
theorem SrO.kq {o o' : O} {t : Hh} {n : Nat} (a : SrO o') : Kq n (o :: t) (o' :: t) := fun i u e => by
  cases i with
  | zero => simp at e; subst e; exact .inr a.lo
  | succ i => exact .inl (by simpa using e)
theorem SrO.start (ns : List Int) (h : ns.length ≤ 63) : SrO (.lst [.fls (ns.map D.int), .int 0, .int 0, .int 1]) := ⟨ns, 0, 0, 1, h, by omega, by omega, by omega, by omega, rfl⟩
section
variable {o o' : O} {t g : Hh} {d : D} {ds : List D}
theorem trR_s0 (a : SrO o') : trR (o :: t) (.ok d (o' :: t)) = .ok d (o' :: t) := by
  unfold trR
  dsimp only
  rw [List.take_of_length_le (by simp)]
  split <;> rfl
theorem trR_s (a : SrO o') : trR (o :: t) (.ok d (o' :: (t ++ g))) = if lo (t.length + 1) d = true then .ok d (o' :: t) else .ok d (o' :: (t ++ g)) := by
  unfold trR
  simp [a.kq]
theorem trR_s1 (a : SrO o') {x : O} : trR [o] (.ok d [o', x]) = if lo 1 d = true then .ok d [o'] else .ok d [o', x] := by
  have := trR_s (o := o) (t := []) (g := [x]) (d := d) a
  simpa using this
theorem fz1_s (a : SrO o') : fz1 (o :: t) (.ok (.ref (t.length + 1)) (o' :: (t ++ [.lst ds]))) = if los (t.length + 1) ds = true then .ok (.fls ds) (o' :: t) else .ok (.fls ds) (o' :: (t ++ [.dead])) := by
  unfold fz1
  simp [a.kq]
theorem fz1_s1 (a : SrO o') : fz1 [o] (.ok (.ref 1) [o', .lst ds]) = if los 1 ds = true then .ok (.fls ds) [o'] else .ok (.fls ds) [o', .dead] := by
  have := fz1_s (o := o) (t := []) (ds := ds) a
  simpa using this
end
theorem draw_s {o : O} {t : Hh} {m : Int} (a : SrO o) (hm : 0 < m) (hm2 : m < 1073741824) : ∃ r o', 0 ≤ r ∧ r < m ∧ SrO o' ∧ fnT 4 SmDraw.b__law_draw [.ref 0, .int m] (o :: t) = .ok (.int r) (o' :: t) := by
  have a0 : SmDraw.Sr (o :: t) 0 := by
    obtain ⟨ns, i, w, s, h1, h2, h3, h4, h5, rfl⟩ := a
    exact ⟨ns, i, w, s, h1, h2, h3, h4, h5, rfl⟩
  obtain ⟨r, h', h1, h2, h3, h4, h5, h6⟩ := SmDraw.draw_x a0 hm hm2
  cases h' with
  | nil => simp at h5
  | cons o' t' =>
    have ht : t' = t := by
      have e : ∀ i u, t[i]? = some u → t'[i]? = some u := fun i u e => by
        have := h4 (i + 1) u (by omega) (by simpa using e)
        simpa using this
      have hl : t'.length = t.length := by simpa using h5
      apply List.ext_getElem?
      intro i
      by_cases q : i < t.length
      · rw [List.getElem?_eq_getElem q]
        exact e i _ (List.getElem?_eq_getElem q)
      · rw [List.getElem?_eq_none (by omega), List.getElem?_eq_none (by omega)]
    subst ht
    have so : SrO o' := by
      obtain ⟨ns, i, w, s, k1, k2, k3, k4, k5, k6⟩ := h3
      simp at k6
      exact ⟨ns, i, w, s, k1, k2, k3, k4, k5, k6⟩
    refine ⟨r, o', h1, h2, so, ?_⟩
    have e : fnM 4 SmDraw.b__law_draw [.ref 0, .int m] (o :: t') = .ok (.int r) (o' :: t') := h6
    show trR (o :: t') (fnM 4 SmDraw.b__law_draw [.ref 0, .int m] (o :: t')) = _
    rw [e, trR_s0 so]
end Sm
/-! SmIn: instances of own classes: a field read, stored, a method called, an instance made; dicts read; k in d. -/
namespace Sm
open PySem L2 PyProof.Rows
/-- two ways to read one expression -/
theorem se_alt {X : Cx} {G : Cl} {W : WX} {e : Expr} {m1 m2 m : M} (h1 : PE X e (tM X.K G W m1)) (h2 : PE X e (tM X.K G W m2)) (hm : ∀ env h, m env h = m1 env h ∨ m env h = m2 env h) : PE X e (tM X.K G W m) := by
  refine ⟨fun pins s σ H Q I t => ?_⟩
  obtain ⟨ρ, h, env, hr, he, p⟩ := t
  rcases hm env h with q | q
  · rw [q] at p
    exact h1.run pins s σ H Q I ⟨ρ, h, env, hr, he, p⟩
  · rw [q] at p
    exact h2.run pins s σ H Q I ⟨ρ, h, env, hr, he, p⟩
theorem st_alt {X : Cx} {G : Cl} {W : WX} {e : Expr} {m1 m2 m : MT} (h1 : PT X e (tT X.K G W m1)) (h2 : PT X e (tT X.K G W m2)) (hm : ∀ env h, m env h = m1 env h ∨ m env h = m2 env h) : PT X e (tT X.K G W m) := by
  refine ⟨fun pins s σ H Q I t => ?_⟩
  obtain ⟨ρ, h, env, hr, he, p⟩ := t
  rcases hm env h with q | q
  · rw [q] at p
    exact h1.run pins s σ H Q I ⟨ρ, h, env, hr, he, p⟩
  · rw [q] at p
    exact h2.run pins s σ H Q I ⟨ρ, h, env, hr, he, p⟩
/-! ### fields -/
/-- the k-th field of an instance of the class c -/
def opFld (c k : Nat) : D → Hh → Option (D × Hh)
  | .ref n, h => match h[n]? with
    | some (.ins c' fs) => if c' = c then (match fs[k]? with
      | some (some d) => some (d, h)
      | _ => none) else none
    | _ => none
  | _, _ => none
section
variable {X : Cx} {G : Cl} {W : WX} {e o value : Expr} {es : List Expr} {f x m : Str} {pos pos' p apos : Pos} {mo mv me ma mb : M} {ms : List M} {c k j : Nat} {K : PySem.W.Frag} {ρ : List Addr} {H : Hp} {h : Hh} {σ : L2.St} {env : Ev}
/-- a class of the text as those know it who use its instances -/
structure ClOk (K : PySem.W.Frag) (G : Cl) (c : Nat) : Prop where
  cl : Cls K (G.at_ c)
  no : ∀ f ∈ G.nm c, NoAttr K (G.at_ c) f
  nd : (G.nm c).Nodup
  sm : (G.nm c).length < 900
theorem ClOk.at_ (T : ClOk K G c) {i : Nat} (e : (G.nm c)[i]? = some f) : NoAttr K (G.at_ c) f := T.no f (List.mem_of_getElem? e)
theorem se_fld (T : ClOk X.K G c) (hk : (G.nm c)[k]? = some f) (he : PE X e (tM X.K G W me)) (hb : attributeBase e f X.env (eval e X.env) = eval e X.env := by rfl) : PE X (.Attribute e f pos) (tM X.K G W (eU (opFld c k) me)) := peImp (pe_fld he hb) fun σ H Q t => by
  obtain ⟨ρ, h, env, hr, he, p⟩ := t
  refine tG_mono (tG_bind (rel := relV X.K) hr he p) fun v H1 ⟨ρ1, h1, d, e1, hr1, he1, r1, p1⟩ => ?_
  obtain ⟨d2, h2, eq, kk⟩ := p1.opt
  unfold opFld at eq
  split at eq
  · cases r1 with
    | @ref _ a ra =>
      split at eq
      · rename_i c' fs e0
        split at eq
        · rename_i hc
          subst hc
          split at eq
          · rename_i d3 e3
            cases eq
            have z := hr1.at_ ra e0
            cases z with
            | ins q l r nn zz =>
              have r0 := r k f hk
              rw [e3] at r0
              rename_i dx vfs
              cases lk : vfs.lookup f with
              | none => rw [lk] at r0; exact r0.elim
              | some v =>
                rw [lk] at r0
                exact ⟨a, _, dx, vfs, v, rfl, q, T.cl, T.at_ hk, lk, kk _ _ _ Ex.refl hr1 r0⟩
          · cases eq
        · cases eq
      · cases eq
  · cases eq
/-- o.f = value -/
def sFld (c k : Nat) (mo mv : M) : S := fun env h => bindS (mv env h) env fun v h1 => bindS (mo env h1) env fun o h2 => match o with
  | .ref n => (match h2[n]? with
    | some (.ins c' fs) => if c' = c then .nx env (h2.set n (.ins c (fs.set k (some v)))) else .bad
    | _ => .bad)
  | _ => .bad
theorem putF_len_some {f : Str} {y v : V} : ∀ {fs : List (Str × V)}, fs.lookup f = some v → (putF f y fs).length = fs.length
  | [], e => by cases e
  | (g, x) :: r, e => by
    by_cases q : g = f
    · simp [putF, q]
    · have q' : (f == g) = false := by simpa using fun z => q z.symm
      simp only [List.lookup, q'] at e
      simp [putF, q, putF_len_some e]
theorem putF_len_none {f : Str} {y : V} : ∀ {fs : List (Str × V)}, fs.lookup f = none → (putF f y fs).length = fs.length + 1
  | [], _ => rfl
  | (g, x) :: r, e => by
    by_cases q : g = f
    · simp [List.lookup, q] at e
    · have q' : (f == g) = false := by simpa using fun z => q z.symm
      simp only [List.lookup, q'] at e
      simp [putF, q, putF_len_none e]
theorem setN_le : ∀ ds : List (Option D), setN ds ≤ ds.length := fun ds => List.length_filter_le _ _
theorem setN_some {d0 d : D} : ∀ {ds : List (Option D)} {k : Nat}, ds[k]? = some (some d0) → setN (ds.set k (some d)) = setN ds
  | [], k, e => by simp at e
  | x :: ds, 0, e => by
    simp at e
    subst e
    simp [setN]
  | x :: ds, k + 1, e => by
    have ih := setN_some (d := d) (ds := ds) (k := k) (by simpa using e)
    unfold setN at ih ⊢
    cases x <;> simp [ih]
theorem setN_none {d : D} : ∀ {ds : List (Option D)} {k : Nat}, ds[k]? = some none → setN (ds.set k (some d)) = setN ds + 1
  | [], k, e => by simp at e
  | x :: ds, 0, e => by
    simp at e
    subst e
    simp [setN]
  | x :: ds, k + 1, e => by
    have ih := setN_none (d := d) (ds := ds) (k := k) (by simpa using e)
    unfold setN at ih ⊢
    cases x <;> simp [ih]
theorem nodup_at {α : Type} : ∀ {l : List α}, l.Nodup → ∀ {i j : Nat} (hi : i < l.length) (hj : j < l.length), l[i] = l[j] → i = j
  | [], _, i, j, hi, _, _ => by simp at hi
  | x :: l, nd, i, j, hi, hj, e => by
    rw [List.nodup_cons] at nd
    cases i with
    | zero =>
      cases j with
      | zero => rfl
      | succ j =>
        simp at e
        exact absurd (e ▸ List.getElem_mem _) nd.1
    | succ i =>
      cases j with
      | zero =>
        simp at e
        exact absurd (e ▸ List.getElem_mem _) nd.1
      | succ j =>
        simp at e
        rw [nodup_at nd.2 (by simpa using hi) (by simpa using hj) e]
/-- such a store in the plain heap -/
theorem ins_store (T : ClOk K G c) (hk : (G.nm c)[k]? = some f) (hr : Rh K G ρ H h) {n : Nat} {a dx : Addr} {vfs : List (Str × V)} {fs : List (Option D)} {v : V} {d : D} (ra : ρ[n]? = some a) (e0 : h[n]? = some (.ins c fs)) (q : H a = some (.ins (G.at_ c) dx vfs)) (rv : Rv K ρ H v d) :
    Ex K ρ H ρ (upd H a (.ins (G.at_ c) dx (putF f v vfs))) ∧ Rh K G ρ (upd H a (.ins (G.at_ c) dx (putF f v vfs))) (h.set n (.ins c (fs.set k (some d)))) := by
  have ex : Ex K ρ H ρ (upd H a (.ins (G.at_ c) dx (putF f v vfs))) := Ex.write hr ra e0
  refine ⟨ex, hr.write ra e0 ?_⟩
  have z := hr.at_ ra e0
  cases z with
  | ins q' l r nn zz =>
    rw [q] at q'
    obtain ⟨rfl, rfl⟩ : dx = _ ∧ vfs = _ := by
      have := Option.some.inj q'
      injection this with h1 h2 h3
      exact ⟨h2, h3⟩
    have hkl : k < fs.length := by rw [l]; exact (List.getElem?_eq_some_iff.mp hk).1
    refine .ins upd_same (by rw [List.length_set]; exact l) (fun i g hg => ?_) (fun g hg => ?_) ?_
    · rw [lookup_putF]
      by_cases e : g = f
      · subst e
        have : i = k := by
          have h1 := (List.getElem?_eq_some_iff.mp hg)
          have h2 := (List.getElem?_eq_some_iff.mp hk)
          obtain ⟨l1, e1⟩ := h1
          obtain ⟨l2, e2⟩ := h2
          exact nodup_at T.nd l1 l2 (e1.trans e2.symm)
        subst this
        rw [if_pos rfl, List.getElem?_set_self hkl]
        exact rv.mono ex
      · have : k ≠ i := fun z => by
          subst z
          rw [hk] at hg
          exact e (Option.some.inj hg).symm
        rw [if_neg e, List.getElem?_set_ne this]
        exact (r i g hg).mono ex
    · rw [lookup_putF]
      have : g ≠ f := fun z => by
        subst z
        exact hg (List.mem_of_getElem? hk)
      rw [if_neg this]
      exact nn g hg
    · have r0 := r k f hk
      have e1 : fs[k]? = some fs[k] := List.getElem?_eq_getElem hkl
      cases e2 : fs[k] with
      | none =>
        rw [e1, e2] at r0
        have lk : vfs.lookup f = none := by
          cases e3 : vfs.lookup f with
          | none => rfl
          | some _ => rw [e3] at r0; exact r0.elim
        rw [putF_len_none lk, setN_none (by rw [e1, e2]), zz]
      | some d0 =>
        rw [e1, e2] at r0
        cases e3 : vfs.lookup f with
        | none => rw [e3] at r0; exact r0.elim
        | some v0 => rw [putF_len_some e3, setN_some (d0 := d0) (by rw [e1, e2]), zz]
theorem s_fld (T : ClOk X.K G c) (hk : (G.nm c)[k]? = some f) (ho : PE X o (tM X.K G W mo)) (hv : PE X value (tM X.K G W mv)) (hs : swapsWith value (some (.Attribute o f pos')) pos.line X.env = pure false := by rfl) : PS X (.Assign [.Attribute o f pos'] value pos) (tS X.K G W (sFld c k mo mv)) := psImp (ps_fld ho hv hs) fun D0 σ H t => by
  obtain ⟨ρ, h, env, hr, he, q⟩ := t
  refine tG_mono (tS_bind (rel := relV X.K) hr he q) fun v H1 ⟨ρ1, h1, d, e1, hr1, he1, r1, p1⟩ => ?_
  refine tG_mono (tS_bind (rel := relV X.K) hr1 he1 p1) fun w H2 ⟨ρ2, h2, d2, e2, hr2, he2, r2, p2⟩ => ?_
  cases d2 with
  | ref n =>
    cases r2 with
    | @ref _ a ra =>
      dsimp only at p2
      split at p2
      · rename_i c' fs e0
        split at p2
        · rename_i hc
          subst hc
          have z := hr2.at_ ra e0
          cases z with
          | @ins _ dx vfs _ q l r nn zz =>
            obtain ⟨ex, rr⟩ := ins_store T hk hr2 ra e0 q (r1.mono e2)
            refine ⟨a, _, dx, vfs, rfl, q, T.cl, T.at_ hk, ?_, ?_⟩
            · have := setN_le fs
              have := T.sm
              omega
            · exact p2 ρ2 _ σ ex rr (he2.mono ex)
        · exact p2.elim
      · exact p2.elim
  | _ => exact p2.elim
/-! ### methods, new instances -/
theorem passE0 {P : Program} {w : World} {X : Cx} : Passes (L2.CX P w) X E0 := fun _ _ _ _ _ _ _ ⟨_, _, _, _, _, _, _, _, _, _, _, _, h⟩ => h.elim
/-- a method (nothing raises out of it), as its callers know it -/
def OkM (P : Program) (w : World) (K : PySem.W.Frag) (mg : Str → Option Value) (base : Heap) (G : Cl) (j c : Nat) (m : Str) (ps : List Str) (fm : Fm) : Prop :=
  ∃ f fd, Meth K (G.at_ c) m f ∧ Binds K fd ps [] ∧ m ∉ G.nm c ∧ FnOk P w K mg base (L2.CX P w) j f fd ps (spM K G ps.length fm)
/-- the class's own making -/
def OkC (P : Program) (w : World) (K : PySem.W.Frag) (mg : Str → Option Value) (base : Heap) (G : Cl) (j c : Nat) (x : Str) (ps : List Str) (fm : Fm) : Prop :=
  ∃ f fd, mg x = some (.ref (G.at_ c)) ∧ Mk K (G.at_ c) f ∧ Binds K fd ps [] ∧ FnOk P w K mg base (L2.CX P w) j f fd ps (spM K G ps.length fm)
/-- no exception -/
def noX (r : R D) : R D := match r with
  | .ok d h => .ok d h
  | _ => .bad
def eMeth (c : Nat) (fm : Fm) (mo : M) (ms : List M) : M := fun env h => (mo env h).bind fun o h1 => match o with
  | .ref n => (match h1[n]? with
    | some (.ins c' _) => if c' = c then (evs ms env h1).bind fun ds h2 => noX (fm (.ref n :: ds) h2) else .bad
    | _ => .bad)
  | _ => .bad
theorem meth_imp {ps : List Str} {fm : Fm} (hl : ms.length + 1 = ps.length) (hm : m ∉ G.nm c) (σ : L2.St) (H : Hp) (Q : VK) (t : tM X.K G W (eMeth c fm mo ms) σ H Q) : tMeth (G.at_ c) m (spM X.K G ps.length fm) [] E0 (tM X.K G W mo) (tL X.K G W (evs ms)) σ H Q := by
  obtain ⟨ρ, h, env, hr, he, p⟩ := t
  refine tG_mono (tG_bind (rel := relV X.K) hr he p) fun v H1 ⟨ρ1, h1, d, e1, hr1, he1, r1, p1⟩ => ?_
  cases d with
  | ref n =>
    cases r1 with
    | @ref _ a ra =>
      dsimp only at p1
      split at p1
      · rename_i c' fs e0
        split at p1
        · rename_i hc
          subst hc
          have z := hr1.at_ ra e0
          cases z with
          | @ins _ dx vfs _ q l r nn zz =>
            refine ⟨a, dx, vfs, rfl, q, nn m hm, ?_⟩
            refine ⟨ρ1, h1, env, hr1, he1, ?_⟩
            cases q1 : evs ms env h1 with
            | bad => rw [q1] at p1; exact p1
            | exc c fs h' => rw [q1] at p1; exact p1
            | ok ds h2 =>
              rw [q1] at p1
              simp only [R.bind_ok] at p1
              intro ρ' H' vs e2 a2 b2
              refine ⟨ρ', h2, .ref n :: ds, a2, .cons (.ref (e2.pre _ _ ra)) (by rw [List.append_nil]; exact b2), by rw [List.append_nil, List.length_cons, b2.length, evs_len q1, hl], ?_⟩
              have p' := p1.shift e2
              cases q2 : fm (.ref n :: ds) h2 with
              | bad => rw [q2] at p'; exact p'.elim
              | exc c fs h' => rw [q2] at p'; exact p'.elim
              | ok d h' => rw [q2] at p'; exact p'
        · exact p1.elim
      · exact p1.elim
  | _ => exact p1.elim
theorem se_meth {ps : List Str} {fm : Fm} {kk : Nat} {pl : Sem Bool} (ct : Ct X W kk) (T : ClOk X.K G c) (F : OkM X.prog X.w X.K X.mg X.base G j c m ps fm) (hj : j ≤ kk) (ho : PE X o (tM X.K G W mo)) (ha : PA X (e :: es) (tL X.K G W (evs ms))) (hl : ms.length + 1 = ps.length := by rfl)
    (hst : starEach (e :: es) X.env = (false, eval e X.env) :: starEach es X.env := by rfl) (hpl : (backTo pos (starEach es X.env)).any (·.1) = false := by rfl)
    (ht : eval (.Call (.Attribute o m apos) (e :: es) [] pos) X.env = (do
      let ov ← eval o X.env
      standAt apos.atName
      let (f, first) ← holding [ov] (getMethod ov m pl)
      callWith pos f first (backTo pos (starEach (e :: es) X.env)) (backToKw pos (keywordEach [] X.env))) := by rfl) : PE X (.Call (.Attribute o m apos) (e :: es) [] pos) (tM X.K G W (eMeth c fm mo ms)) := by
  obtain ⟨f, fd, hm, hb, hn, F⟩ := F
  exact peImp (pe_meth ho T.cl hm F (ct.hr.mono hj) hb .nil passE0 ha hst hpl ht) fun σ H Q t => meth_imp hl hn σ H Q t
theorem se_meth0 {ps : List Str} {fm : Fm} {kk : Nat} {pl : Sem Bool} (ct : Ct X W kk) (T : ClOk X.K G c) (F : OkM X.prog X.w X.K X.mg X.base G j c m ps fm) (hj : j ≤ kk) (ho : PE X o (tM X.K G W mo)) (hl : 1 = ps.length := by rfl)
    (ht : eval (.Call (.Attribute o m apos) [] [] pos) X.env = (do
      let ov ← eval o X.env
      standAt apos.atName
      let (f, first) ← holding [ov] (getMethod ov m pl)
      callWith pos f first (backTo pos (starEach [] X.env)) (backToKw pos (keywordEach [] X.env))) := by rfl) : PE X (.Call (.Attribute o m apos) [] [] pos) (tM X.K G W (eMeth c fm mo [])) := by
  obtain ⟨f, fd, hm, hb, hn, F⟩ := F
  refine peImp (pe_meth0 ho T.cl hm F (ct.hr.mono hj) hb .nil passE0 ht) fun σ H Q t => ?_
  have := meth_imp (m := m) (ms := []) hl hn σ H Q t
  obtain ⟨ρ, h, env, hr, he, p⟩ := this
  refine ⟨ρ, h, env, hr, he, p.imp fun v H1 ⟨a, dx, fs, h1, h2, h3, h4⟩ => ⟨a, dx, fs, h1, h2, h3, ?_⟩⟩
  obtain ⟨ρ2, g, env2, hr2, he2, p2⟩ := h4
  exact p2 ρ2 H1 [] Ex.refl hr2 .nil
/-- C(..): nf: how many fields its instances can have -/
def eMake (c nf : Nat) (fm : Fm) (ms : List M) : M := fun env h => (evs ms env h).bind fun ds h1 => match fm (.ref h1.length :: ds) (h1 ++ [.ins c (List.replicate nf none)]) with
  | .ok .non h2 => .ok (.ref h1.length) h2
  | _ => .bad
theorem setN_rep (n : Nat) : setN (List.replicate n (none : Option D)) = 0 := by
  induction n with
  | zero => rfl
  | succ n ih => rw [List.replicate_succ]; unfold setN at ih ⊢; simpa using ih
theorem se_make {ps : List Str} {fm : Fm} {kk nf : Nat} (ct : Ct X W kk) (F : OkC X.prog X.w X.K X.mg X.base G j c x ps fm) (hn : (G.nm c).length = nf) (hj : j + 1 ≤ kk) (hg : Gl X x) (ha : PA X (e :: es) (tL X.K G W (evs ms))) (hl : ms.length + 1 = ps.length := by rfl)
    (hdb : (x == ("__debug__" : Str)) = false := by decide) (he : starEach (e :: es) X.env = (false, eval e X.env) :: starEach es X.env := by rfl) (hpl : (backTo pos (starEach es X.env)).any (·.1) = false := by rfl) :
    PE X (.Call (.Name x p) (e :: es) [] pos) (tM X.K G W (eMake c nf fm ms)) := by
  obtain ⟨f, fd, hm, hk, hb, F⟩ := F
  refine peImp (pe_make hk F (ct.hr.mono hj) hg hm hb .nil passE0 ha hdb he hpl) fun σ H Q t => ?_
  obtain ⟨ρ, h, env, hr, he, p⟩ := t
  unfold eMake at p
  refine ⟨ρ, h, env, hr, he, ?_⟩
  cases q1 : evs ms env h with
  | bad => rw [q1] at p; exact p
  | exc c fs h' => rw [q1] at p; exact p
  | ok ds h1 =>
    rw [q1] at p
    simp only [R.bind_ok] at p
    intro ρ1 H1 vs e1 hr1 rs a dx na nd ne
    have ex1 : Ex X.K ρ1 H1 ρ1 (upd H1 dx (.own a)) := Ex.fresh nd
    have rh1 : Rh X.K G ρ1 (upd H1 dx (.own a)) h1 := hr1.aux nd
    have na1 : upd H1 dx (.own a) a = none := by rw [upd_ne (fun z => ne z.symm)]; exact na
    have ex2 : Ex X.K ρ1 (upd H1 dx (.own a)) (ρ1 ++ [a]) (upd (upd H1 dx (.own a)) a (.ins (G.at_ c) dx [])) := Ex.push na1
    have rh2 : Rh X.K G (ρ1 ++ [a]) (upd (upd H1 dx (.own a)) a (.ins (G.at_ c) dx [])) (h1 ++ [.ins c (List.replicate nf none)]) := by
      refine rh1.new na1 (.ins upd_same (by rw [List.length_replicate]; exact hn.symm) (fun i f hf => ?_) (fun _ _ => rfl) (by rw [setN_rep]; rfl))
      have hi : i < nf := by rw [← hn]; exact (List.getElem?_eq_some_iff.mp hf).1
      rw [List.getElem?_replicate, if_pos hi]
      trivial
    have ex3 : Ex X.K ρ1 H1 (ρ1 ++ [a]) (upd (upd H1 dx (.own a)) a (.ins (G.at_ c) dx [])) := (Ex.fresh nd).trans ex2
    refine ⟨ρ1 ++ [a], h1 ++ [.ins c (List.replicate nf none)], .ref h1.length :: ds, rh2, .cons (.ref (by rw [← hr1.len]; exact get_push_eq)) (by rw [List.append_nil]; exact rs.mono ex3), by rw [List.append_nil, List.length_cons, rs.length, evs_len q1, hl], ?_⟩
    cases q2 : fm (.ref h1.length :: ds) (h1 ++ [.ins c (List.replicate nf none)]) with
    | bad => rw [q2] at p; exact p.elim
    | exc c fs h' => rw [q2] at p; exact p.elim
    | ok d h2 =>
      rw [q2] at p
      cases d with
      | non =>
        dsimp only at p
        intro ρ2 H2 v e2 hr2 rv
        cases rv
        have pre : ρ2[h1.length]? = some a := e2.pre _ _ (by rw [← hr1.len]; exact get_push_eq)
        exact ⟨rfl, p ρ2 H2 _ ((e1.trans ex3).trans e2) hr2 (.ref pre)⟩
      | _ => exact p.elim
/-! ### dicts read -/
def opGetD : D → D → Hh → Option (D × Hh)
  | .ref n, y, h => match h[n]? with
    | some (.dK kvs) => (match keyOf y with
      | some k => (valP kvs k).map fun d => (d, h)
      | none => none)
    | _ => none
  | _, _, _ => none
def opInD : D → D → Hh → Option Bool
  | y, .ref n, h => match h[n]? with
    | some (.dK kvs) => (match keyOf y with
      | some k => some (valP kvs k).isSome
      | none => none)
    | _ => none
  | _, _, _ => none
theorem find_rel {κ : Type} [DecidableEq κ] {k : κ} : ∀ {kvs : List (κ × V)} {ds : List (κ × D)}, Paired (fun (p : κ × V) (q : κ × D) => p.1 = q.1 ∧ Rv K ρ H p.2 q.2) kvs ds →
    (∀ d, valP ds k = some d → ∃ v, valV kvs k = some v ∧ Rv K ρ H v d) ∧ (valP ds k = none → valV kvs k = none)
  | _, _, .nil => ⟨fun d e => by simp [valP] at e, fun _ => rfl⟩
  | _, _, .cons (a := p) (b := q) (l₁ := l1) (l₂ := l2) h t => by
    have ih := find_rel (k := k) t
    obtain ⟨h1, h2⟩ := h
    by_cases e : q.1 = k
    · have e' : p.1 = k := h1.trans e
      refine ⟨fun d z => ?_, fun z => ?_⟩
      · simp [valP, List.find?_cons, e] at z
        subst z
        exact ⟨p.2, valV_pos e', h2⟩
      · simp [valP, List.find?_cons, e] at z
    · have e' : ¬ p.1 = k := fun z => e (h1.symm.trans z)
      have s : valP (q :: l2) k = valP l2 k := by simp [valP, List.find?_cons, e]
      rw [s, valV_neg e']
      exact ih
theorem se_getD (hu : X.A.units + 1 < cLine) (ha : PE X o (tM X.K G W mo)) (hb : PE X e (tM X.K G W me)) (hs : NoSl e := by exact fun _ _ => rfl) : PE X (.Subscript o e pos) (tM X.K G W (eB opGetD mo me)) := peImp (pe_dget hu ha hb hs) fun σ H Q t => by
  obtain ⟨ρ, h, env, hr, he, p⟩ := t
  refine tG_mono (tG_bind (rel := relV X.K) hr he p) fun v H1 ⟨ρ1, h1, d, e1, hr1, he1, r1, p1⟩ => ?_
  refine tG_mono (tG_bind (rel := relV X.K) hr1 he1 p1) fun w H2 ⟨ρ2, h2, d2, e2, hr2, he2, r2, p2⟩ => ?_
  obtain ⟨d3, h3, eq, kk⟩ := p2.opt
  unfold opGetD at eq
  split at eq
  · cases r1 with
    | @ref _ a ra =>
      split at eq
      · rename_i kvs e0
        split at eq
        · rename_i ky ek
          rw [Option.map_eq_some_iff] at eq
          obtain ⟨d4, e4, e5⟩ := eq
          cases e5
          have z := hr2.at_ (e2.pre _ _ ra) e0
          cases z with
          | dK q r =>
            obtain ⟨v4, f1, f2⟩ := (find_rel (k := ky) r).1 _ e4
            have hw := rv_keyD (k := ky) (by rw [← keyOf_eq ek]; exact r2)
            subst hw
            refine ⟨a, v4, rfl, ?_, kk _ _ _ Ex.refl hr2 f2⟩
            rw [← f1]
            exact DGet.k q
        · cases eq
      · cases eq
  · cases eq
theorem inD_imp (neg : Bool) {a : Addr} {y : V} {dx dy : D} {kk : Bool} (hr : Rh K G ρ H h) (rx : Rv K ρ H (.ref a) dx) (ry : Rv K ρ H y dy) (e : opInD dy dx h = some kk) : ∃ o, DGet H a y o ∧ o.isSome = kk := by
  unfold opInD at e
  split at e
  · cases rx with
    | ref ra =>
      split at e
      · rename_i kvs e0
        split at e
        · rename_i ky ek
          cases e
          have z := hr.at_ ra e0
          cases z with
          | dK q r =>
            have hw := rv_keyD (k := ky) (by rw [← keyOf_eq ek]; exact ry)
            subst hw
            refine ⟨_, DGet.k q, ?_⟩
            have f := find_rel (k := ky) r
            cases e4 : valP kvs ky with
            | none => rw [f.2 e4]; rfl
            | some d => obtain ⟨v, f1, _⟩ := f.1 d e4; rw [f1]; rfl
        · cases e
      · cases e
  · cases e
def opInDe (x y : D) (h : Hh) : Option (D × Hh) := (opInD x y h).map fun b => (.bl b, h)
def opNinDe (x y : D) (h : Hh) : Option (D × Hh) := (opInD x y h).map fun b => (.bl (!b), h)
theorem opInD_ref {y x : D} {h : Hh} {k : Bool} (e : opInD y x h = some k) : ∃ n, x = .ref n := by
  cases x <;> first | exact ⟨_, rfl⟩ | (simp [opInD] at e)
theorem inD_bin (σ : L2.St) (H : Hp) (Q : VK) (t : tM X.K G W (eB opInDe me mo) σ H Q) : tDIn (tM X.K G W me) (tM X.K G W mo) σ H Q := by
  obtain ⟨ρ, h, env, hr, he, p⟩ := t
  refine tG_mono (tG_bind (rel := relV X.K) hr he p) fun v H1 ⟨ρ1, h1, d, e1, hr1, he1, r1, p1⟩ => ?_
  refine tG_mono (tG_bind (rel := relV X.K) hr1 he1 p1) fun w H2 ⟨ρ2, h2, d2, e2, hr2, he2, r2, p2⟩ => ?_
  obtain ⟨d3, h3, eq, kk⟩ := p2.opt
  unfold opInDe at eq
  rw [Option.map_eq_some_iff] at eq
  obtain ⟨b, e4, e5⟩ := eq
  cases e5
  obtain ⟨n, rfl⟩ := opInD_ref e4
  cases r2 with
  | @ref _ a ra =>
    obtain ⟨o, g, hb⟩ := inD_imp false hr2 (.ref ra) (r1.mono e2) e4
    subst hb
    exact ⟨a, o, rfl, g, kk _ _ _ Ex.refl hr2 (.bl _)⟩
theorem ninD_bin (σ : L2.St) (H : Hp) (Q : VK) (t : tM X.K G W (eB opNinDe me mo) σ H Q) : tDNotIn (tM X.K G W me) (tM X.K G W mo) σ H Q := by
  obtain ⟨ρ, h, env, hr, he, p⟩ := t
  refine tG_mono (tG_bind (rel := relV X.K) hr he p) fun v H1 ⟨ρ1, h1, d, e1, hr1, he1, r1, p1⟩ => ?_
  refine tG_mono (tG_bind (rel := relV X.K) hr1 he1 p1) fun w H2 ⟨ρ2, h2, d2, e2, hr2, he2, r2, p2⟩ => ?_
  obtain ⟨d3, h3, eq, kk⟩ := p2.opt
  unfold opNinDe at eq
  rw [Option.map_eq_some_iff] at eq
  obtain ⟨b, e4, e5⟩ := eq
  cases e5
  obtain ⟨n, rfl⟩ := opInD_ref e4
  cases r2 with
  | @ref _ a ra =>
    obtain ⟨o, g, hb⟩ := inD_imp true hr2 (.ref ra) (r1.mono e2) e4
    subst hb
    exact ⟨a, o, rfl, g, kk _ _ _ Ex.refl hr2 (.bl _)⟩
theorem st_inD (hu : X.A.units + 1 < cLine) (ha : PE X e (tM X.K G W me)) (hb : PE X o (tM X.K G W mo)) (hm : behindInMarks .In o = false := by rfl) : PT X (.Compare e [.In] [o] pos) (tT X.K G W (tBl (eB opInDe me mo))) := ptImp (pt_cmp (pc_din hu ha hb) hm) fun σ H Q t => tB_imp inD_bin σ H Q t
theorem st_ninD (hu : X.A.units + 1 < cLine) (ha : PE X e (tM X.K G W me)) (hb : PE X o (tM X.K G W mo)) (hm : behindInMarks .NotIn o = false := by rfl) : PT X (.Compare e [.NotIn] [o] pos) (tT X.K G W (tBl (eB opNinDe me mo))) := ptImp (pt_cmp (pc_dnotin hu ha hb) hm) fun σ H Q t => tB_imp ninD_bin σ H Q t
end
end Sm
/-! SmSort: sorted(xs, key=f), f a def of the text that leaves the plain heap as it is; the new list is a value. -/
namespace Sm
open PySem L2 PyProof.Rows PySem.W
/-! ### the mirror -/
open Classical in
noncomputable def kysOf (fm : Fm) (h : Hh) : List D → Option (List D)
  | [] => some []
  | d :: ds => match fm [d] h with
    | .ok k h' => if h' = h then (match kysOf fm h ds with
      | some ks => some (k :: ks)
      | none => none) else none
    | _ => none
noncomputable def sortD (ds ks : List D) : List D := ((ds.zip ks).mergeSort (dataLe false fun p : D × D => pyd p.2)).map (·.1)
open Classical in
noncomputable def opSortK (fm : Fm) : D → Hh → Option (D × Hh)
  | .fls ds, h => match kysOf fm h ds with
    | some ks => if AllAlike (ks.map pyd) ∧ Sortable (ks.map pyd) ∧ okDs 60 ks = true then some (.fls (sortD ds ks), h) else none
    | none => none
  | .ref n, h => match h[n]? with
    | some (.lst ds) => match kysOf fm h ds with
      | some ks => if AllAlike (ks.map pyd) ∧ Sortable (ks.map pyd) ∧ okDs 60 ks = true then some (.fls (sortD ds ks), h) else none
      | none => none
    | _ => none
  | _, _ => none
theorem kysOf_len {fm : Fm} {h : Hh} : ∀ {ds ks : List D}, kysOf fm h ds = some ks → ks.length = ds.length
  | [], ks, e => by cases e; rfl
  | d :: ds, ks, e => by
    unfold kysOf at e
    split at e
    · split at e
      · split at e
        · cases e
          rename_i e2
          simp [kysOf_len e2]
        · cases e
      · cases e
    · cases e
theorem kysOf_at {fm : Fm} {h : Hh} : ∀ {ds ks : List D} {i : Nat} {d k : D}, kysOf fm h ds = some ks → ds[i]? = some d → ks[i]? = some k → fm [d] h = .ok k h
  | [], _, i, d, k, e, e1, _ => by simp at e1
  | d' :: ds, ks, i, d, k, e, e1, e2 => by
    unfold kysOf at e
    split at e
    · split at e
      · split at e
        · cases e
          rename_i k' h' q0 q1 _ ks' q2
          subst q1
          cases i with
          | zero =>
            simp at e1 e2
            subst e1 e2
            exact q0
          | succ i => exact kysOf_at q2 (by simpa using e1) (by simpa using e2)
        · cases e
      · cases e
    · cases e
/-! ### the walk of the keys -/
section
variable {X : Cx} {pins : List (Addr × Obj)} {σ : L2.St} {G : Cl} {ρ : List Addr} {H : Hp} {h : Hh} {s : Shared}
theorem okD_depth {d : D} {k : Nat} (e : okD k d = true) : (pyd d).depth ≤ k := (depth_ok k d e).1
/-- the values read as their data -/
theorem reads_pyd {H' : Hp} {ρ' : List Addr} (I : Inv X pins σ H' s) (hr : Rh X.K G ρ' H' h) : ∀ {ks : List D} {kvs : List V} {us : List Value}, Rvs X.K ρ' H' kvs ks → Vals kvs us → okDs 60 ks = true →
    EachIs (fun v k => ∃ as, Reads s.heap v k as) us (ks.map pyd)
  | [], _, _, r, v, _ => by
    cases r
    cases v
    exact .nil
  | k :: ks, _, _, r, v, o => by
    cases r with
    | cons r1 r2 =>
      cases v with
      | cons v1 v2 =>
        simp only [okDs, Bool.and_eq_true] at o
        exact .cons (Dp.reads I _ _ _ (toP_dp hr 60 k _ _ r1 (toP_ok h 60 60 k (Nat.le_refl _) o.1)) v1) (reads_pyd I hr r2 v2 o.2)
theorem each_zip {α β : Type} {R : α → β → Prop} {γ : Type} : ∀ {as : List α} {bs : List β} {cs : List γ}, EachIs R as bs → cs.length = bs.length → EachIs (fun a (p : β × γ) => R a p.1) as (bs.zip cs)
  | _, _, [], .nil, _ => .nil
  | _, _, c :: cs, .nil, e => by simp at e
  | _, _, [], .cons _ _, e => by simp at e
  | _, _, c :: cs, .cons h t, e => .cons h (each_zip t (by simpa using e))
theorem each_rv {K : PySem.W.Frag} : ∀ {xs : List V} {us : List Value} {ds : List D}, Vals xs us → Rvs K ρ H xs ds → EachIs (fun u d => ∃ x, RelV x u ∧ Rv K ρ H x d) us ds
  | _, _, _, .nil, r => by
    cases r
    exact .nil
  | _, _, _, .cons v1 v2, r => by
    cases r with
    | cons r1 r2 => exact .cons ⟨_, v1, r1⟩ (each_rv v2 r2)
theorem rv_each {K : PySem.W.Frag} : ∀ {us : List Value} {ds : List D}, EachIs (fun u d => ∃ x, RelV x u ∧ Rv K ρ H x d) us ds → ∃ xs, Vals xs us ∧ Rvs K ρ H xs ds
  | _, _, .nil => ⟨[], .nil, .nil⟩
  | _, _, .cons ⟨x, a, b⟩ t => by
    obtain ⟨xs, h1, h2⟩ := rv_each t
    exact ⟨x :: xs, .cons a h1, .cons b h2⟩
theorem zip_fst {α β : Type} : ∀ {as : List α} {bs : List β}, bs.length = as.length → (as.zip bs).map (·.2) = bs
  | [], [], _ => rfl
  | [], _ :: _, e => by simp at e
  | _ :: _, [], e => by simp at e
  | a :: as, b :: bs, e => by simp [zip_fst (as := as) (bs := bs) (by simpa using e)]
theorem val_at : ∀ {xs : List V} {us : List Value} {i : Nat} {u : Value}, Vals xs us → us[i]? = some u → ∃ x, xs[i]? = some x ∧ RelV x u
  | _, _, _, _, .nil, e => by simp at e
  | _, _, 0, _, .cons h _, e => by
    simp at e
    subst e
    exact ⟨_, rfl, h⟩
  | _, _, i + 1, _, .cons _ t, e => by
    obtain ⟨x, h1, h2⟩ := val_at (i := i) t (by simpa using e)
    exact ⟨x, by simpa using h1, h2⟩
theorem each_fst {α β γ : Type} {R : α → β → Prop} : ∀ {as : List α} {bs : List (β × γ)}, EachIs (fun a p => R a p.1) as bs → EachIs R as (bs.map (·.1))
  | _, _, .nil => .nil
  | _, _, .cons h t => .cons h (each_fst t)
/-- a record of ours becomes a tracked list -/
theorem Inv.born {h' : Heap} {t' : Nat} {ch : List Addr} {a : Addr} {xs : List V} {its : List Value} {c : Nat} (I : Inv X pins σ H s) (k : ∀ b o, b ∉ ch → s.heap.get? b = some o → h'.get? b = some o) (hf : ∀ b ∈ ch, FpOk X pins H b) (ha : a ∈ ch)
    (hx : Vals xs its) (hz : xs.length ≤ sizeLine) (e : h'.get? a = some (seqObj "list" its.toArray c)) : Inv X pins σ (upd H a (.lst xs)) { s with heap := h', toks := t' } := by
  have hn : H a = none := (hf a ha).1
  have nit : ∀ b u, H b = some u → b ∉ ch := fun b u e z => by
    have q := (hf b z).1
    rw [q] at e; cases e
  refine I.step (g' := s.gens) (d' := s.drawn) (ch := ch) (fun b hb => ⟨(hf b hb).2.2.2.1, (hf b hb).2.1, (hf b hb).2.2.2.2.1, (hf b hb).2.2.2.2.2⟩) (fun b o _ _ hc e _ => k b o hc e) (fun b o _ _ hc e _ => ⟨o.slots, k b o hc e⟩)
    (fun b o hc e n => ?_) (fun b o hc e => ⟨o, k b o hc e⟩) (fun b xs e => ?_) (fun b o u e => ?_) (fun b ps e => ⟨#[], ?_⟩) (fun m hm => ?_) (fun b u e' => ?_) I.bare
  · rw [upd_ne (fun z => hc (by rw [z]; exact ha))]; exact n
  · rw [upd_ne (ne_of_none e hn)]; exact e
  · rw [upd_ne (ne_of_none e hn)]; exact e
  · rw [upd_ne (ne_of_none e hn), e]; simp
  · obtain ⟨o, es, ep, ho, r⟩ := hm
    exact ⟨o, es, ep, k _ o (fun z => (hf _ z).2.1 rfl) ho, r⟩
  · by_cases hb : b = a
    · subst hb
      rw [upd_same] at e'
      cases e'
      exact ⟨hz, its, c, hx, e⟩
    · rw [upd_ne hb] at e'
      refine (I.hok b u e').stay (fun d v hc q => k d v ?_ q) (fun d q => by rw [upd_ne (ne_of_none q hn)]; exact q) fun d xs q => by rw [upd_ne (ne_of_none q hn)]; exact q
      rcases hc with z | z
      · rw [z]; exact nit b u e'
      · exact nit d _ z

/-- sorted(l, key=f) with f a def of the text -/
theorem sortK_run {k j : Nat} {ps1 : List Str} {fm : Fm} {f : Addr} {fd : FuncData} {l : Addr} {xs : List V} {ds ks : List D} {E : Value → Shared → Prop} {Q : VK} (hr : Room k X.A) (hj : j + 1 ≤ k) (hb : Binds X.K fd ps1 []) (F : FnOk X.prog X.w X.K X.mg X.base (L2.CX X.prog X.w) j f fd ps1 (spM X.K G ps1.length fm)) (hp1 : ps1.length = 1)
    (I : Inv X pins σ H s) (hs : SqL X.K H l xs) (rh : Rh X.K G ρ H h) (rs : Rvs X.K ρ H xs ds) (ek : kysOf fm h ds = some ks) (hal : AllAlike (ks.map pyd)) (hsk : Sortable (ks.map pyd)) (hok : okDs 60 ks = true)
    (q : ∀ ρ' H' v, Ex X.K ρ H ρ' H' → Rh X.K G ρ' H' h → Rv X.K ρ' H' v (.fls (sortD ds ks)) → Q v H') :
    wpAny (model X.prog X.w) X.A (call (.builtin "sorted") [.ref l] [(Str.ofString "key", .ref f)]) (EP X pins σ Q) E s := by
  obtain ⟨vs, rv, hl, hz⟩ := I.list hs
  have hZ : vs.length ≤ sizeLine := by rw [← rv.length]; exact hz
  have lk : ks.length = ds.length := kysOf_len ek
  have lv : vs.length = ds.length := by rw [← rv.length, rs.length]
  refine sorted_of_sort hl.isList hZ (ksk_s1 _ _) (fun x => ksk_l1 _ _) fun E' => ?_
  rw [ksk_t1]
  obtain ⟨a, ea⟩ : ∃ a, a = s.heap.objs.size + 1 := ⟨_, rfl⟩
  rw [← ea]
  have ho : (copyHeap s.heap vs).get? a = some (seqObj "list" vs.toArray 0) := by rw [ea]; exact copyHeap_at s.heap vs
  obtain ⟨e1, ho1⟩ : ∃ e1, ((copyHeap s.heap vs).update a (Obj.mapSeq fun _ => (#[] : Array Value))).get? a = some (seqObj "list" #[] e1) := ⟨_, get?_update_seq ho fun _ => #[]⟩
  have na0 : ∀ b o, s.heap.get? b = some o → b ≠ a := fun b o e => by
    rw [ea]
    exact Nat.ne_of_lt (Nat.lt_succ_of_lt (Heap.lt_size e))
  have haS : a < (copyHeap s.heap vs).objs.size := Heap.lt_size ho
  obtain ⟨kS, ekS⟩ : ∃ kS, kS = (((copyHeap s.heap vs).update a (Obj.mapSeq fun _ => (#[] : Array Value))).push (seqObj "tuple" vs.toArray 0)).objs.size := ⟨_, rfl⟩
  have hkS : kS = (copyHeap s.heap vs).objs.size + 1 := by rw [ekS, size_push', Heap.size_update]
  have hka : kS ≠ a := by rw [hkS]; exact Nat.ne_of_gt (Nat.lt_succ_of_lt haS)
  unfold ksk_tree
  refine wpAny_bind (listItems_at ho rfl ?_)
  refine wpAny_bind (listUpdate_at ho rfl ?_ (by rw [List.size_toArray]; exact hZ) (Nat.zero_le _))
  refine wpAny_bind (seqEpoch_at ho1 rfl ?_)
  refine wpAny_bind (wpAny_newTuple ?_ (by show vs.length ≤ _; exact hZ))
  refine wpAny_bind (wpAny_newList ?_ (Nat.zero_le _))
  refine wpAny_holding ?_
  obtain ⟨hS, ehS⟩ : ∃ hS, hS = (((copyHeap s.heap vs).update a (Obj.mapSeq fun _ => (#[] : Array Value))).push (seqObj "tuple" vs.toArray 0)).push (seqObj "list" #[] 0) := ⟨_, rfl⟩
  show wpAny _ _ (ksk_rest a (.ref f) false vs.toArray e1 (.ref (((copyHeap s.heap vs).update a (Obj.mapSeq fun _ => (#[] : Array Value))).push (seqObj "tuple" vs.toArray 0)).objs.size)) _ _ { s with heap := (((copyHeap s.heap vs).update a (Obj.mapSeq fun _ => (#[] : Array Value))).push (seqObj "tuple" vs.toArray 0)).push (seqObj "list" #[] 0) }
  rw [← ekS, ← ehS]
  have nkS : hS.get? kS = some (seqObj "list" #[] 0) := by rw [ehS, ekS]; exact Heap.get?_push_size _ rfl
  have naS : hS.get? a = some (seqObj "list" #[] e1) := by rw [ehS]; exact Heap.get?_push_of_some _ (Heap.get?_push_of_some _ ho1)
  have oldS : ∀ b o, s.heap.get? b = some o → hS.get? b = some o := fun b o e => by
    rw [ehS]
    exact sortingHeap_old (na0 b o e) (copyHeap_old e)
  have hkz : s.heap.objs.size ≤ kS := by rw [hkS]; omega
  have IS : Inv X pins σ H { s with heap := hS } := I.turnedL (ch := []) (t' := s.toks) (fun b o _ e => oldS b o e) (fun b z => absurd z (by simp))
  have fpk : FpOk X pins H kS := I.fpOk hkz (I.hok.fresh hkz)
  have fpa : FpOk X pins H a := I.fpOk (by rw [ea]; omega) (I.hok.fresh (by rw [ea]; omega))
  have fp' : ∀ {b : Addr} {H' : Hp}, FpOk X pins H b → H' b = none → FpOk X pins H' b := fun p n => ⟨n, p.2⟩
  unfold ksk_rest
  refine wpAny_bind (wpAny_rule ?_)
  first
    | rw [List.forIn_toArray]
    | (rw [← Array.forIn_toList]; simp only [List.toList_toArray])
    | rw [← Array.forIn_toList]
  refine wpAny_bind (ksk_fold (fun i s' => ∃ ρ' H' kA e kvs, Inv X pins σ H' s' ∧ Ex X.K ρ H ρ' H' ∧ Rh X.K G ρ' H' h ∧ s'.heap.get? kS = some (seqObj "list" kA e) ∧ s'.heap.get? a = some (seqObj "list" #[] e1) ∧
      H' kS = none ∧ H' a = none ∧ Vals kvs kA.toList ∧ Rvs X.K ρ' H' kvs (ks.take i)) vs 0 _
    ⟨ρ, H, #[], 0, [], IS, Ex.refl, rh, nkS, naS, fpk.1, fpa.1, .nil, by rw [List.take_zero]; exact .nil⟩ ?step ?done)
  case step =>
    rintro i u s' hu ⟨ρ', H', kA, e, kvs, I', ex, rh', nk, na, fk, fa, vk, rk⟩
    simp only [Nat.zero_add] at rk ⊢
    have hi : i < vs.length := (List.getElem?_eq_some_iff.mp hu).1
    obtain ⟨x, hx, rx⟩ := val_at rv hu
    obtain ⟨d, hd, rd⟩ := rs.getV hx
    obtain ⟨kd, hkd⟩ : ∃ kd, ks[i]? = some kd := ⟨_, List.getElem?_eq_getElem (by omega)⟩
    have fk0 := kysOf_at ek hd hkd
    have hsz : kA.size ≤ vs.length := by
      have h1 := vk.length
      rw [rk.length, List.length_take] at h1
      rw [← Array.length_toList, ← h1]
      omega
    have room : Room j X.A.in1.in1 := by
      have h1 := hr.mono hj
      exact ⟨h1.hd, by have := h1.dp; show X.A.depth + 3 * j + 5 < _; omega, by have := h1.un; show X.A.units + 1 + 1 + 16 * j + 200 < _; omega⟩
    have rvd : Rv X.K ρ' H' x d := rd.mono ex
    refine wpAny_bind (wpAny_attempt (wpAny_call (codeAny_mono (F.run X.A.in1.in1 X.stack s' H' ⟨[u], []⟩ [u] [x] (fun v1 H1 => ∃ ρ1, Ex X.K ρ' H' ρ1 H1 ∧ Rh X.K G ρ1 H1 h ∧ Rv X.K ρ1 H1 v1 kd) (fun _ _ _ => False) room I'.env0.in1.in1
      (by have := hb s' [u] I'.kIn (by rw [hp1]; rfl); simpa using this) (.cons rx .nil)
      ⟨ρ', h, [d], rh', .cons rvd .nil, by rw [hp1]; rfl, by rw [fk0]; exact fun ρ1 H1 v1 e2 r2 w2 => ⟨ρ1, e2, r2, w2⟩⟩) fun r s1 hq => ?_)))
    cases r with
    | error er =>
      obtain ⟨_, _, _, _, _, _, _, _, _, _, _, _, hF⟩ := hq
      exact hF.elim
    | ok fl =>
      cases fl with
      | next => exact False.elim hq
      | brk => exact False.elim hq
      | cont => exact False.elim hq
      | ret u1 =>
        obtain ⟨v1, H1, os1, bare1, un1, hok1, r1, ρ1, ex1, rh1, rv1⟩ := hq
        have I1 : Inv X pins σ H1 s1 := I'.call' (ch := []) os1 un1 hok1 bare1 (fun b z => absurd z (by simp))
        have stk : ∀ {b : Addr}, FpOk X pins H b → b ∉ frs X.stack := fun {b} p z => (List.mem_cons.mp (I'.stkSub b z)).elim p.2.1 p.2.2.1
        have nk1 : s1.heap.get? kS = some (seqObj "list" kA e) := un1.keep kS _ nk fk (stk fpk) (by simp)
        have na1 : s1.heap.get? a = some (seqObj "list" #[] e1) := un1.keep a _ na fa (stk fpa) (by simp)
        have fk1 : H1 kS = none := un1.free kS _ nk fk (by simp)
        have fa1 : H1 a = none := un1.free a _ na fa (by simp)
        obtain ⟨c2, hc2⟩ : ∃ c2, (s1.heap.update kS (Obj.mapSeq (·.push u1))).get? kS = some (seqObj "list" (kA.push u1) c2) := ⟨_, get?_update_seq nk1 (·.push u1)⟩
        have sb := Heap.SameBut.update s1.heap kS (Obj.mapSeq (·.push u1))
        dsimp only
        refine wpAny_bind (listUpdate_at nk1 rfl ?_ (Nat.le_trans hsz hZ) (Nat.le_trans (Nat.le_of_eq (Array.size_push ..)) (Nat.succ_le_succ (Nat.le_trans hsz hZ))))
        refine wpAny_pure ⟨rfl, ρ1, H1, kA.push u1, c2, kvs ++ [v1], ?_, ex.trans ex1, rh1, hc2, (sb.2 a hka.symm).trans na1, fk1, fa1, ?_, ?_⟩
        · exact I1.turnedL (ch := [kS]) (t' := s1.toks) (fun b o hb e => (sb.2 b (by simpa using hb)).trans e) (fun b z => by
            have : b = kS := by simpa using z
            rw [this]
            exact fp' fpk fk1)
        · rw [Array.toList_push]
          exact vk.append (.cons r1 .nil)
        · rw [List.take_add_one, hkd]
          exact (rk.mono ex1).append (.cons rv1 .nil)
  case done =>
    rintro s' ⟨ρ', H', kA, e, kvs, I', ex, rh', nk, na, fk, fa, vk, rk⟩
    have e3 : ks.take (0 + vs.length) = ks := List.take_of_length_le (by omega)
    rw [e3] at rk
    have hsz : kA.size = vs.length := by
      have h1 := vk.length
      rw [rk.length, lk, ← lv] at h1
      rw [← Array.length_toList]
      exact h1.symm
    refine wpAny_bind (listItems_at nk rfl ?_)
    have hk' := reads_pyd I' rh' rk vk hok
    have hu : ∀ d, d ∈ ks.map pyd → X.A.in1.in1.units + d.depth < cLine := fun d hd => by
      obtain ⟨kd, hm, rfl⟩ := List.mem_map.mp hd
      have h1 := okD_depth (okDs_mem hok hm)
      have h2 := hr.units
      show X.A.units + 1 + 1 + _ < _
      have h3 := hr.un
      omega
    obtain ⟨h₁, g1, g2⟩ := L2.restrict s'.heap fun b => decide (b ≠ kS)
    have kp : KeepsBut a h₁ s'.heap := fun b o _ q => by
      by_cases z : b = kS
      · rw [g2 b (by simpa using z)] at q; cases q
      · rw [g1 b (by simpa using z)] at q; exact q
    refine keyH_end (κ := dataKind s'.heap (ks.map pyd)) (h₁ := h₁) kp (g2 kS (by simp)) nk na hka (SortsAt.data hk' hal hsk hu) hsz hZ fun h3 tk3 c k3 n3 => ⟨rfl, ?_⟩
    have ko : KeyedOut false (ks.map pyd) vs (sortVals (dataKind s'.heap (ks.map pyd)) false kA.toList vs) := ⟨s'.heap, kA.toList, hal, rfl, hk'⟩
    have ez : (ds.zip ks).map (fun p : D × D => pyd p.2) = ks.map pyd := by
      have := zip_fst (as := ds) (bs := ks) lk
      rw [← this, List.map_map]
      simp [this]
    rw [← ez] at ko
    have eo := keyedOut_each (fun p : D × D => pyd p.2) ko (each_zip (each_rv rv (rs.mono ex)) lk)
    rw [ez] at eo
    obtain ⟨outv, ov, orv⟩ := rv_each (K := X.K) (ρ := ρ') (H := H') (ds := sortD ds ks) (us := sortVals (dataKind s'.heap (ks.map pyd)) false kA.toList vs) (each_fst eo)
    have ol : outv.length ≤ sizeLine := by
      rw [ov.length, sortVals_length false (by rw [Array.length_toList]; exact hsz)]
      exact hZ
    have I3 : Inv X pins σ (upd H' a (.lst outv)) { s' with heap := h3, toks := tk3 } := Inv.born (ch := [a, kS]) (c := c) I' (fun b o hb q => by
        simp only [List.mem_cons, List.not_mem_nil, or_false, not_or] at hb
        exact k3 b o hb.1 ((g1 b (by simpa using hb.2)).trans q)) (fun b hb => by
        simp only [List.mem_cons, List.not_mem_nil, or_false] at hb
        rcases hb with rfl | rfl
        · exact fp' fpa fa
        · exact fp' fpk fk) (by simp) ov ol n3
    obtain ⟨od, I4⟩ := I3.lock (upd_same) trivial
    have e4 : upd (upd H' a (.lst outv)) a (.frz od (.lst outv)) = upd H' a (.frz od (.lst outv)) := by
      funext b
      by_cases q : b = a
      · rw [q, upd_same, upd_same]
      · rw [upd_ne q, upd_ne q, upd_ne q]
    rw [e4] at I4
    exact ⟨.ref a, _, I4, rfl, q ρ' _ _ (ex.trans (Ex.fresh fa)) (rh'.aux fa) (.fls (.inl ⟨od, upd_same⟩) (orv.mono (Ex.fresh fa)))⟩
end
section
variable {X : Cx} {G : Cl} {W : WX} {e : Expr} {pos p p2 kp : Pos} {me : M} {k j : Nat} {kf : Str} {fm : Fm} {ps1 : List Str}
def rSortK (X : Cx) (G : Cl) (W : WX) (fm : Fm) (f : Addr) : List V → List V → Hp → VK → Prop := fun vs zs H Q => ∃ ρ h l xs ds ks, vs = [.ref l] ∧ zs = [.ref f] ∧ SqL X.K H l xs ∧ Rh X.K G ρ H h ∧ Rvs X.K ρ H xs ds ∧ kysOf fm h ds = some ks ∧ AllAlike (ks.map pyd) ∧ Sortable (ks.map pyd) ∧ okDs 60 ks = true ∧
  ∀ ρ' H' v, Ex X.K ρ H ρ' H' → Rh X.K G ρ' H' h → Rv X.K ρ' H' v (.fls (sortD ds ks)) → Q v H'
theorem call_sortK {f : Addr} {fd : FuncData} (hr : Room k X.A) (hj : j + 1 ≤ k) (hb : Binds X.K fd ps1 []) (F : FnOk X.prog X.w X.K X.mg X.base (L2.CX X.prog X.w) j f fd ps1 (spM X.K G ps1.length fm)) (hp1 : ps1.length = 1) :
    CallRK X (.builtin "sorted") [Str.ofString "key"] (rSortK X G W fm f) := by
  intro pins s σ H xs zs us ws Q I rx rz h
  obtain ⟨ρ, h, l, vs, ds, ks, rfl, rfl, hs, rh, rs, ek, hal, hsk, hok, q⟩ := h
  cases rx with
  | cons r1 r2 =>
    cases r2
    cases r1
    cases rz with
    | cons z1 z2 =>
      cases z2
      cases z1
      exact sortK_run hr hj hb F hp1 I hs rh rs ek hal hsk hok q
open Classical in
/-- sorted(e, key=kf) -/
theorem se_sortK (ct : Ct X W k) (F : Ok X.prog X.w X.K X.mg X.base G j kf ps1 fm) (hj : j + 1 ≤ k) (hp1 : ps1.length = 1) (hg : Gl X "sorted") (hm : X.mg "sorted" = none) (hgk : Gl X kf) (he : PE X e (tM X.K G W me)) (hdb : (kf == ("__debug__" : Str)) = false := by decide)
    (he1 : backTo pos (starEach [e] X.env) = (false, eval e X.env) :: backTo pos (starEach [] X.env) := by rfl) (hpl : (backTo pos (starEach [e] X.env)).any (·.1) = false := by rfl)
    (hall : (backToKw pos (keywordEach [⟨some "key", .Name kf p2, kp⟩] X.env)).all (·.1.isSome) = true := by rfl) (hnone : (backToKw pos (keywordEach [⟨some "key", .Name kf p2, kp⟩] X.env)).any (·.1.isNone) = false := by rfl)
    (hks : (backToKw pos (keywordEach [⟨some "key", .Name kf p2, kp⟩] X.env)).filterMap (·.1) = [Str.ofString "key"] := by rfl) (hs1 : starEach [e] X.env = (false, eval e X.env) :: starEach [] X.env := by rfl) :
    PE X (.Call (.Name "sorted" p) [e] [⟨some "key", .Name kf p2, kp⟩] pos) (tM X.K G W (eU (opSortK fm) me)) := by
  obtain ⟨f, fd, hmf, hkf, hb, F⟩ := F
  refine peImp (pe_callBK (call_sortK (W := W) ct.hr hj hb F hp1) hg hm bt_sorted (pa_cons he pa_nil hs1) (pk_cons (pe_glob hgk hmf (v := .ref f) rfl hdb) pk_nil) (by decide) (by decide) he1 hpl hall hnone hks) fun σ H Q t => ?_
  obtain ⟨ρ, h, env, hr, he, p⟩ := t
  refine tG_mono (tG_bind (rel := relV X.K) hr he p) fun v H1 ⟨ρ1, h1, d, e1, hr1, he1, r1, p1⟩ => ?_
  obtain ⟨d2, h2, eq, kk⟩ := p1.opt
  have fin : ∀ {l : Addr} {xs : List V} {ds : List D}, SqL X.K H1 l xs → Rvs X.K ρ1 H1 xs ds → (match kysOf fm h1 ds with
      | some ks => if AllAlike (ks.map pyd) ∧ Sortable (ks.map pyd) ∧ okDs 60 ks = true then some (.fls (sortD ds ks), h1) else none
      | none => none) = some (d2, h2) → rSortK X G W fm f [.ref l] [.ref f] H1 Q := by
    intro l xs ds hs rs e0
    split at e0
    · rename_i ks ek
      split at e0
      · rename_i hc
        cases e0
        exact ⟨ρ1, h1, l, xs, ds, ks, rfl, rfl, hs, hr1, rs, ek, hc.1, hc.2.1, hc.2.2, fun ρ' H' v a b c => kk _ _ _ a b c⟩
      · cases e0
    · cases e0
  unfold opSortK at eq
  split at eq
  · cases r1 with
    | fls t r => exact fin t.sq r eq
  · cases r1 with
    | ref ra =>
      split at eq
      · rename_i e0
        obtain ⟨vs, q, r⟩ := ref_seq hr1 ra e0
        exact fin q r eq
      · cases eq
  · cases eq
end
end Sm
/-! SmOrd: <, <=, >, >= of any alike data (tuples of numbers, texts, tuples); a statement leaves nothing new behind; tuples of the module's top. -/
namespace Sm
open PySem L2 PyProof.Rows PySem.W
section
variable {K : PySem.W.Frag} {G : Cl} {ρ : List Addr} {H : Hp} {h : Hh} {X : Cx} {W : WX} {ma mb : M} {a b : Expr} {pos : Pos}
/-- the two data can be ordered -/
def ordOk (x y : D) : Prop := okD 60 x = true ∧ okD 60 y = true ∧ alike (pyd x) (pyd y) = true ∧ pyd x ≠ .none
open Classical in
noncomputable def opLtD (x y : D) (h : Hh) : Option (D × Hh) := if ordOk x y then some (.bl (dataLt (pyd x) (pyd y)), h) else none
open Classical in
noncomputable def opGtD (x y : D) (h : Hh) : Option (D × Hh) := if ordOk x y then some (.bl (dataLt (pyd y) (pyd x)), h) else none
open Classical in
noncomputable def opLeD (x y : D) (h : Hh) : Option (D × Hh) := if ordOk x y then some (.bl (!dataLt (pyd y) (pyd x)), h) else none
open Classical in
noncomputable def opGeD (x y : D) (h : Hh) : Option (D × Hh) := if ordOk x y then some (.bl (!dataLt (pyd x) (pyd y)), h) else none
/-- the one reading, or else the other -/
def orOp (f g : D → D → Hh → Option (D × Hh)) (x y : D) (h : Hh) : Option (D × Hh) := match f x y h with
  | some r => some r
  | none => g x y h
noncomputable abbrev opLtX := orOp opLt opLtD
noncomputable abbrev opLeX := orOp opLe opLeD
noncomputable abbrev opGtX := orOp opGt opGtD
noncomputable abbrev opGeX := orOp opGe opGeD
def rDD (K : PySem.W.Frag) (f : PyData → PyData → Bool) : R2 := fun x y H Q => ∃ d e, Dp K H x d ∧ Dp K H y e ∧ alike d e = true ∧ d ≠ .none ∧ d.depth ≤ 60 ∧ Q (.bl (f d e)) H
theorem op_ltD (hu : X.A.units + 64 < cLine) : OpR X (compareOp .Lt) (rDD X.K dataLt) := by
  intro pins s σ H x y v u Q I rx ry h
  obtain ⟨d, e, hd, he, sa, sn, sd, q⟩ := h
  obtain ⟨as, r1⟩ := Dp.reads I d x v hd rx
  obtain ⟨bs, r2⟩ := Dp.reads I e y u he ry
  exact lt_data r1 r2 sa sn (by omega) ⟨.bl _, H, I, rfl, q⟩
theorem op_gtD (hu : X.A.units + 64 < cLine) : OpR X (compareOp .Gt) (rDD X.K fun d e => dataLt e d) := by
  intro pins s σ H x y v u Q I rx ry h
  obtain ⟨d, e, hd, he, sa, sn, sd, q⟩ := h
  obtain ⟨as, r1⟩ := Dp.reads I d x v hd rx
  obtain ⟨bs, r2⟩ := Dp.reads I e y u he ry
  exact gt_data r1 r2 sa sn (by omega) ⟨.bl _, H, I, rfl, q⟩
theorem op_leD (hu : X.A.units + 64 < cLine) : OpR X (compareOp .LtE) (rDD X.K fun d e => !dataLt e d) := by
  intro pins s σ H x y v u Q I rx ry h
  obtain ⟨d, e, hd, he, sa, sn, sd, q⟩ := h
  obtain ⟨as, r1⟩ := Dp.reads I d x v hd rx
  obtain ⟨bs, r2⟩ := Dp.reads I e y u he ry
  exact le_data r1 r2 sa sn (by omega) ⟨.bl _, H, I, rfl, q⟩
theorem op_geD (hu : X.A.units + 64 < cLine) : OpR X (compareOp .GtE) (rDD X.K fun d e => !dataLt d e) := by
  intro pins s σ H x y v u Q I rx ry h
  obtain ⟨d, e, hd, he, sa, sn, sd, q⟩ := h
  obtain ⟨as, r1⟩ := Dp.reads I d x v hd rx
  obtain ⟨bs, r2⟩ := Dp.reads I e y u he ry
  exact ge_data r1 r2 sa sn (by omega) ⟨.bl _, H, I, rfl, q⟩
theorem im_dd {f : PyData → PyData → Bool} {x y : V} {dx dy d : D} {h' : Hh} {Q : VK} (hr : Rh K G ρ H h) (rx : Rv K ρ H x dx) (ry : Rv K ρ H y dy) (o : ordOk dx dy) (k : ∀ ρ' H' v, Ex K ρ H ρ' H' → Rh K G ρ' H' h → Rv K ρ' H' v (.bl (f (pyd dx) (pyd dy))) → Q v H') : rDD K f x y H Q :=
  ⟨pyd dx, pyd dy, toP_dp hr 60 _ _ _ rx (toP_ok h 60 60 _ (Nat.le_refl _) o.1), toP_dp hr 60 _ _ _ ry (toP_ok h 60 60 _ (Nat.le_refl _) o.2.1), o.2.2.1, o.2.2.2, (depth_ok 60 _ o.1).1, k _ _ _ Ex.refl hr (.bl _)⟩
theorem im_ltD : Imp2 K G (rDD K dataLt) opLtD := fun {ρ H h x y dx dy d h' Q} hr rx ry e k => by
  unfold opLtD at e
  split at e
  · cases e; exact im_dd (d := .non) (h' := h) hr rx ry ‹_› k
  · cases e
theorem im_gtD : Imp2 K G (rDD K fun d e => dataLt e d) opGtD := fun {ρ H h x y dx dy d h' Q} hr rx ry e k => by
  unfold opGtD at e
  split at e
  · cases e; exact im_dd (d := .non) (h' := h) hr rx ry ‹_› k
  · cases e
theorem im_leD : Imp2 K G (rDD K fun d e => !dataLt e d) opLeD := fun {ρ H h x y dx dy d h' Q} hr rx ry e k => by
  unfold opLeD at e
  split at e
  · cases e; exact im_dd (d := .non) (h' := h) hr rx ry ‹_› k
  · cases e
theorem im_geD : Imp2 K G (rDD K fun d e => !dataLt d e) opGeD := fun {ρ H h x y dx dy d h' Q} hr rx ry e k => by
  unfold opGeD at e
  split at e
  · cases e; exact im_dd (d := .non) (h' := h) hr rx ry ‹_› k
  · cases e
theorem im_orOp {r r' : R2} {f g : D → D → Hh → Option (D × Hh)} (i : Imp2 K G r f) (j : Imp2 K G r' g) : Imp2 K G (fun x y H Q => r x y H Q ∨ r' x y H Q) (orOp f g) := fun {ρ H h x y dx dy d h' Q} hr rx ry e k => by
  unfold orOp at e
  split at e
  · rename_i q
    cases e
    exact .inl (i hr rx ry q k)
  · exact .inr (j hr rx ry e k)
theorem se_ltX (hu : X.A.units + 64 < cLine) (ha : PE X a (tM X.K G W ma)) (hb : PE X b (tM X.K G W mb)) : PE X (.Compare a [.Lt] [b] pos) (tM X.K G W (eB opLtX ma mb)) := se_cmp ((op_ltAll (by omega)).or (op_ltD hu)) (im_orOp im_lt im_ltD) ha hb (nomark _)
theorem se_leX (hu : X.A.units + 64 < cLine) (ha : PE X a (tM X.K G W ma)) (hb : PE X b (tM X.K G W mb)) : PE X (.Compare a [.LtE] [b] pos) (tM X.K G W (eB opLeX ma mb)) := se_cmp (op_le.or (op_leD hu)) (im_orOp im_le im_leD) ha hb (nomark _)
theorem se_gtX (hu : X.A.units + 64 < cLine) (ha : PE X a (tM X.K G W ma)) (hb : PE X b (tM X.K G W mb)) : PE X (.Compare a [.Gt] [b] pos) (tM X.K G W (eB opGtX ma mb)) := se_cmp (op_gt.or (op_gtD hu)) (im_orOp im_gt im_gtD) ha hb (nomark _)
theorem se_geX (hu : X.A.units + 64 < cLine) (ha : PE X a (tM X.K G W ma)) (hb : PE X b (tM X.K G W mb)) : PE X (.Compare a [.GtE] [b] pos) (tM X.K G W (eB opGeX ma mb)) := se_cmp (op_ge.or (op_geD hu)) (im_orOp im_ge im_geD) ha hb (nomark _)
theorem st_ltX (hu : X.A.units + 64 < cLine) (ha : PE X a (tM X.K G W ma)) (hb : PE X b (tM X.K G W mb)) : PT X (.Compare a [.Lt] [b] pos) (tT X.K G W (tBl (eB opLtX ma mb))) := st_cmp ((op_ltAll (by omega)).or (op_ltD hu)) (im_orOp im_lt im_ltD) ha hb (nomark _)
theorem st_leX (hu : X.A.units + 64 < cLine) (ha : PE X a (tM X.K G W ma)) (hb : PE X b (tM X.K G W mb)) : PT X (.Compare a [.LtE] [b] pos) (tT X.K G W (tBl (eB opLeX ma mb))) := st_cmp (op_le.or (op_leD hu)) (im_orOp im_le im_leD) ha hb (nomark _)
theorem st_gtX (hu : X.A.units + 64 < cLine) (ha : PE X a (tM X.K G W ma)) (hb : PE X b (tM X.K G W mb)) : PT X (.Compare a [.Gt] [b] pos) (tT X.K G W (tBl (eB opGtX ma mb))) := st_cmp (op_gt.or (op_gtD hu)) (im_orOp im_gt im_gtD) ha hb (nomark _)
theorem st_geX (hu : X.A.units + 64 < cLine) (ha : PE X a (tM X.K G W ma)) (hb : PE X b (tM X.K G W mb)) : PT X (.Compare a [.GtE] [b] pos) (tT X.K G W (tBl (eB opGeX ma mb))) := st_cmp (op_ge.or (op_geD hu)) (im_orOp im_ge im_geD) ha hb (nomark _)
@[simp] theorem opLtX_int (i j : Int) (h : Hh) : opLtX (.int i) (.int j) h = some (.bl (decide (i < j)), h) := rfl
@[simp] theorem opLeX_int (i j : Int) (h : Hh) : opLeX (.int i) (.int j) h = some (.bl (decide (i ≤ j)), h) := rfl
@[simp] theorem opGtX_int (i j : Int) (h : Hh) : opGtX (.int i) (.int j) h = some (.bl (decide (j < i)), h) := rfl
@[simp] theorem opGeX_int (i j : Int) (h : Hh) : opGeX (.int i) (.int j) h = some (.bl (decide (j ≤ i)), h) := rfl
/-! ### a statement leaves nothing new behind -/
open Classical in
noncomputable def trS (h : Hh) (r : SR) : SR := match r with
  | .nx env h1 => if (∀ d, some d ∈ env → lo h.length d = true) ∧ Kq h.length h (h1.take h.length) then .nx env (h1.take h.length) else .nx env h1
  | r => r
noncomputable def sTr (s : S) : S := fun env h => trS h (s env h)
theorem s_tr {st : Stmt} {s : S} (hs : PS X st (tS X.K G W s)) : PS X st (tS X.K G W (sTr s)) := psImp hs fun D0 σ H t => by
  obtain ⟨ρ, h, env, hr, he, p⟩ := t
  refine ⟨ρ, h, env, hr, he, ?_⟩
  unfold sTr at p
  cases q : s env h with
  | nx e1 h1 =>
    rw [q] at p
    unfold trS at p
    dsimp only at p
    split at p
    · rename_i hl
      intro ρ' H' σ' e rh re
      have et := e.isTake
      rw [hr.len] at et
      have hp : ∀ (m : Nat) (b : Addr), m < h.length → ρ'[m]? = some b → ρ[m]? = some b := fun m b hm z => by rw [← et, List.getElem?_take, if_pos hm]; exact z
      have r2 := rh.take (n := h.length) (hr.kq (Nat.le_refl _) hl.2)
      rw [et] at r2
      refine p ρ H' σ' e.back r2 ⟨re.len, fun i d z => ?_⟩
      obtain ⟨v, h1, h2⟩ := re.get i d z
      exact ⟨v, h1, h2.cutR hp (hl.1 d (List.mem_of_getElem? z))⟩
    · exact p
  | rt d h1 => rw [q] at p; exact p
  | bk e1 h1 => rw [q] at p; exact p
  | ct e1 h1 => rw [q] at p; exact p
  | exc c fs e1 h1 => rw [q] at p; exact p
  | bad => rw [q] at p; exact p.elim
/-! ### tuples of the module's top -/
/-- the name holds this tuple of texts -/
def TupC (K : PySem.W.Frag) (mg : Str → Option Value) (x : Str) (ts : List Str) : Prop := ∃ a, mg x = some (.ref a) ∧ KT K a (ts.map V.str) ∧ isK (ts.map D.str) = true
theorem rvs_strs (ts : List Str) : Rvs K ρ H (ts.map V.str) (ts.map D.str) := by
  induction ts with
  | nil => exact .nil
  | cons t ts ih => exact .cons (.str t) ih
theorem se_globT {x : Str} {p : Pos} {ts : List Str} (hg : Gl X x) (g : TupC X.K X.mg x ts) (hdb : (x == ("__debug__" : Str)) = false := by decide) : PE X (.Name x p) (tM X.K G W (eC (.tup (ts.map D.str)))) := by
  obtain ⟨a, hm, kt, hk⟩ := g
  refine peImp (pe_glob hg hm (v := .ref a) rfl hdb) fun σ H Q t => ?_
  obtain ⟨ρ, h, env, hr, he, p⟩ := t
  exact p ρ H (.ref a) Ex.refl hr (.ktp kt hk (rvs_strs ts))
theorem tupC_mk {mg : Str → Option Value} {x : Str} {ts : List Str} {a : Addr} {o : Obj} {its : Array Value} {n : Nat} (hm : mg x = some (.ref a)) (hl : K.lookup a = some o) (hc : o.cls = .type "tuple") (hd : o.data = .seq its n) (hz : its.size ≤ sizeLine) (hv : Vals (ts.map V.str) its.toList) (hk : isK (ts.map D.str) = true) : TupC K mg x ts :=
  ⟨a, hm, ⟨o, its, n, hl, hc, hd, hz, hv⟩, hk⟩
end
/-! ### name = [..], the list a value at once -/
def FN (nx : L2.St → Hp → Prop) : L2.St → Hp → Prop := fun σ1 H1 => nx σ1 H1 ∨ ∃ d xs, H1 d = some (.lst xs) ∧ ∀ od, nx σ1 (upd H1 d (.frz od (.lst xs)))
theorem ps_frz {X : Cx} {st : Stmt} {t : TS} (hs : PS X st t) : PS X st (fun D σ H => t { D with nx := FN D.nx } σ H) := by
  refine ⟨fun pins s σ H D I h => ?_⟩
  refine thn (hs.run pins s σ H _ I h) fun f s1 q => ?_
  cases f with
  | next =>
    obtain ⟨σ1, H1, I1, q1⟩ := q
    rcases q1 with q1 | ⟨d, xs, hd, q1⟩
    · exact ⟨σ1, H1, I1, q1⟩
    · obtain ⟨od, I2⟩ := I1.lock hd trivial
      exact ⟨σ1, _, I2, q1 od⟩
  | brk => exact q
  | cont => exact q
  | ret u => exact q
section
variable {X : Cx} {G : Cl} {W : WX} {elt tg iter : Expr} {ifs : List Expr} {pos : Pos} {m : M} {t : MT}
theorem s_setLcF {i : Nat} {y : Str} {py spos : Pos} {scope : Scope} {own : List (Str × Nat)} {wi : TI} {mi : Ev → Hh → R Src} {g : TG} {s : TgM} {tt : TT} (hc : X.calm = true) (hN : X.N.Nodup)
    (hsw : swapsWith (.ListComp elt [⟨tg, iter, ifs, 0⟩] scope pos) (some (.Name y py)) spos.line X.env = pure true) (hi : PI X tg iter wi) (oi : ItOk X.K G W wi mi) (bk : BlkOk X.N X.env.scope scope own)
    (hg : ∀ (s : Shared) (H : Hp) (C : Addr) (cl : List (Str × Addr)) (fp : List Addr), PG (X.blk s H scope (compEnvC scope cl C X.env) fp) tg g) (ok : TgOkW X.K G (own.map (·.2)) g s)
    (ht : ∀ (s : Shared) (H : Hp) (C : Addr) (cl : List (Str × Addr)) (fp : List Addr), PTs (X.blk s H scope (compEnvC scope cl C X.env) fp) ifs tt) (htt : ∀ σ H Q, tT X.K G WN t σ H Q → tt σ H Q)
    (he : ∀ (s : Shared) (H : Hp) (C : Addr) (cl : List (Str × Addr)) (fp : List Addr), PE (X.blk s H scope (compEnvC scope cl C X.env) fp) elt (tM X.K G WN m)) (hs : ∀ x, foldedSetIterable iter X.env x = pure x := by intro _; rfl)
    (hy : X.N[i]? = some y := by rfl) (hyl : X.env.scope.names.lookup y = some .local := by rfl) :
    PS X (.Assign [.Name y py] (.ListComp elt [⟨tg, iter, ifs, 0⟩] scope pos) spos) (tS X.K G W (sSet i (eFz (eLc mi s t m (own.map (·.2)))))) :=
  psImp (ps_frz (ps_setLc hc hN hy hyl hsw hi bk hg ht he hs)) fun D0 σ H q => by
    obtain ⟨ρ, h, env, hr, he, p⟩ := q
    have q1 := tS_bind (rel := relV X.K) hr he p
    have q2 : tG X.K G (relV X.K) W (eFz (eLc mi s t m (own.map (·.2)))) σ H _ := q1
    obtain ⟨ρ0, h0, env0, hr0, he0, p0⟩ := q2
    have q3 : tG X.K G (relV X.K) W (eLc mi s t m (own.map (·.2))) σ H _ := ⟨ρ0, h0, env0, hr0, he0, Po.fz hr0 p0⟩
    refine lc_sound oi ok htt (fun _ _ _ z => z) σ H _ (tG_mono q3 fun x H1 q => ?_)
    rcases q with ⟨ρ1, h1, d, e1, hr1, he1, r1, p1⟩ | ⟨a, xs, rfl, hd, q⟩
    · exact .inl (p1.nx_ hr1 (he1.set r1 i))
    · refine .inr ⟨a, xs, hd, fun od => ?_⟩
      obtain ⟨ρ1, h1, d, e1, hr1, he1, r1, p1⟩ := q od
      exact p1.nx_ hr1 (he1.set r1 i)
end
end Sm
/-! SmRev: a[::-1] of a tuple too. -/
namespace SmRevH
open PySem PyProof.Rows HT PySem.W
section
variable {prog : Program} {w : World} {A : Around} {E : Value → Shared → Prop} {s : Shared}
theorem back_places (n : Nat) : Builtin.Slice.slicePlaces ((n : Int) - 1) (-1) (-1) = n := by
  unfold Builtin.Slice.slicePlaces
  rw [if_neg (by omega)]
  by_cases h : n = 0
  · subst h; decide
  · rw [if_pos (by omega)]
    have : -(-1 : Int) = 1 := rfl
    rw [this, Int.ediv_one]
    omega
theorem back_applied {sl : Addr} {vl vu vs : Value} {n : Nat} {Q : Int × Int × Nat → Shared → Prop} (hs : s.heap.IsSliceOf sl vl vu vs) (pl : IsPart vl none) (pu : IsPart vu none) (ps : IsPart vs (some (-1)))
    (h : Q ((n : Int) - 1, -1, n) s) : wpAny (model prog w) A (Builtin.Slice.sliceApplied (.ref sl) (pure (n : Int))) Q E s := by
  obtain ⟨os, hos, hcs, hds⟩ := id hs
  unfold Builtin.Slice.sliceApplied Builtin.Slice.sliceFields
  refine wpAny_bind (wpAny_bind (wpAny_field hos hds (x := vl) rfl (wpAny_bind (wpAny_field hos hds (x := vu) rfl (wpAny_bind (wpAny_field hos hds (x := vs) rfl (wpAny_pure ?_)))))))
  refine wpAny_bind (slicePart_ ps ?_)
  show wpAny _ _ (if ((-1 : Int) == 0) = true then _ else _) _ _ s
  rw [if_neg (by decide)]
  refine wpAny_bind (slicePart_ pl (wpAny_bind (slicePart_ pu (wpAny_bind (wpAny_pure ?_)))))
  show wpAny _ _ (match Builtin.Slice.sliceAdjust none none (-1) (n : Int) with | (lo, hi) => pure (lo, (-1 : Int), Builtin.Slice.slicePlaces lo hi (-1))) _ _ s
  have e : Builtin.Slice.sliceAdjust none none (-1) (n : Int) = ((n : Int) - 1, -1) := rfl
  rw [e]
  show wpAny _ _ (pure ((n : Int) - 1, (-1 : Int), Builtin.Slice.slicePlaces ((n : Int) - 1) (-1) (-1))) _ _ s
  rw [back_places]
  exact wpAny_pure h
theorem back_pick (xs : Array Value) : ((List.range xs.size).filterMap fun (m : Nat) => xs[(((xs.size : Int) - 1) + (m : Int) * (-1)).toNat]?).toArray = xs.toList.reverse.toArray := by
  congr 1
  apply List.ext_getElem?
  intro i
  have e : (List.range xs.size).filterMap (fun (m : Nat) => xs[(((xs.size : Int) - 1) + (m : Int) * (-1)).toNat]?) = (List.range xs.size).filterMap (fun (m : Nat) => xs.toList.reverse[m]?) := by
    have fc : ∀ {l : List Nat} {f g : Nat → Option Value}, (∀ x ∈ l, f x = g x) → l.filterMap f = l.filterMap g := by
      intro l f g hh
      induction l with
      | nil => rfl
      | cons a l ih => rw [List.filterMap_cons, List.filterMap_cons, hh a (by simp), ih fun x hx => hh x (by simp [hx])]
    apply fc
    intro m hm
    have hm' : m < xs.size := List.mem_range.mp hm
    rw [List.getElem?_reverse (by simpa using hm'), Array.getElem?_toList, Array.length_toList]
    congr 1
    omega
  rw [e]
  have := krv_all xs.toList.reverse.toArray
  simp at this
  rw [this]
theorem getItem_tuple_back {t sl : Addr} {items : Array Value} {vl vu vs : Value} {Q : Value → Shared → Prop} (ht : IsTup s.heap t items) (hs : s.heap.IsSliceOf sl vl vu vs) (pl : IsPart vl none) (pu : IsPart vu none) (ps : IsPart vs (some (-1)))
    (h : Q (.ref s.heap.objs.size) { s with heap := s.heap.push { cls := .type "tuple", data := .seq items.toList.reverse.toArray } })
    (hsz : items.size ≤ sizeLine) : wpAny (model prog w) A (getItem (.ref t) (.ref sl)) Q E s := by
  have htake : sizeOk (.seq items.toList.reverse.toArray) := by
    show items.toList.reverse.toArray.size ≤ sizeLine
    rw [List.size_toArray, List.length_reverse, Array.length_toList]
    exact hsz
  obtain ⟨os, hos, hcs, hds⟩ := id hs
  have hTs : s.TypeIs (.ref sl) "slice" := ⟨os, hos, hcs⟩
  unfold getItem
  try with_reducible refine wpAny_holding ?_
  first | refine wpAny_bind (wpAny_pure ?_) | skip
  refine wpAny_bind (wpAny_sequenceKey ht.typeIs (by decide) ?_)
  refine wpAny_bind (wpAny_callSpecial?_slot (name := Str.ofString "__getitem__") ht.typeIs PyProof.Rows.slot_tuple_getitem
    (wpAny_call_entry PyProof.Rows.slot_tuple_getitem ht.typeIs entry_tuple_getitem ?_ (args_tuple_getitem _ _)))
  show wpAny _ _ (Builtin.Tuple.tupleItemsOf (.ref t) >>= _) _ _ s
  refine wpAny_bind (tupleItemsOf_ ht ?_)
  refine wpAny_bind (wpAny_typeOf hTs ?_)
  rw [if_pos (by decide)]
  refine wpAny_bind (back_applied hs pl pu ps ?_)
  have hno : ¬ ((((items.size : Int) - 1) == 0 && (-1 : Int) == 1 && items.size == items.size) = true) := by
    intro q
    rw [Bool.and_eq_true, Bool.and_eq_true] at q
    exact absurd q.1.2 (by decide)
  show wpAny _ _ (if (((items.size : Int) - 1) == 0 && (-1 : Int) == 1 && items.size == items.size) = true then _ else _) _ _ s
  rw [if_neg hno, back_pick]
  first
    | exact wpAny_bind (m := Builtin.Tuple.tupleExact _) (wpAny_newObj_type (wpAny_pure ⟨_, rfl, wpAny_pure h⟩) htake)
    | exact wpAny_bind (m := Builtin.Tuple.tupleExact _) (wpAny_newObj_type (wpAny_bind (wpAny_pure (wpAny_pure ⟨_, rfl, wpAny_pure h⟩))) htake)
    | exact wpAny_bind (wpAny_bind (m := Builtin.Tuple.tupleExact _) (wpAny_newObj_type (wpAny_pure (wpAny_pure ⟨_, rfl, wpAny_pure h⟩)) htake))
    | exact wpAny_bind (wpAny_bind (m := Builtin.Tuple.tupleExact _) (wpAny_newObj_type (wpAny_pure ⟨_, rfl, wpAny_pure h⟩) htake))
end
end SmRevH
namespace Sm
open PySem L2 PyProof.Rows
section
variable {X : Cx} {G : Cl} {W : WX} {e : Expr} {pos p1 p2 p3 : Pos} {m : M} {K : PySem.W.Frag}
def tRevT (K : PySem.W.Frag) (te : TE) : TE := fun σ H Q => te σ H fun x H1 => ∃ a xs, x = .ref a ∧ SqT K H1 a xs ∧ ∀ p, H1 p = none → Q (.ref p) (upd H1 p (.tup xs.reverse))
theorem pe_revT {te : TE} {k : Nat} (he : PE X e te) : PE X (.Subscript e (.Slice none none (some (.UnaryOp .USub (.Constant (.int 1) k p1) p2)) p3) pos) (tRevT X.K te) := by
  refine ⟨fun pins s σ H Q I h => ?_⟩
  refine Subscript_ (thn (he.run pins s σ H _ I h) fun v s1 ⟨x, H1, I1, r1, q1⟩ => ?_)
  obtain ⟨a, xs, ex, hx, q⟩ := q1
  subst ex
  cases r1
  have hst : PO X (some (.UnaryOp .USub (.Constant (.int 1) k p1) p2)) (tPart (tUn (rU fun i => .int (-i)) (tC (.int 1)))) := po_some (pe_un un_neg pe_int)
  refine wpAny_Slice (thn (po_none.run pins s1 σ H1 (fun o H2 => o = none ∧ H2 = H1) I1 ⟨rfl, rfl⟩) fun vl s2 ⟨l, H2, I2, pl, el, e2⟩ => ?_)
  subst el e2
  refine thn (po_none.run pins s2 σ H2 (fun o H3 => o = none ∧ H3 = H2) I2 ⟨rfl, rfl⟩) fun vu s3 ⟨u, H3, I3, pu, eu, e3⟩ => ?_
  subst eu e3
  refine thn (hst.run pins s3 σ H3 (fun o H4 => o = some (-1) ∧ H4 = H3) I3 ⟨1, rfl, -1, rfl, rfl, rfl⟩) fun vs s4 ⟨o, H4, I4, ps, eo, e4⟩ => ?_
  subst eo e4
  have I5 : L2.Inv X pins σ H4 { s4 with heap := s4.heap.push { cls := .type "slice", data := .fields #[vl, vu, vs] } } := I4.kept (t' := s4.toks) fun b ob q => Heap.get?_push_of_some _ q
  obtain ⟨its, r, ht, hz⟩ := I5.tuple hx
  have hlen := r.length
  show wpAny (model X.prog X.w) X.A (subscriptTail e (.Slice none none (some (.UnaryOp .USub (.Constant (.int 1) k p1) p2)) p3) (.ref a) (.ref s4.heap.objs.size)) (EP X pins σ Q) X.xe { s4 with heap := s4.heap.push { cls := .type "slice", data := .fields #[vl, vu, vs] } }
  refine tail_any (ops := [.ref a, .ref s4.heap.objs.size]) ht.typeIs (PyProof.Rows.slot_tuple_getitem.lookup) ?_ (by with_unfolding_all rfl)
  refine SmRevH.getItem_tuple_back ht (Heap.IsSliceOf.new _ vl vu vs) pl pu ps ?_ (by rw [List.size_toArray]; omega)
  refine ⟨.ref _, _, I5.laid (t' := s4.toks) (o := .tup xs.reverse) (fun b ob q => Heap.get?_push_of_some _ q) (Nat.le_refl _) ?_, rfl, q _ (I5.hok.fresh (Nat.le_refl _))⟩
  exact ⟨by rw [List.length_reverse]; exact hz, _, r.reverse, ⟨_, Heap.get?_push_size _ rfl, rfl, _, rfl⟩⟩
/-- a[::-1], a list or a tuple -/
def opRevT : D → Hh → Option (D × Hh)
  | .tup ds, h => some (.tup ds.reverse, h)
  | _, _ => none
def opRevX (d : D) (h : Hh) : Option (D × Hh) := match d with
  | .tup ds => some (.tup ds.reverse, h)
  | d => opRevF d h
theorem se_revT {k : Nat} (ha : PE X e (tM X.K G W m)) : PE X (.Subscript e (.Slice none none (some (.UnaryOp .USub (.Constant (.int 1) k p1) p2)) p3) pos) (tM X.K G W (eU opRevT m)) := peImp (pe_revT ha) fun σ H Q t => by
  obtain ⟨ρ, h, env, hr, he, p⟩ := t
  refine tG_mono (tG_bind (rel := relV X.K) hr he p) fun v H1 ⟨ρ1, h1, d, e1, hr1, he1, r1, p1⟩ => ?_
  obtain ⟨d2, h2, eq, kk⟩ := p1.opt
  unfold opRevT at eq
  split at eq
  · cases eq
    obtain ⟨a, vs, rfl, t, r⟩ := r1.sqT
    exact ⟨a, vs, rfl, t, fun p n => kk ρ1 _ _ (Ex.fresh n) (hr1.aux n) (.tup upd_same (r.reverse.mono (Ex.fresh n)))⟩
  · cases eq
theorem se_revX {k : Nat} (ha : PE X e (tM X.K G W m)) : PE X (.Subscript e (.Slice none none (some (.UnaryOp .USub (.Constant (.int 1) k p1) p2)) p3) pos) (tM X.K G W (eU opRevX m)) := se_alt (se_revT ha) (se_revF ha) fun env h => by
  unfold eU
  cases q : m env h with
  | bad => exact .inl rfl
  | exc c fs h' => exact .inl rfl
  | ok d h1 =>
    simp only [R.bind_ok]
    cases d with
    | tup ds => exact .inl rfl
    | _ => exact .inr rfl
@[simp] theorem opRevX_t (ds : List D) (h : Hh) : opRevX (.tup ds) h = some (.tup ds.reverse, h) := rfl
@[simp] theorem opRevX_f (ds : List D) (h : Hh) : opRevX (.fls ds) h = some (.fls ds.reverse, h) := rfl
end
end Sm
/-! SmNm: running lemmas for SmIn, SmOrd; labels and names as data. -/
namespace Sm
open PySem L2 PyProof.Rows
section
variable (env : Ev) (h g : Hh) (f : D → D → Hh → Option (D × Hh)) (m mo me mv a b : M) (d e : D) (ds xs ys : List D) (ms : List M) (i j k n c nf : Nat) (s1 : S) (o o1 o2 : O) (x y : Str) (fm : Fm)
-- fields
@[simp] theorem opFld_r : opFld c k (.ref n) h = match h[n]? with
    | some (.ins c' fs) => if c' = c then (match fs[k]? with
      | some (some d) => some (d, h)
      | _ => none) else none
    | _ => none := rfl
def sFld1 (env : Ev) (r : R D) : SR := bindS r env fun v h1 => bindS (mo env h1) env fun o h2 => match o with
  | .ref n => (match h2[n]? with
    | some (.ins c' fs) => if c' = c then .nx env (h2.set n (.ins c (fs.set k (some v)))) else .bad
    | _ => .bad)
  | _ => .bad
def sFld2 (env : Ev) (v : D) (r : R D) : SR := bindS r env fun o h2 => match o with
  | .ref n => (match h2[n]? with
    | some (.ins c' fs) => if c' = c then .nx env (h2.set n (.ins c (fs.set k (some v)))) else .bad
    | _ => .bad)
  | _ => .bad
@[simp] theorem sFld_eq : sFld c k mo mv env h = sFld1 mo k c env (mv env h) := rfl
@[simp] theorem sFld1_ok : sFld1 mo k c env (.ok d h) = sFld2 k c env d (mo env h) := rfl
@[simp] theorem sFld2_r : sFld2 k c env d (.ok (.ref n) h) = match h[n]? with
    | some (.ins c' fs) => if c' = c then .nx env (h.set n (.ins c (fs.set k (some d)))) else .bad
    | _ => .bad := rfl
-- methods
@[simp] theorem noX_ok : noX (.ok d h) = .ok d h := rfl
def eMeth1 (env : Ev) (r : R D) : R D := r.bind fun o h1 => match o with
  | .ref n => (match h1[n]? with
    | some (.ins c' _) => if c' = c then (evs ms env h1).bind fun ds h2 => noX (fm (.ref n :: ds) h2) else .bad
    | _ => .bad)
  | _ => .bad
def eMeth2 (n : Nat) (r : R (List D)) : R D := r.bind fun ds h2 => noX (fm (.ref n :: ds) h2)
@[simp] theorem eMeth_eq : eMeth c fm mo ms env h = eMeth1 ms c fm env (mo env h) := rfl
@[simp] theorem eMeth1_r : eMeth1 ms c fm env (.ok (.ref n) h) = match h[n]? with
    | some (.ins c' _) => if c' = c then eMeth2 fm n (evs ms env h) else .bad
    | _ => .bad := rfl
@[simp] theorem eMeth2_ok : eMeth2 fm n (.ok ds h) = noX (fm (.ref n :: ds) h) := rfl
def eMake1 (r : R (List D)) : R D := r.bind fun ds h1 => match fm (.ref h1.length :: ds) (h1 ++ [.ins c (List.replicate nf none)]) with
  | .ok .non h2 => .ok (.ref h1.length) h2
  | _ => .bad
@[simp] theorem eMake_eq : eMake c nf fm ms env h = eMake1 c nf fm (evs ms env h) := rfl
@[simp] theorem eMake1_ok : eMake1 c nf fm (.ok ds h) = match fm (.ref h.length :: ds) (h ++ [.ins c (List.replicate nf none)]) with
  | .ok .non h2 => .ok (.ref h.length) h2
  | _ => .bad := rfl
-- dicts
@[simp] theorem opGetD_i (p : Int) : opGetD (.ref n) (.int p) h = match h[n]? with
    | some (.dK kvs) => (valP kvs (.inl p)).map fun d => (d, h)
    | _ => none := rfl
@[simp] theorem opGetD_s : opGetD (.ref n) (.str x) h = match h[n]? with
    | some (.dK kvs) => (valP kvs (.inr x)).map fun d => (d, h)
    | _ => none := rfl
@[simp] theorem opInDe_i (p : Int) : opInDe (.int p) (.ref n) h = match h[n]? with
    | some (.dK kvs) => some (.bl (valP kvs (.inl p)).isSome, h)
    | _ => none := by
  unfold opInDe opInD
  cases e : h[n]? with
  | none => simp [e]
  | some o => cases o <;> simp [e]
@[simp] theorem opNinDe_i (p : Int) : opNinDe (.int p) (.ref n) h = match h[n]? with
    | some (.dK kvs) => some (.bl (!(valP kvs (.inl p)).isSome), h)
    | _ => none := by
  unfold opNinDe opInD
  cases e : h[n]? with
  | none => simp [e]
  | some o => cases o <;> simp [e]
-- a statement cut
theorem sTr_eq : sTr s1 env h = trS h (s1 env h) := rfl
theorem trS_rt : trS h (.rt d g) = .rt d g := rfl
end
/-! ### labels, names -/
def LET : Str := "abcdefghijklmnopqrstuvwxyz0123456789-"
def isLet (c : Nat) : Bool := inS c LET
theorem isLet_iff (c : Nat) : inS c "abcdefghijklmnopqrstuvwxyz0123456789-" = isLet c := rfl
theorem l_nil : ("" : Str) = tx [] := rfl
theorem l_dot : ("." : Str) = tx [46] := by decide +kernel
theorem l_star : ("*" : Str) = tx [42] := by decide +kernel
theorem l_dash : ("-" : Str) = tx [45] := by decide +kernel
def lD (l : List Nat) : D := .str (tx l)
def labs (ls : List (List Nat)) : D := .tup (ls.map lD)
def labL (l : List Nat) : Bool := !l.isEmpty && decide (l.length ≤ 12) && l.all isLet && decide (l.head? ≠ some 45) && decide (l.getLast? ≠ some 45)
def labD : D → Bool
  | .str x => labL x.cps.toList
  | _ => false
def namD : D → Bool
  | .tup ds => decide (ds.length ≤ 6) && ds.all labD
  | _ => false
theorem labD_lD (l : List Nat) : labD (lD l) = labL l := by simp [labD, lD]
theorem namD_labs (ls : List (List Nat)) : namD (labs ls) = (decide (ls.length ≤ 6) && ls.all labL) := by
  have : (labD ∘ lD) = labL := by funext l; exact labD_lD l
  simp [namD, labs, List.all_map, this]
theorem let_small {c : Nat} (h : isLet c = true) : c < 128 := by
  have : LET.cps.toList.all (· < 128) = true := by decide +kernel
  unfold isLet inS at h
  have h1 := List.all_eq_true.mp this c (by simpa using h)
  simpa using h1
theorem lab_all {l : List Nat} (h : labL l = true) : ∀ c ∈ l, isLet c = true := by
  simp only [labL, Bool.and_eq_true] at h
  exact fun c hc => List.all_eq_true.mp h.1.1.2 c hc
theorem lab_len {l : List Nat} (h : labL l = true) : l.length ≤ 12 ∧ l ≠ [] := by
  simp [labL] at h
  exact ⟨h.1.1.1.2, h.1.1.1.1⟩
theorem tm_lab {l : List Nat} (h : labL l = true) : tm 1 (lD l) = true := tm_mkS (fun c hc => let_small (lab_all h c hc)) (by have := (lab_len h).1; omega)
theorem tm_labs {ls : List (List Nat)} (hl : ls.length ≤ 6) (hk : ∀ l ∈ ls, labL l = true) : tm 2 (labs ls) = true := by
  refine tm_mkT (fun d hd => ?_) (by simp; omega)
  rw [List.mem_map] at hd
  obtain ⟨l, hl', rfl⟩ := hd
  exact tm_lab (hk l hl')
theorem sig_len : ("abcdefghijklmnopqrstuvwxyz0123456789-" : Str).length = 37 := by decide +kernel
theorem sig_at {i : Nat} (h : i < 37) : ∃ c, ("abcdefghijklmnopqrstuvwxyz0123456789-" : Str).cps.toList[i]? = some c ∧ isLet c = true ∧ (i < 36 → c ≠ 45) := by
  have h1 : LET.cps.toList.length = 37 := by decide +kernel
  have h2 : ∀ i, i < 36 → LET.cps.toList[i]? ≠ some 45 := by
    intro i hi hc
    have h3 : (LET.cps.toList.take 36).all (· ≠ 45) = true := by decide +kernel
    have h4 : (LET.cps.toList.take 36)[i]? = some 45 := by rw [List.getElem?_take, if_pos hi]; exact hc
    have := List.all_eq_true.mp h3 45 (List.mem_of_getElem? h4)
    simp at this
  have hi : i < LET.cps.toList.length := by omega
  refine ⟨LET.cps.toList[i], List.getElem?_eq_getElem hi, ?_, fun z e => h2 i z (by rw [List.getElem?_eq_getElem hi, e])⟩
  unfold isLet inS
  simp
theorem eqds_labs (xs ys : List (List Nat)) : eqd (labs xs) (labs ys) = decide (xs = ys) := by
  unfold labs lD
  simp only [eqd]
  exact eqds_strs xs ys
/-- a comprehension with a test, not frozen -/
theorem lc_pfM {α : Type} {i : Nat} {t : MT} {m : M} {env : Ev} {h : Hh} (p : α → Bool) (e f : α → D) (xs : List α) (ht : ∀ x ∈ xs, ∀ acc, t ((env.set i none).set i (some (e x))) (h ++ [.lst acc]) = .ok (p x) (h ++ [.lst acc])) (hm : ∀ x ∈ xs, p x = true → ∀ acc, m ((env.set i none).set i (some (e x))) (h ++ [.lst acc]) = .ok (f x) (h ++ [.lst acc])) (hl : xs.length ≤ sizeLine) :
    lcL (gtName i) t m [i] h.length none env (xs.map e) (h ++ [.lst []]) = .ok (.ref h.length) (h ++ [.lst ((xs.filter p).map f)]) := by
  have key : ∀ (xs : List α) (acc : List D), (∀ x ∈ xs, ∀ acc, t ((env.set i none).set i (some (e x))) (h ++ [.lst acc]) = .ok (p x) (h ++ [.lst acc])) → (∀ x ∈ xs, p x = true → ∀ acc, m ((env.set i none).set i (some (e x))) (h ++ [.lst acc]) = .ok (f x) (h ++ [.lst acc])) → acc.length + xs.length ≤ sizeLine →
      lcL (gtName i) t m [i] h.length none env (xs.map e) (h ++ [.lst acc]) = .ok (.ref h.length) (h ++ [.lst (acc ++ (xs.filter p).map f)]) := by
    intro xs
    induction xs with
    | nil =>
      intro acc _ _ _
      unfold lcL
      simp [gdOk]
    | cons x xs ih =>
      intro acc ht hm hl
      rw [List.length_cons] at hl
      rw [List.map_cons]
      unfold lcL
      rw [if_pos (show gdOk none (h ++ [.lst acc]) from trivial)]
      simp only [gtName_eq, wipeE]
      rw [ht x (by simp) acc]
      cases hp : p x with
      | true =>
        dsimp only
        rw [hm x (by simp) hp acc]
        simp only [hp_at1, hp_set1]
        rw [if_pos (by omega), ih _ (fun y hy => ht y (by simp [hy])) (fun y hy => hm y (by simp [hy])) (by simp; omega)]
        simp [hp]
      | false =>
        dsimp only
        rw [ih _ (fun y hy => ht y (by simp [hy])) (fun y hy => hm y (by simp [hy])) (by omega)]
        simp [hp]
  simpa using key xs [] ht hm (by simpa using hl)
/-- a statement cut back to the heap's old length -/
theorem trS_cut {h h1 g : Hh} {env : Ev} (hl : h1.length = h.length) (he : ∀ d, some d ∈ env → lo h.length d = true) (hk : Kq h.length h h1) : trS h (.nx env (h1 ++ g)) = .nx env h1 := by
  unfold trS
  dsimp only
  have : (h1 ++ g).take h.length = h1 := by rw [← hl, List.take_left]
  rw [this, if_pos ⟨he, hk⟩]
theorem Kq_set {h : Hh} {n k : Nat} {o : O} (ho : loO n o = true) : Kq n h (h.set k o) := fun i u e => by
  by_cases q : k = i
  · subst q
    by_cases hl : k < h.length
    · rw [List.getElem?_set_self hl] at e
      cases e
      exact .inr ho
    · rw [List.getElem?_eq_none (by rw [List.length_set]; omega)] at e
      cases e
  · rw [List.getElem?_set_ne q] at e
    exact .inl e
end Sm
/-! SmYX: tests of a caught error's fields (==, and); is not True. -/
namespace Sm
open PySem L2 PyProof.Rows
section
variable {X : Cx} {G : Cl} {C : XCt} {a b : Expr} {rest : List Expr} {pos : Pos} {ma mb : List D → M} {K : PySem.W.Frag}
theorem xe_eq (hu : X.A.units + 64 < cLine) (ha : PE X a (tXM X.K G C ma)) (hb : PE X b (tXM X.K G C mb)) : PE X (.Compare a [.Eq] [b] pos) (tXM X.K G C fun fs => eB opEq (ma fs) (mb fs)) :=
  peImp (pe_cmpR (op_eq.or (op_eqD hu)) ha hb (nomark _)) fun σ H Q t => by
    obtain ⟨fs, ρ, h, env, hσ, rx, hr, hE, p⟩ := t
    refine ⟨fs, ρ, h, env, hσ, rx, hr, hE, (Po.bind (rel := relV X.K) hE p).imp fun x H1 ⟨ρ1, h1, d, e1, hr1, he1, r1, p1⟩ => ?_⟩
    refine ⟨fs, ρ1, h1, env, hσ, rx.mono e1, hr1, he1, (Po.bind (rel := relV X.K) he1 p1).imp fun y H2 ⟨ρ2, h2, d2, e2, hr2, he2, r2, p2⟩ => ?_⟩
    obtain ⟨d3, h3, eq, k⟩ := p2.opt
    exact im_eq hr2 (r1.mono e2) r2 eq k
theorem xe_one {op} (ha : PE X a (tXM X.K G C ma)) : PE X (.BoolOp op [a] pos) (tXM X.K G C ma) := pe_one ha
theorem xe_and (ha : PE X a (tXM X.K G C ma)) (hb : PE X (.BoolOp .And (b :: rest) pos) (tXM X.K G C mb)) : PE X (.BoolOp .And (a :: b :: rest) pos) (tXM X.K G C fun fs => eAnd (ma fs) (mb fs)) := peImp (pe_and ha hb) fun σ H Q t => by
  obtain ⟨fs, ρ, h, env, hσ, rx, hr, hE, p⟩ := t
  refine ⟨fs, ρ, h, env, hσ, rx, hr, hE, (Po.bind (rel := relV X.K) hE p).imp fun x H1 ⟨ρ1, h1, d, e1, hr1, he1, r1, p1⟩ => ?_⟩
  cases d with
  | bl k =>
    cases r1
    refine ⟨k, rfl, ?_⟩
    cases k with
    | true => exact ⟨fs, ρ1, h1, env, hσ, rx.mono e1, hr1, he1, p1⟩
    | false => exact p1.ok hr1 (.bl _)
  | _ => exact p1.elim
end
/-! ### is not True -/
def opNotB : D → D → Hh → Option (D × Hh)
  | .bl a, .bl b, h => some (.bl (!decide (a = b)), h)
  | _, _, _ => none
@[simp] theorem opNotB_bb (p q : Bool) (h : Hh) : opNotB (.bl p) (.bl q) h = some (.bl (!decide (p = q)), h) := rfl
section
variable {X : Cx} {G : Cl} {W : WX} {a b : Expr} {pos : Pos} {ma mb : M} {K : PySem.W.Frag}
theorem im_notB : Imp2 K G rNotB opNotB := fun {ρ H h x y dx dy d h' Q} hr rx ry e k => by
  cases rx <;> cases ry <;> simp only [opNotB] at e <;> cases e
  exact ⟨_, _, rfl, rfl, k _ _ _ Ex.refl hr (.bl _)⟩
theorem se_notB (hu : X.A.units + 64 < cLine) (ha : PE X a (tM X.K G W ma)) (hb : PE X b (tM X.K G W mb)) : PE X (.Compare a [.IsNot] [b] pos) (tM X.K G W (eB opNotB ma mb)) := se_cmp op_notBl im_notB ha hb (nomark _)
theorem st_notB (hu : X.A.units + 64 < cLine) (ha : PE X a (tM X.K G W ma)) (hb : PE X b (tM X.K G W mb)) : PT X (.Compare a [.IsNot] [b] pos) (tT X.K G W (tBl (eB opNotB ma mb))) := st_cmp op_notBl im_notB ha hb (nomark _)
end
end Sm
/-! the law law_k32_attributions: mirrors and derivations, printed by gen.py -/
namespace Lk32
open PySem L2 PyProof.Rows Sm
def mth (st : Stmt) (i : Nat) : Stmt := (match st with
  | .ClassDef (body := b) .. => b
  | _ => []).getD i (.Pass ⟨0, 0, 0, 0⟩)
def mtab (c c2 : Nat) : Option Bool := if c < 2 ∧ c2 < 2 then some (decide (c2 = c)) else none
theorem mtab_one (c : Nat) : ∀ c2, mtab c c2 = some true → c2 = c := fun c2 h => by
  unfold mtab at h
  split at h
  · simpa using h
  · cases h
structure Tx (K : PySem.W.Frag) (mg : Str → Option Value) : Prop where
  z_bool : mg "bool" = none
  z_int : mg "int" = none
  z_isinstance : mg "isinstance" = none
  z_len : mg "len" = none
  z_list : mg "list" = none
  z_range : mg "range" = none
  z_sorted : mg "sorted" = none
  z_str : mg "str" = none
  z_tuple : mg "tuple" = none
  c_KINDS : TupC K mg "KINDS" ["addr", "alias", "serve", "text"]
  c_LETTERS : ∃ u, mg "LETTERS" = some (.str "abcdefghijklmnopqrstuvwxyz0123456789-" u)
  c_MOST_ADDRESS : ∃ u, mg "MOST_ADDRESS" = some (.int 65535 u)
  c_MOST_DELAY : ∃ u, mg "MOST_DELAY" = some (.int 1000 u)
  c_MOST_DOUBLES : ∃ u, mg "MOST_DOUBLES" = some (.int 3 u)
  c_MOST_LABEL : ∃ u, mg "MOST_LABEL" = some (.int 12 u)
  c_MOST_LABELS : ∃ u, mg "MOST_LABELS" = some (.int 6 u)
  c_MOST_LETTERS : ∃ u, mg "MOST_LETTERS" = some (.int 24 u)
  c_MOST_MOMENT : ∃ u, mg "MOST_MOMENT" = some (.int 1000000 u)
noncomputable def b_is_label_1 : S := (sIf (tBl (eB opNin (eV 1) (eC (.str "abcdefghijklmnopqrstuvwxyz0123456789-")))) (sRet (eC (.bl false))) sSkip)
noncomputable def b_is_label : S := (sSeq (sIf (tOrM (tNotM (tTru (eU (opIsi .str) (eV 0)))) (tOrM (tBl (eB opEq (eV 0) (eC (.str "")))) (tBl (eB opGtX (eN opLen [(eV 0)]) (eC (.int 12)))))) (sRet (eC (.bl false))) sSkip)
    (sSeq (sFor (mSeqS (eV 0)) (gtName 1) b_is_label_1)
    (sRet (eAnd (eB opNe (eB opIx (eV 0) (eC (.int 0))) (eC (.str "-"))) (eB opNe (eB opIx (eV 0) (eU opNeg (eC (.int 1)))) (eC (.str "-")))))))
noncomputable def m_is_label : Fm := fnT 2 b_is_label
noncomputable def b_is_name_1 : S := (sIf (tNotM (tTru (eCall m_is_label [(eV 1)]))) (sRet (eC (.bl false))) sSkip)
noncomputable def b_is_name : S := (sSeq (sIf (tOrM (tNotM (tTru (eU (opIsi .tuple) (eV 0)))) (tBl (eB opGtX (eN opLen [(eV 0)]) (eC (.int 6))))) (sRet (eC (.bl false))) sSkip)
    (sSeq (sFor (mSeqS (eV 0)) (gtName 1) b_is_name_1)
    (sRet (eC (.bl true)))))
noncomputable def m_is_name : Fm := fnT 2 b_is_name
noncomputable def b_lies_under : S := (sRet (eAnd (eB opGeX (eN opLen [(eV 0)]) (eN opLen [(eV 1)])) (eB opEq (eSlF (eV 0) (some (eB opSub (eN opLen [(eV 0)]) (eN opLen [(eV 1)]))) none) (eV 1))))
noncomputable def m_lies_under : Fm := fnT 2 b_lies_under
noncomputable def b_is_integer : S := (sRet (eAnd (eU (opIsi .int) (eV 0)) (eNot (eU (opIsi .bool) (eV 0)))))
noncomputable def m_is_integer : Fm := fnT 1 b_is_integer
noncomputable def b_is_between : S := (sRet (eAnd (eCall m_is_integer [(eV 0)]) (eAnd (eB opLeX (eV 1) (eV 0)) (eB opLeX (eV 0) (eV 2)))))
noncomputable def m_is_between : Fm := fnT 3 b_is_between
noncomputable def b_is_letter : S := (sSeq (sIf (tOrM (tNotM (tTru (eU (opIsi .tuple) (eV 0)))) (tBl (eB opNe (eN opLen [(eV 0)]) (eC (.int 6))))) (sRet (eC (.bl false))) sSkip)
    (sSeq (sUnp (gtTup [1, 2, 3, 4, 5, 6]) (eV 0))
    (sSeq (sIf (tOrM (tNotM (tTru (eCall m_is_between [(eV 1), (eC (.int 0)), (eC (.int 1000000))]))) (tNotM (tTru (eCall m_is_between [(eV 2), (eC (.int 0)), (eC (.int 255))])))) (sRet (eC (.bl false))) sSkip)
    (sSeq (sIf (tOrM (tNotM (tTru (eCall m_is_between [(eV 3), (eC (.int 0)), (eC (.int 65535))]))) (tOrM (tNotM (tTru (eCall m_is_name [(eV 4)]))) (tNotM (tTru (eCall m_is_name [(eV 5)]))))) (sRet (eC (.bl false))) sSkip)
    (sRet (eAnd (eCall m_lies_under [(eV 5), (eV 4)]) (eB opIn (eV 6) (eC (.tup (List.map D.str ["addr", "alias", "serve", "text"]))))))))))
noncomputable def m_is_letter : Fm := fnT 7 b_is_letter
noncomputable def b_letter_order : S := (sRet (eTup [(eB opIx (eV 0) (eC (.int 0))), (eB opIx (eV 0) (eC (.int 1))), (eB opIx (eV 0) (eC (.int 2))), (eU opRevX (eB opIx (eV 0) (eC (.int 3)))), (eU opRevX (eB opIx (eV 0) (eC (.int 4)))), (eB opIx (eV 0) (eC (.int 5)))]))
noncomputable def m_letter_order : Fm := fnT 1 b_letter_order
noncomputable def b_are_letters_1 : S := (sSeq (sIf (tNotM (tTru (eCall m_is_letter [(eB opIx (eV 0) (eV 1))]))) (sRet (eC (.bl false))) sSkip)
    (sIf (tAndM (tBl (eB opGtX (eV 1) (eC (.int 0)))) (tBl (eB opLtX (eCall m_letter_order [(eB opIx (eV 0) (eV 1))]) (eCall m_letter_order [(eB opIx (eV 0) (eB opSub (eV 1) (eC (.int 1))))])))) (sRet (eC (.bl false))) sSkip))
noncomputable def b_are_letters : S := (sSeq (sIf (tNotM (tTru (eU (opIsi .tuple) (eV 0)))) (sRet (eC (.bl false))) sSkip)
    (sSeq (sFor (mRng1 (eN opLen [(eV 0)])) (gtName 1) b_are_letters_1)
    (sRet (eC (.bl true)))))
noncomputable def m_are_letters : Fm := fnT 2 b_are_letters
noncomputable def b_check_wire : S := (sSeq (sIf (tOrM (tNotM (tTru (eU (opIsi .tuple) (eV 0)))) (tBl (eB opNe (eN opLen [(eV 0)]) (eC (.int 2))))) (sRaise 0 [(eV 0), (eC (.str "shape"))]) sSkip)
    (sSeq (sIf (tNotM (tTru (eCall m_is_between [(eB opIx (eV 0) (eC (.int 0))), (eC (.int 0)), (eC (.int 1000))]))) (sRaise 0 [(eV 0), (eC (.str "delay"))]) sSkip)
    (sIf (tNotM (tTru (eCall m_is_between [(eB opIx (eV 0) (eC (.int 1))), (eC (.int 1)), (eC (.int 3))]))) (sRaise 0 [(eV 0), (eC (.str "doubles"))]) sSkip)))
noncomputable def m_check_wire : Fm := fnT 1 b_check_wire
noncomputable def b_check_row : S := (sSeq (sIf (tAndM (tTru (eU (opIsi .tuple) (eV 0))) (tBl (eB opGtX (eN opLen [(eV 0)]) (eC (.int 24))))) (sRaise 1 [(eV 1), (eN opLen [(eV 0)])]) sSkip)
    (sIf (tNotM (tTru (eCall m_are_letters [(eV 0)]))) (sRaise 0 [(eV 0), (eV 1)]) sSkip))
noncomputable def m_check_row : Fm := fnT 2 b_check_row
noncomputable def b_check_letters : S := (sSeq (sExpr (eCall m_check_wire [(eV 0)]))
    (sSeq (sExpr (eCall m_check_row [(eV 1), (eC (.str "questions"))]))
    (sExpr (eCall m_check_row [(eV 2), (eC (.str "replies"))]))))
noncomputable def m_check_letters : Fm := fnT 3 b_check_letters
noncomputable def b_is_candidate : S := (sRet (eAnd (eB opEq (eSlF (eV 1) (some (eC (.int 1))) none) (eSlF (eV 2) (some (eC (.int 1))) none)) (eCall m_is_between [(eB opSub (eB opIx (eV 2) (eC (.int 0))) (eB opIx (eV 1) (eC (.int 0)))), (eC (.int 0)), (eB opMulA (eC (.int 2)) (eB opIx (eV 0) (eC (.int 0))))])))
noncomputable def m_is_candidate : Fm := fnT 3 b_is_candidate
noncomputable def b_candidates_of_1 : S := (sExpr (eMt opAppend (eV 3) [(eN opTupleOf [(eFz (eLc (mRng1 (eN opLen [(eV 1)])) (gtName 5) (tTru (eCall m_is_candidate [(eV 0), (eB opIx (eV 1) (eV 5)), (eV 4)])) (eV 5) [5]))])]))
noncomputable def b_candidates_of : S := (sSeq (sExpr (eCall m_check_letters [(eV 0), (eV 1), (eV 2)]))
    (sSeq (sSet 3 (eLst []))
    (sSeq (sFor (mSeqS (eV 2)) (gtName 4) b_candidates_of_1)
    (sRet (eN opTupleOf [(eV 3)])))))
noncomputable def m_candidates_of : Fm := fnT 6 b_candidates_of
noncomputable def b_Matcher___init__ : S := (sSeq (sFld 2 0 (eV 0) (eV 1))
    (sSeq (sFld 2 1 (eV 0) (eV 2))
    (sSeq (sFld 2 2 (eV 0) (eLc (mSeqS (eV 1)) (gtName 3) tYesM (eC .non) [3]))
    (sFld 2 3 (eV 0) eDK))))
noncomputable def m_Matcher___init__ : Fm := fnT 4 b_Matcher___init__
noncomputable def b_Matcher_replies_of : S := (sRet (eFz (eLc (mRng1 (eN opLen [(eU (opFld 2 2) (eV 0))])) (gtName 2) (tBl (eB opEq (eB opIx (eU (opFld 2 2) (eV 0)) (eV 2)) (eV 1))) (eV 2) [2])))
noncomputable def m_Matcher_replies_of : Fm := fnT 3 b_Matcher_replies_of
noncomputable def b_Matcher_turn_over_1 : S := (sSeq (sSet 3 (eB opGetD (eU (opFld 2 3) (eV 0)) (eV 1)))
    (sSeq (sSet 4 (eB opIx (eU (opFld 2 2) (eV 0)) (eV 3)))
    (sSeq (sSetIx (eU (opFld 2 2) (eV 0)) (eV 3) (eV 1))
    (sSet 1 (eIf (tBl (eB opEq (eV 3) (eV 2))) (eC .non) (eV 4))))))
noncomputable def b_Matcher_turn_over : S := (sWhile 100000 (tBl (eU opNotN (eV 1))) b_Matcher_turn_over_1)
noncomputable def m_Matcher_turn_over : Fm := fnT 5 b_Matcher_turn_over
noncomputable def b_Matcher_grow_2 : S := (sIf (tBl (eB opNinDe (eV 4) (eU (opFld 2 3) (eV 0)))) (sSeq (sSetIx (eU (opFld 2 3) (eV 0)) (eV 4) (eB opIx (eV 2) (eV 3)))
    (sSeq (sSet 5 (eMeth 2 m_Matcher_replies_of (eV 0) [(eV 4)]))
    (sSeq (sIf (tBl (eB opLtX (eN opLen [(eV 5)]) (eU (opFld 2 1) (eV 0)))) (sSeq (sExpr (eMeth 2 m_Matcher_turn_over (eV 0) [(eV 4), (eV 1)]))
    (sRet (eFz (eV 2)))) sSkip)
    (sTr (sExpr (eMt opExtend (eV 2) [(eLc (mSeqS (eV 5)) (gtName 6) (tBl (eB opNin (eV 6) (eV 2))) (eV 6) [6])])))))) sSkip)
noncomputable def b_Matcher_grow_1 : S := (sSeq (sFor (mSeqS (eB opIx (eU (opFld 2 0) (eV 0)) (eB opIx (eV 2) (eV 3)))) (gtName 4) b_Matcher_grow_2)
    (sAug opIAddI 3 (eC (.int 1))))
noncomputable def b_Matcher_grow : S := (sSeq (sFld 2 3 (eV 0) eDK)
    (sSeq (sSet 2 (eLst [(eV 1)]))
    (sSeq (sSet 3 (eC (.int 0)))
    (sSeq (sWhile 100000 (tBl (eB opLtX (eV 3) (eN opLen [(eV 2)]))) b_Matcher_grow_1)
    (sRet (eFz (eV 2)))))))
noncomputable def m_Matcher_grow : Fm := fnT 7 b_Matcher_grow
noncomputable def b_match_1 : S := (sExpr (eMeth 2 m_Matcher_grow (eV 2) [(eV 3)]))
noncomputable def b_match : S := (sSeq (sSet 2 (eMake 2 4 m_Matcher___init__ [(eV 0), (eV 1)]))
    (sSeq (sFor (mRng1 (eN opLen [(eV 0)])) (gtName 3) b_match_1)
    (sRet (eV 2))))
noncomputable def m_match : Fm := fnT 4 b_match
noncomputable def b_attribute : S := (sRet (eN opTupleOf [(eU (opFld 2 2) (eCall m_match [(eCall m_candidates_of [(eV 0), (eV 1), (eV 2)]), (eB opIx (eV 0) (eC (.int 1)))]))]))
noncomputable def m_attribute : Fm := fnT 3 b_attribute
noncomputable def b_least_forged : S := (sRet (eN opLen [(eFz (eLc (mSeqS (eCall m_attribute [(eV 0), (eV 1), (eV 2)])) (gtName 3) (tBl (eU opIsN (eV 3))) (eV 3) [3]))]))
noncomputable def m_least_forged : Fm := fnT 4 b_least_forged
noncomputable def b_is_attribution_1 : S := (sIf (tBl (eU opNotN (eB opIx (eV 3) (eV 5)))) (sSeq (sIf (tOrM (tNotM (tTru (eCall m_is_between [(eB opIx (eV 3) (eV 5)), (eC (.int 0)), (eB opSub (eN opLen [(eV 1)]) (eC (.int 1)))]))) (tBl (eB opNin (eB opIx (eV 3) (eV 5)) (eB opIx (eV 4) (eV 5))))) (sRet (eC (.bl false))) sSkip)
    (sIf (tBl (eB opGtX (eN opLen [(eFz (eLc (mSeqS (eSlF (eV 3) none (some (eB opAdd (eV 5) (eC (.int 1)))))) (gtName 6) (tBl (eB opEq (eV 6) (eB opIx (eV 3) (eV 5)))) (eV 6) [6]))]) (eB opIx (eV 0) (eC (.int 1))))) (sRet (eC (.bl false))) sSkip)) sSkip)
noncomputable def b_is_attribution : S := (sSeq (sSet 4 (eCall m_candidates_of [(eV 0), (eV 1), (eV 2)]))
    (sSeq (sIf (tOrM (tNotM (tTru (eU (opIsi .tuple) (eV 3)))) (tBl (eB opNe (eN opLen [(eV 3)]) (eN opLen [(eV 2)])))) (sRet (eC (.bl false))) sSkip)
    (sSeq (sFor (mRng1 (eN opLen [(eV 3)])) (gtName 5) b_is_attribution_1)
    (sRet (eC (.bl true))))))
noncomputable def m_is_attribution : Fm := fnT 7 b_is_attribution
noncomputable def b__law_number : S := (sSeq (sSet 3 (eC (.int 0)))
    (sSeq (sIf (tBl (eB opGtX (eN opLen [(eV 0)]) (eC (.int 0)))) (sSet 3 (eN opInt [(eB opIx (eV 0) (eB opMod (eN opInt [(eV 1)]) (eN opLen [(eV 0)])))])) sSkip)
    (sSeq (sIf (tAndM (tBl (eB opLtX (eV 1) (eN opLen [(eV 0)]))) (tBl (eB opGeX (eV 3) (eB opPow (eC (.int 10)) (eC (.int 18)))))) (sRet (eB opMod (eN opInt [(eB opSub (eV 3) (eB opPow (eC (.int 10)) (eC (.int 18))))]) (eV 2))) sSkip)
    (sSeq (sSet 4 (eB opAdd (eB opAdd (eB opMulA (eB opMod (eN opInt [(eV 3)]) (eC (.int 1000003))) (eC (.int 48271))) (eB opMulA (eV 1) (eC (.int 69621)))) (eC (.int 11))))
    (sSeq (sSet 5 (eB opMod (eN opInt [(eB opFdiv (eB opMulA (eV 4) (eV 4)) (eC (.int 7)))]) (eC (.int 1000000000039))))
    (sSeq (sSet 6 (eB opMod (eN opInt [(eB opAdd (eB opFdiv (eB opMulA (eV 4) (eC (.int 16807))) (eC (.int 5))) (eV 5))]) (eC (.int 1000000000061))))
    (sRet (eB opMod (eN opInt [(eB opAdd (eV 5) (eB opMulA (eC (.int 1000000000039)) (eV 6)))]) (eV 2)))))))))
noncomputable def m__law_number : Fm := fnT 7 b__law_number
noncomputable def b__law_row_1 : S := (sSet 3 (eB opMulA (eV 3) (eV 4)))
noncomputable def b__law_row_2 : S := (sSeq (sExpr (eMt opAppend (eV 6) [(eB opMod (eN opInt [(eV 5)]) (eV 4))]))
    (sSet 5 (eB opFdiv (eN opInt [(eV 5)]) (eV 4))))
noncomputable def b__law_row : S := (sSeq (sSet 3 (eC (.int 1)))
    (sSeq (sFor (mSeqS (eV 2)) (gtName 4) b__law_row_1)
    (sSeq (sSet 5 (eCall m__law_number [(eV 0), (eV 1), (eV 3)]))
    (sSeq (sSet 6 (eLst []))
    (sSeq (sFor (mSeqS (eV 2)) (gtName 4) b__law_row_2)
    (sRet (eFz (eV 6))))))))
noncomputable def m__law_row : Fm := fnT 7 b__law_row
noncomputable def b__law_label_1 : S := (sSeq (sSet 5 (eC (.int 37)))
    (sSeq (sIf (tOrM (tBl (eB opEq (eV 4) (eC (.int 0)))) (tBl (eB opEq (eV 4) (eB opSub (eV 2) (eC (.int 1)))))) (sSet 5 (eC (.int 36))) sSkip)
    (sSeq (sSet 3 (eB opAdd (eV 3) (eB opIx (eV 1) (eB opMod (eN opInt [(eV 0)]) (eV 5)))))
    (sSet 0 (eB opFdiv (eN opInt [(eV 0)]) (eV 5))))))
noncomputable def b__law_label : S := (sSeq (sSet 1 (eC (.str "abcdefghijklmnopqrstuvwxyz0123456789-")))
    (sSeq (sSet 2 (eB opAdd (eC (.int 1)) (eB opMod (eN opInt [(eV 0)]) (eC (.int 12)))))
    (sSeq (sSet 0 (eB opFdiv (eN opInt [(eV 0)]) (eC (.int 12))))
    (sSeq (sSet 3 (eC (.str "")))
    (sSeq (sFor (mRng1 (eV 2)) (gtName 4) b__law_label_1)
    (sRet (eV 3)))))))
noncomputable def m__law_label : Fm := fnT 6 b__law_label
noncomputable def b__law_key : S := (sRet (eTup [(eB opIx (eV 0) (eC (.int 0))), (eB opIx (eV 0) (eC (.int 1))), (eB opIx (eV 0) (eC (.int 2))), (eU opRevX (eB opIx (eV 0) (eC (.int 3)))), (eU opRevX (eB opIx (eV 0) (eC (.int 4)))), (eB opIx (eV 0) (eC (.int 5)))]))
noncomputable def m__law_key : Fm := fnT 1 b__law_key
noncomputable def b__law_rules : S := (sSeq (sSet 1 (eCall m__law_row [(eV 0), (eC (.int 0)), (eLstF [(eC (.int 4)), (eC (.int 3)), (eC (.int 1001))])]))
    (sRet (eTup [(eB opIx (eLstF [(eB opIx (eV 1) (eC (.int 2))), (eC (.int 0)), (eC (.int 1000)), (eB opMod (eN opInt [(eB opIx (eV 1) (eC (.int 2)))]) (eC (.int 4)))]) (eB opIx (eV 1) (eC (.int 0)))), (eB opAdd (eC (.int 1)) (eB opIx (eV 1) (eC (.int 1))))])))
noncomputable def m__law_rules : Fm := fnT 2 b__law_rules
noncomputable def b__law_pools : S := (sSeq (sSet 1 (eCall m__law_row [(eV 0), (eC (.int 1)), (eLstF [(eC (.int 256)), (eC (.int 256)), (eC (.int 65536)), (eC (.int 65536)), (eC (.int 3)), (eC (.int 3)), (eC (.int 4)), (eC (.int 4))])]))
    (sSeq (sSet 2 (eCall m__law_label [(eCall m__law_number [(eV 0), (eC (.int 2)), (eB opPow (eC (.int 10)) (eC (.int 20)))])]))
    (sSeq (sSet 3 (eCall m__law_label [(eCall m__law_number [(eV 0), (eC (.int 3)), (eB opPow (eC (.int 10)) (eC (.int 20)))])]))
    (sSeq (sSet 4 (eLstF [(eTup []), (eTup [(eV 2)]), (eTup [(eV 3), (eV 2)])]))
    (sSeq (sSet 5 (eLstF [(eC (.str "addr")), (eC (.str "alias")), (eC (.str "serve")), (eC (.str "text"))]))
    (sSeq (sSet 6 (eTup [(eTup [(eC (.str "a")), (eV 3), (eV 2)]), (eTup [(eV 3), (eV 2)])]))
    (sSeq (sSet 7 (eLstF [(eTup [(eB opIx (eV 1) (eC (.int 0))), (eB opIx (eV 1) (eC (.int 1)))]), (eTup [(eB opIx (eV 1) (eC (.int 2))), (eB opIx (eV 1) (eC (.int 3)))]), (eTup [(eB opIx (eV 4) (eB opIx (eV 1) (eC (.int 4)))), (eB opIx (eV 4) (eB opIx (eV 1) (eC (.int 5))))])]))
    (sRet (eB opAddF (eV 7) (eLstF [(eV 6), (eTup [(eB opIx (eV 5) (eB opIx (eV 1) (eC (.int 6)))), (eB opIx (eV 5) (eB opIx (eV 1) (eC (.int 7))))])]))))))))))
noncomputable def m__law_pools : Fm := fnT 8 b__law_pools
noncomputable def b__law_base : S := (sSeq (sSet 2 (eCall m__law_row [(eV 0), (eC (.int 4)), (eLstF [(eC (.int 4)), (eC (.int 990000))])]))
    (sRet (eB opIx (eLstF [(eB opAdd (eC (.int 1)) (eB opIx (eV 2) (eC (.int 1)))), (eB opAdd (eC (.int 1)) (eB opIx (eV 2) (eC (.int 1)))), (eC (.int 1)), (eB opSub (eB opSub (eC (.int 1000000)) (eB opMulA (eC (.int 4)) (eV 1))) (eC (.int 2)))]) (eB opIx (eV 2) (eC (.int 0))))))
noncomputable def m__law_base : Fm := fnT 3 b__law_base
noncomputable def b__law_letter : S := (sSeq (sSet 3 (eFz (eLc (mRng1 (eC (.int 5))) (gtName 4) tYesM (eB opIx (eB opIx (eV 0) (eV 4)) (eN opInt [(eB opEq (eV 1) (eB opAdd (eV 4) (eC (.int 1))))])) [4])))
    (sRet (eB opAdd (eTup [(eV 2)]) (eN opTupleOf [(eV 3)]))))
noncomputable def m__law_letter : Fm := fnT 5 b__law_letter
noncomputable def b__law_letters_1 : S := (sSeq (sSet 9 (eCall m__law_row [(eV 0), (eB opAddF (eV 1) (eV 8)), (eLstF [(eC (.int 3)), (eC (.int 5)), (eV 6), (eC (.int 4))])]))
    (sSeq (sSet 10 (eC (.int 0)))
    (sSeq (sIf (tBl (eB opEq (eB opIx (eV 9) (eC (.int 0))) (eC (.int 2)))) (sSet 10 (eB opAdd (eC (.int 1)) (eB opIx (eV 9) (eC (.int 1))))) sSkip)
    (sExpr (eMt opAppend (eV 7) [(eCall m__law_letter [(eV 3), (eV 10), (eB opSub (eB opAdd (eB opAdd (eV 4) (eB opMulA (eB opIx (eV 9) (eC (.int 2))) (eV 5))) (eB opIx (eV 9) (eC (.int 3)))) (eC (.int 1)))])])))))
noncomputable def b__law_letters : S := (sSeq (sSet 7 (eLst []))
    (sSeq (sFor (mRng1 (eV 2)) (gtName 8) b__law_letters_1)
    (sRet (eN opTupleOf [(eU (opSortK m__law_key) (eV 7))]))))
noncomputable def m__law_letters : Fm := fnT 11 b__law_letters
noncomputable def b__law_candidates_2 : S := (sSeq (sSet 7 (eB opSub (eB opIx (eV 4) (eC (.int 0))) (eB opIx (eB opIx (eV 1) (eV 6)) (eC (.int 0)))))
    (sIf (tAndM (tBl (eB opEq (eSlF (eB opIx (eV 1) (eV 6)) (some (eC (.int 1))) none) (eSlF (eV 4) (some (eC (.int 1))) none))) (tAndM (tBl (eB opLeX (eC (.int 0)) (eV 7))) (tBl (eB opLeX (eV 7) (eB opMulA (eC (.int 2)) (eB opIx (eV 0) (eC (.int 0)))))))) (sExpr (eMt opAppend (eV 5) [(eV 6)])) sSkip))
noncomputable def b__law_candidates_1 : S := (sSeq (sSet 5 (eLst []))
    (sSeq (sFor (mRng1 (eN opLen [(eV 1)])) (gtName 6) b__law_candidates_2)
    (sExpr (eMt opAppend (eV 3) [(eN opTupleOf [(eV 5)])]))))
noncomputable def b__law_candidates : S := (sSeq (sSet 3 (eLst []))
    (sSeq (sFor (mSeqS (eV 2)) (gtName 4) b__law_candidates_1)
    (sRet (eN opTupleOf [(eV 3)]))))
noncomputable def m__law_candidates : Fm := fnT 8 b__law_candidates
noncomputable def b__law_greedy_2 : S := (sIf (tAndM (tBl (eU opIsN (eV 8))) (tBl (eB opLtX (eB opIx (eV 5) (eV 9)) (eV 1)))) (sSet 8 (eV 9)) sSkip)
noncomputable def b__law_greedy_1 : S := (sSeq (sSet 8 (eC .non))
    (sSeq (sIf (tBl (eB opNe (eV 7) (eV 3))) (sFor (mSeqS (eB opIx (eV 0) (eV 7))) (gtName 9) b__law_greedy_2) sSkip)
    (sSeq (sIf (tBl (eU opNotN (eV 8))) (sSetIx (eV 5) (eV 8) (eB opAdd (eB opIx (eV 5) (eV 8)) (eC (.int 1)))) sSkip)
    (sExpr (eMt opAppend (eV 6) [(eV 8)])))))
noncomputable def b__law_greedy : S := (sSeq (sSet 5 (eLc (mRng1 (eV 2)) (gtName 7) tYesM (eN opInt [(eB opEq (eV 7) (eV 4))]) [7]))
    (sSeq (sSet 6 (eLst []))
    (sSeq (sFor (mRng1 (eN opLen [(eV 0)])) (gtName 7) b__law_greedy_1)
    (sRet (eN opTupleOf [(eV 6)])))))
noncomputable def m__law_greedy : Fm := fnT 10 b__law_greedy
noncomputable def b__law_forged : S := (sRet (eN opLen [(eFz (eLc (mSeqS (eV 0)) (gtName 1) (tBl (eU opIsN (eV 1))) (eV 1) [1]))]))
noncomputable def m__law_forged : Fm := fnT 2 b__law_forged
noncomputable def b__law_is_paper_1 : S := (sIf (tBl (eU opNotN (eB opIx (eV 2) (eV 3)))) (sSeq (sIf (tOrM (tNotM (tTru (eU (opIsi .int) (eB opIx (eV 2) (eV 3))))) (tOrM (tTru (eU (opIsi .bool) (eB opIx (eV 2) (eV 3)))) (tBl (eB opNin (eB opIx (eV 2) (eV 3)) (eB opIx (eV 0) (eV 3)))))) (sRet (eC (.bl false))) sSkip)
    (sIf (tBl (eB opGtX (eN opLen [(eFz (eLc (mSeqS (eV 2)) (gtName 4) (tBl (eB opEq (eV 4) (eB opIx (eV 2) (eV 3)))) (eV 4) [4]))]) (eV 1))) (sRet (eC (.bl false))) sSkip)) sSkip)
noncomputable def b__law_is_paper : S := (sSeq (sIf (tOrM (tNotM (tTru (eU (opIsi .tuple) (eV 2)))) (tBl (eB opNe (eN opLen [(eV 2)]) (eN opLen [(eV 0)])))) (sRet (eC (.bl false))) sSkip)
    (sSeq (sFor (mRng1 (eN opLen [(eV 2)])) (gtName 3) b__law_is_paper_1)
    (sRet (eC (.bl true)))))
noncomputable def m__law_is_paper : Fm := fnT 5 b__law_is_paper
noncomputable def b__law_are_rows_2 : S := (sIf (tTru (eU (opIsi .bool) (eV 3))) (sRet (eC (.bl false))) sSkip)
noncomputable def b__law_are_rows_1 : S := (sFor (mSeqS (eV 2)) (gtName 3) b__law_are_rows_2)
noncomputable def b__law_are_rows : S := (sSeq (sIf (tOrM (tNotM (tTru (eU (opIsi .tuple) (eV 0)))) (tBl (eB opNe (eV 0) (eV 1)))) (sRet (eC (.bl false))) sSkip)
    (sSeq (sFor (mSeqS (eV 0)) (gtName 2) b__law_are_rows_1)
    (sRet (eC (.bl true)))))
noncomputable def m__law_are_rows : Fm := fnT 4 b__law_are_rows
noncomputable def b__law_papers_1 : S := (sIf (tOrM (tBl (eB opEq (eB opIx (eV 1) (eV 7)) (eTup []))) (tAndM (tBl (eB opEq (eB opIx (eV 4) (eC (.int 4))) (eC (.int 1)))) (tBl (eB opEq (eB opMod (eN opInt [(eB opAddF (eV 7) (eB opIx (eV 4) (eC (.int 3))))]) (eC (.int 5))) (eC (.int 0)))))) (sExpr (eMt opAppend (eV 6) [(eC .non)])) (sExpr (eMt opAppend (eV 6) [(eB opIx (eB opIx (eV 1) (eV 7)) (eB opMod (eN opInt [(eB opAdd (eB opIx (eV 4) (eC (.int 2))) (eB opMulA (eV 7) (eB opIx (eV 4) (eC (.int 3)))))]) (eN opLen [(eB opIx (eV 1) (eV 7))])))])))
noncomputable def b__law_papers : S := (sSeq (sSet 4 (eCall m__law_row [(eV 0), (eC (.int 56)), (eLstF [(eC (.int 24)), (eC (.int 33)), (eC (.int 24)), (eC (.int 24)), (eC (.int 2))])]))
    (sSeq (sSet 5 (eLst [(eV 2), (eN opTupleOf [(eFz (eLc (mSeqS (eV 1)) (gtName 7) tYesM (eC .non) [7]))]), (eN opListF [(eV 2)]), (eB opAdd (eV 2) (eTup [(eC .non)])), (eSlF (eV 2) none (some (eU opNeg (eC (.int 1))))), (eTup []), (eC .non)]))
    (sSeq (sSet 6 (eLst []))
    (sSeq (sFor (mRng1 (eN opLen [(eV 1)])) (gtName 7) b__law_papers_1)
    (sSeq (sExpr (eMt opAppend (eV 5) [(eN opTupleOf [(eV 6)])]))
    (sSeq (sSet 8 (eB opAddF (eFz (eLc (mRng1 (eC (.int 25))) (gtName 7) tYesM (eV 7) [7])) (eLstF [(eV 3), (eU opNeg (eC (.int 1))), (eC (.bl true)), (eC (.bl false)), (eC .non), (eC (.str "0")), (eTup [(eC (.int 0))]), (eLstF [(eC (.int 0))])])))
    (sSeq (sIf (tBl (eB opGtX (eN opLen [(eV 1)]) (eC (.int 0)))) (sSeq (sSet 9 (eB opMod (eN opInt [(eB opIx (eV 4) (eC (.int 0)))]) (eN opLen [(eV 1)])))
    (sSeq (sExpr (eMt opAppend (eV 5) [(eB opAdd (eB opAdd (eSlF (eV 2) none (some (eV 9))) (eTup [(eB opIx (eV 8) (eB opIx (eV 4) (eC (.int 1))))])) (eSlF (eV 2) (some (eB opAdd (eV 9) (eC (.int 1)))) none))]))
    (sSeq (sExpr (eMt opAppend (eV 5) [(eN opTupleOf [(eB opAddF (eB opAddF (eSlF (eV 6) none (some (eV 9))) (eLstF [(eB opIx (eV 8) (eB opIx (eV 4) (eC (.int 1))))])) (eSlF (eV 6) (some (eB opAdd (eV 9) (eC (.int 1)))) none))])]))
    (sIf (tBl (eB opNe (eB opIx (eV 1) (eV 9)) (eTup []))) (sExpr (eMt opAppend (eV 5) [(eB opAdd (eB opAdd (eSlF (eV 2) none (some (eV 9))) (eTup [(eB opIx (eB opIx (eV 1) (eV 9)) (eB opMod (eN opInt [(eB opIx (eV 4) (eC (.int 2)))]) (eN opLen [(eB opIx (eV 1) (eV 9))])))])) (eSlF (eV 2) (some (eB opAdd (eV 9) (eC (.int 1)))) none))])) sSkip)))) sSkip)
    (sRet (eFz (eV 5))))))))))
noncomputable def m__law_papers : Fm := fnT 10 b__law_papers
noncomputable def b_law_1 : S := (sSeq (sSet 13 (eCall m_is_attribution [(eV 1), (eV 6), (eV 7), (eV 12)]))
    (sIf (tOrM (tNotM (tTru (eU (opIsi .bool) (eV 13)))) (tBl (eB opNe (eV 13) (eCall m__law_is_paper [(eV 8), (eB opIx (eV 1) (eC (.int 1))), (eV 12)])))) (sRet (eC (.bl false))) sSkip))
noncomputable def b_law : S := (sSeq (sSet 1 (eCall m__law_rules [(eV 0)]))
    (sSeq (sSet 2 (eCall m__law_pools [(eV 0)]))
    (sSeq (sSet 3 (eCall m__law_base [(eV 0), (eB opIx (eV 1) (eC (.int 0)))]))
    (sSeq (sSet 4 (eCall m__law_row [(eV 0), (eC (.int 5)), (eLstF [(eC (.int 7)), (eC (.int 8)), (eC (.int 6)), (eC (.int 25)), (eC (.int 25))])]))
    (sSeq (sSet 5 (eLstF [(eB opIx (eV 4) (eC (.int 0))), (eB opIx (eV 4) (eC (.int 1)))]))
    (sSeq (sIf (tBl (eB opEq (eB opIx (eV 4) (eC (.int 2))) (eC (.int 0)))) (sSet 5 (eLstF [(eB opIx (eV 4) (eC (.int 3))), (eB opIx (eV 4) (eC (.int 4)))])) sSkip)
    (sSeq (sSet 6 (eCall m__law_letters [(eV 0), (eC (.int 8)), (eB opIx (eV 5) (eC (.int 0))), (eV 2), (eV 3), (eB opIx (eV 1) (eC (.int 0))), (eC (.int 3))]))
    (sSeq (sSet 7 (eCall m__law_letters [(eV 0), (eC (.int 32)), (eB opIx (eV 5) (eC (.int 1))), (eV 2), (eV 3), (eB opIx (eV 1) (eC (.int 0))), (eC (.int 5))]))
    (sSeq (sSet 8 (eCall m__law_candidates [(eV 1), (eV 6), (eV 7)]))
    (sSeq (sIf (tNotM (tTru (eCall m__law_are_rows [(eCall m_candidates_of [(eV 1), (eV 6), (eV 7)]), (eV 8)]))) (sRet (eC (.bl false))) sSkip)
    (sSeq (sSet 9 (eCall m__law_greedy [(eV 8), (eB opIx (eV 1) (eC (.int 1))), (eB opIx (eV 5) (eC (.int 0))), (eU opNeg (eC (.int 1))), (eU opNeg (eC (.int 1)))]))
    (sSeq (sSet 10 (eCall m_attribute [(eV 1), (eV 6), (eV 7)]))
    (sSeq (sIf (tOrM (tNotM (tTru (eCall m__law_is_paper [(eV 8), (eB opIx (eV 1) (eC (.int 1))), (eV 10)]))) (tBl (eB opNe (eCall m__law_forged [(eV 10)]) (eCall m__law_forged [(eV 9)])))) (sRet (eC (.bl false))) sSkip)
    (sSeq (sSet 11 (eCall m_least_forged [(eV 1), (eV 6), (eV 7)]))
    (sSeq (sIf (tOrM (tNotM (tTru (eU (opIsi .int) (eV 11)))) (tOrM (tTru (eU (opIsi .bool) (eV 11))) (tBl (eB opNe (eV 11) (eCall m__law_forged [(eV 9)]))))) (sRet (eC (.bl false))) sSkip)
    (sSeq (sFor (mSeqS (eB opAddF (eLstF [(eV 10)]) (eCall m__law_papers [(eV 0), (eV 8), (eV 9), (eB opIx (eV 5) (eC (.int 0)))]))) (gtName 12) b_law_1)
    (sRet (eC (.bl true)))))))))))))))))))
noncomputable def m_law : Fm := fnT 14 b_law
end Lk32
/-! Mt: matching by growing trees, in plain Lean: replies x, their candidates C x, each question taken at most d times. No program in sight. -/
namespace Mt
/-- what each reply has taken -/
abbrev Tk := List (Option Nat)
section
variable (C : List (List Nat)) (d : Nat)
def cn (x : Nat) : List Nat := C.getD x []
/-- a right paper -/
structure Vld (T : Tk) : Prop where
  len : T.length = C.length
  cand : ∀ x q, T[x]? = some (some q) → q ∈ cn C x
  few : ∀ q, T.count (some q) ≤ d
/-- a set of replies whose candidates are all full, and held within -/
def Closed (T : Tk) (U : Nat → Prop) : Prop := ∀ x, U x → x < C.length → ∀ q ∈ cn C x, d ≤ T.count (some q) ∧ ∀ y, T[y]? = some (some q) → U y
def Cert (T : Tk) : Prop := ∀ x, T[x]? = some none → ∃ U : Nat → Prop, U x ∧ Closed C d T U
end
/-! ### counting -/
section
variable {n m : Nat}
/-- how many below n -/
def cnt (n : Nat) (p : Nat → Bool) : Nat := ((List.range n).filter p).length
theorem cnt_succ (p : Nat → Bool) : cnt (n + 1) p = cnt n p + if p n = true then 1 else 0 := by
  unfold cnt
  rw [List.range_succ, List.filter_append, List.length_append]
  congr 1
  cases h : p n <;> simp [h]
theorem cnt_mono {p q : Nat → Bool} (h : ∀ x, x < n → p x = true → q x = true) : cnt n p ≤ cnt n q := by
  induction n with
  | zero => exact Nat.le_refl _
  | succ n ih =>
    rw [cnt_succ, cnt_succ]
    have h1 := ih fun x hx => h x (by omega)
    have h2 := h n (by omega)
    cases hp : p n with
    | false => simp; omega
    | true => simp [h2 hp]; omega
theorem cnt_congr {p q : Nat → Bool} (h : ∀ x, x < n → p x = q x) : cnt n p = cnt n q :=
  Nat.le_antisymm (cnt_mono fun x hx e => by rw [← h x hx]; exact e) (cnt_mono fun x hx e => by rw [h x hx]; exact e)
theorem cnt_split (p q : Nat → Bool) : cnt n p = cnt n (fun x => p x && q x) + cnt n (fun x => p x && !q x) := by
  induction n with
  | zero => rfl
  | succ n ih =>
    rw [cnt_succ, cnt_succ, cnt_succ, ih]
    cases p n <;> cases q n <;> simp <;> omega
def sumB (m : Nat) (f : Nat → Nat) : Nat := ((List.range m).map f).sum
theorem sumB_succ (f : Nat → Nat) : sumB (m + 1) f = sumB m f + f m := by
  unfold sumB
  rw [List.range_succ, List.map_append, List.sum_append]
  simp
theorem sumB_le {f g : Nat → Nat} (h : ∀ q, q < m → f q ≤ g q) : sumB m f ≤ sumB m g := by
  induction m with
  | zero => exact Nat.le_refl _
  | succ m ih =>
    rw [sumB_succ, sumB_succ]
    have := ih fun q hq => h q (by omega)
    have := h m (by omega)
    omega
theorem sumB_add (f g : Nat → Nat) : sumB m (fun q => f q + g q) = sumB m f + sumB m g := by
  induction m with
  | zero => rfl
  | succ m ih => rw [sumB_succ, sumB_succ, sumB_succ, ih]; omega
theorem sumB_zero : sumB m (fun _ => 0) = 0 := by
  induction m with
  | zero => rfl
  | succ m ih => rw [sumB_succ, ih]
theorem sumB_one {k : Nat} (p : Nat → Bool) : sumB m (fun q => if q = k ∧ p q = true then 1 else 0) = if k < m ∧ p k = true then 1 else 0 := by
  induction m with
  | zero => simp [sumB]
  | succ m ih =>
    rw [sumB_succ, ih]
    by_cases e : m = k
    · subst e
      simp
    · have : (k < m + 1) ↔ k < m := by omega
      simp [e, this]
/-- those that took one of the questions that p tells -/
theorem cnt_sum (g : Nat → Option Nat) (p : Nat → Bool) (u : Nat → Bool) (hb : ∀ x q, x < n → g x = some q → q < m) :
    cnt n (fun x => u x && (match g x with | some q => p q | none => false)) = sumB m (fun q => if p q = true then cnt n (fun x => u x && decide (g x = some q)) else 0) := by
  induction n with
  | zero =>
    have : (fun q => if p q = true then cnt 0 (fun x => u x && decide (g x = some q)) else 0) = fun _ => 0 := by
      funext q
      split <;> rfl
    rw [this, sumB_zero]
    rfl
  | succ n ih =>
    rw [cnt_succ, ih fun x q hx => hb x q (by omega)]
    have e : (fun q => if p q = true then cnt (n + 1) (fun x => u x && decide (g x = some q)) else 0) =
        fun q => (if p q = true then cnt n (fun x => u x && decide (g x = some q)) else 0) + (if p q = true ∧ (u n && decide (g n = some q)) = true then 1 else 0) := by
      funext q
      rw [cnt_succ]
      cases hp : p q <;> simp
    rw [e, sumB_add]
    congr 1
    cases hg : g n with
    | none =>
      have : (fun q => if p q = true ∧ (u n && decide ((none : Option Nat) = some q)) = true then 1 else 0) = fun _ => 0 := by
        funext q
        simp
      rw [this, sumB_zero]
      simp
    | some k =>
      have hk := hb n k (by omega) hg
      cases hu : u n with
      | false =>
        have : (fun q => if p q = true ∧ (false && decide (some k = some q)) = true then 1 else 0) = fun _ => 0 := by
          funext q
          simp
        rw [this, sumB_zero]
        simp
      | true =>
        have : (fun q => if p q = true ∧ (true && decide (some k = some q)) = true then 1 else 0) = fun q => if q = k ∧ p q = true then 1 else 0 := by
          funext q
          by_cases e : q = k
          · subst e
            simp
          · have : ¬ k = q := fun z => e z.symm
            simp [e, this]
        rw [this, sumB_one]
        simp [hk]
theorem count_cntN (o : Option Nat) : ∀ (n : Nat) (T : Tk), T.length = n → T.count o = cnt n (fun x => decide (T[x]? = some o))
  | 0, T, h => by
    have : T = [] := List.eq_nil_of_length_eq_zero h
    subst this
    rfl
  | n + 1, T, h => by
    have hne : T ≠ [] := fun e => by rw [e] at h; simp at h
    have e := List.dropLast_concat_getLast hne
    have hl : T.dropLast.length = n := by rw [List.length_dropLast, h]; rfl
    have ih := count_cntN o n T.dropLast hl
    have hc : T.count o = T.dropLast.count o + (if T.getLast hne = o then 1 else 0) := by
      conv => lhs; rw [← e]
      rw [List.count_append]
      congr 1
      by_cases q : T.getLast hne = o <;> simp [q]
    rw [hc, ih, cnt_succ]
    congr 1
    · refine cnt_congr fun x hx => ?_
      conv => rhs; rw [← e]
      rw [List.getElem?_append_left (by omega)]
    · have : T[n]? = some (T.getLast hne) := by
        conv => lhs; rw [← e]
        rw [List.getElem?_append_right (by omega), hl, Nat.sub_self]
        rfl
      rw [this]
      by_cases q : T.getLast hne = o <;> simp [q]
theorem count_cnt {T : Tk} (o : Option Nat) : T.count o = cnt T.length (fun x => decide (T[x]? = some o)) := count_cntN o T.length T rfl
end
/-! ### a paper with such sets is least -/
section
variable {C : List (List Nat)} {d : Nat}
open Classical in
theorem least {T P : Tk} (vT : Vld C d T) (cT : Cert C d T) (vP : Vld C d P) : T.count none ≤ P.count none := by
  obtain ⟨m, hm⟩ : ∃ m, ∀ x, x < C.length → ∀ q ∈ cn C x, q < m := by
    have : ∀ (n : Nat), ∃ m, ∀ x, x < n → ∀ q ∈ cn C x, q < m := by
      intro n
      induction n with
      | zero => exact ⟨0, fun x hx => absurd hx (Nat.not_lt_zero _)⟩
      | succ n ih =>
        obtain ⟨m, h⟩ := ih
        have : ∀ l : List Nat, ∃ k, ∀ q ∈ l, q < k := by
          intro l
          induction l with
          | nil => exact ⟨0, fun q hq => by simp at hq⟩
          | cons a l ih =>
            obtain ⟨k, hk⟩ := ih
            refine ⟨max k (a + 1), fun q hq => ?_⟩
            rcases List.mem_cons.mp hq with rfl | hq
            · omega
            · have := hk q hq
              omega
        obtain ⟨k, hk⟩ := this (cn C n)
        refine ⟨max m k, fun x hx q hq => ?_⟩
        by_cases e : x = n
        · subst e
          have := hk q hq
          omega
        · have := h x (by omega) q hq
          omega
    exact this C.length
  let U : Nat → Prop := fun x => ∃ V : Nat → Prop, V x ∧ Closed C d T V
  have cU : Closed C d T U := fun x ⟨V, hx, hV⟩ hl q hq => by
    obtain ⟨h1, h2⟩ := hV x hx hl q hq
    exact ⟨h1, fun y hy => ⟨V, h2 y hy, hV⟩⟩
  let u : Nat → Bool := fun x => decide (U x)
  let p : Nat → Bool := fun q => decide (∃ x, U x ∧ x < C.length ∧ q ∈ cn C x)
  let gT : Nat → Option Nat := fun x => T.getD x none
  let gP : Nat → Option Nat := fun x => P.getD x none
  have aT : ∀ x, x < C.length → T[x]? = some (gT x) := fun x hx => by
    have : x < T.length := by rw [vT.len]; exact hx
    simp [gT, this]
  have aP : ∀ x, x < C.length → P[x]? = some (gP x) := fun x hx => by
    have : x < P.length := by rw [vP.len]; exact hx
    simp [gP, this]
  have bT : ∀ x q, x < C.length → gT x = some q → q < m := fun x q hx e => hm x hx q (vT.cand x q (by rw [aT x hx, e]))
  have bP : ∀ x q, x < C.length → gP x = some q → q < m := fun x q hx e => hm x hx q (vP.cand x q (by rw [aP x hx, e]))
  have sT := cnt_sum (n := C.length) gT p u bT
  have sP := cnt_sum (n := C.length) gP p u bP
  have hle : cnt C.length (fun x => u x && (match gP x with | some q => p q | none => false)) ≤ cnt C.length (fun x => u x && (match gT x with | some q => p q | none => false)) := by
    rw [sT, sP]
    refine sumB_le fun q hq => ?_
    cases hp : p q with
    | false => simp
    | true =>
      simp only [if_true]
      have hp' : ∃ x, U x ∧ x < C.length ∧ q ∈ cn C x := by simpa [p] using hp
      obtain ⟨x, hx, hl, hq'⟩ := hp'
      obtain ⟨f1, f2⟩ := cU x hx hl q hq'
      have g1 : cnt C.length (fun x => u x && decide (gP x = some q)) ≤ P.count (some q) := by
        rw [count_cnt, vP.len]
        refine cnt_mono fun y hy e => ?_
        rw [Bool.and_eq_true, decide_eq_true_eq] at e
        rw [aP y hy]
        simp only [decide_eq_true_eq] at e
        simp [e.2]
      have g2 : T.count (some q) ≤ cnt C.length (fun x => u x && decide (gT x = some q)) := by
        rw [count_cnt, vT.len]
        refine cnt_mono fun y hy e => ?_
        rw [decide_eq_true_eq] at e
        have : U y := f2 y e
        rw [aT y hy] at e
        simp [u, this, Option.some.inj e]
      have := vP.few q
      omega
  have wT : ∀ x, x < C.length → u x = true → (match gT x with | some q => p q | none => false) = (gT x).isSome := fun x hx hu => by
    cases e : gT x with
    | none => rfl
    | some q =>
      have hu' : U x := by simpa [u] using hu
      have : q ∈ cn C x := vT.cand x q (by rw [aT x hx, e])
      simp [p]
      exact ⟨x, hu', hx, this⟩
  have wP : ∀ x, x < C.length → u x = true → (match gP x with | some q => p q | none => false) = (gP x).isSome := fun x hx hu => by
    cases e : gP x with
    | none => rfl
    | some q =>
      have hu' : U x := by simpa [u] using hu
      have : q ∈ cn C x := vP.cand x q (by rw [aP x hx, e])
      simp [p]
      exact ⟨x, hu', hx, this⟩
  have eT : cnt C.length (fun x => u x && (match gT x with | some q => p q | none => false)) = cnt C.length (fun x => u x && (gT x).isSome) := cnt_congr fun x hx => by
    cases hu : u x with
    | false => rfl
    | true => rw [wT x hx hu]
  have eP : cnt C.length (fun x => u x && (match gP x with | some q => p q | none => false)) = cnt C.length (fun x => u x && (gP x).isSome) := cnt_congr fun x hx => by
    cases hu : u x with
    | false => rfl
    | true => rw [wP x hx hu]
  rw [eT, eP] at hle
  have c1 := cnt_split (n := C.length) u (fun x => (gT x).isSome)
  have c2 := cnt_split (n := C.length) u (fun x => (gP x).isSome)
  have n1 : T.count none ≤ cnt C.length (fun x => u x && !(gT x).isSome) := by
    rw [count_cnt, vT.len]
    refine cnt_mono fun x hx e => ?_
    rw [decide_eq_true_eq] at e
    obtain ⟨V, h1, h2⟩ := cT x e
    have hU : U x := ⟨V, h1, h2⟩
    rw [aT x hx] at e
    simp [u, hU, Option.some.inj e]
  have n2 : cnt C.length (fun x => u x && !(gP x).isSome) ≤ P.count none := by
    rw [count_cnt, vP.len]
    refine cnt_mono fun x hx e => ?_
    rw [Bool.and_eq_true] at e
    rw [aP x hx]
    cases h : gP x with
    | none => simp
    | some _ => rw [h] at e; simp at e
  omega
theorem least_eq {T P : Tk} (vT : Vld C d T) (cT : Cert C d T) (vP : Vld C d P) (cP : Cert C d P) : T.count none = P.count none := Nat.le_antisymm (least vT cT vP) (least vP cP vT)
end
end Mt
/-! Mt2: the growing of trees, as a plain function, and that it keeps the papers right and leaves closed sets behind. -/
namespace Mt
abbrev Km := List (Nat × Nat)
def keys (K : Km) : List Nat := K.map (·.1)
def came (K : Km) (q : Nat) : Option Nat := (K.find? fun p => decide (p.1 = q)).map (·.2)
def holders (T : Tk) (q : Nat) : List Nat := (List.range T.length).filter fun x => decide (T[x]? = some (some q))
theorem holders_len (T : Tk) (q : Nat) : (holders T q).length = T.count (some q) := (count_cnt (some q)).symm
theorem mem_holders {T : Tk} {q x : Nat} : x ∈ holders T q ↔ T[x]? = some (some q) := by
  unfold holders
  rw [List.mem_filter, decide_eq_true_eq, List.mem_range]
  refine ⟨fun h => h.2, fun h => ⟨(List.getElem?_eq_some_iff.mp h).1, h⟩⟩
theorem holders_nd (T : Tk) (q : Nat) : (holders T q).Nodup := List.Nodup.sublist List.filter_sublist List.nodup_range
section
variable (C : List (List Nat)) (d : Nat) (T : Tk) (r : Nat)
/-- all candidates of x -/
def scan (x : Nat) : List Nat → List Nat → Km → (Nat × List Nat × Km) ⊕ (List Nat × Km)
  | [], R, K => .inr (R, K)
  | q :: qs, R, K => if q ∈ keys K then scan x qs R K else
      if T.count (some q) < d then .inl (q, R, K ++ [(q, x)]) else scan x qs (R ++ (holders T q).filter fun y => decide (y ∉ R)) (K ++ [(q, x)])
def bfs : Nat → Nat → List Nat → Km → (Nat × List Nat × Km) ⊕ (List Nat × Km)
  | 0, _, R, K => .inr (R, K)
  | f + 1, at_, R, K => match R[at_]? with
    | none => .inr (R, K)
    | some x => match scan d T x (cn C x) R K with
      | .inl z => .inl z
      | .inr (R', K') => bfs f (at_ + 1) R' K'
/-- the turning over of a path -/
def turn (K : Km) : Nat → Nat → Tk → Tk
  | 0, _, T => T
  | f + 1, q, T => match came K q with
    | none => T
    | some x => if x = r then T.set x (some q) else match T[x]? with
      | some (some q') => turn K f q' (T.set x (some q))
      | _ => T.set x (some q)
def grow (f : Nat) : Tk × List Nat := match bfs C d T f 0 [r] [] with
  | .inl (q, R, K) => (turn r K f q T, R)
  | .inr (R, _) => (T, R)
end
/-! ### the tree -/
section
variable {C : List (List Nat)} {d : Nat} {T : Tk} {r : Nat}
/-- what a tree is -/
structure Tree (C : List (List Nat)) (T : Tk) (r : Nat) (R : List Nat) (K : Km) : Prop where
  nd : R.Nodup
  hd : R[0]? = some r
  kr : ∀ q x, (q, x) ∈ K → x ∈ R ∧ q ∈ cn C x
  knd : (keys K).Nodup
  tree : ∀ (i x : Nat), R[i]? = some x → i ≠ 0 → ∃ q y j, T[x]? = some (some q) ∧ (q, y) ∈ K ∧ R[j]? = some y ∧ j < i
def Full (d : Nat) (T : Tk) (R : List Nat) (K : Km) : Prop := ∀ q x, (q, x) ∈ K → d ≤ T.count (some q) ∧ ∀ y, T[y]? = some (some q) → y ∈ R
theorem mem_keys {K : Km} {q : Nat} : q ∈ keys K ↔ ∃ x, (q, x) ∈ K := by
  unfold keys
  rw [List.mem_map]
  constructor
  · rintro ⟨⟨a, b⟩, h, rfl⟩
    exact ⟨b, h⟩
  · rintro ⟨x, h⟩
    exact ⟨(q, x), h, rfl⟩
theorem Tree.key {R : List Nat} {K : Km} (t : Tree C T r R K) {q x : Nat} (hx : x ∈ R) (hq : q ∈ cn C x) (hk : q ∉ keys K) : Tree C T r R (K ++ [(q, x)]) := by
  refine ⟨t.nd, t.hd, fun q' x' h => ?_, ?_, fun i y hi h0 => ?_⟩
  · rcases List.mem_append.mp h with h | h
    · exact t.kr q' x' h
    · simp at h
      obtain ⟨rfl, rfl⟩ := h
      exact ⟨hx, hq⟩
  · unfold keys at hk ⊢
    rw [List.map_append, List.nodup_append]
    refine ⟨t.knd, by simp, fun a ha b hb => ?_⟩
    simp at hb
    subst hb
    exact fun e => hk (e ▸ ha)
  · obtain ⟨q', y', j, h1, h2, h3, h4⟩ := t.tree i y hi h0
    exact ⟨q', y', j, h1, List.mem_append_left _ h2, h3, h4⟩
theorem Tree.rows {R H : List Nat} {K : Km} (t : Tree C T r R K) {q x : Nat} (hk : (q, x) ∈ K) (hn : H.Nodup) (hH : ∀ y ∈ H, T[y]? = some (some q) ∧ y ∉ R) : Tree C T r (R ++ H) K := by
  refine ⟨?_, ?_, fun q' x' h => ?_, t.knd, fun i y hi h0 => ?_⟩
  · rw [List.nodup_append]
    exact ⟨t.nd, hn, fun a ha b hb e => (hH b hb).2 (e ▸ ha)⟩
  · have := (List.getElem?_eq_some_iff.mp t.hd).1
    rw [List.getElem?_append_left this]
    exact t.hd
  · exact ⟨List.mem_append_left _ (t.kr q' x' h).1, (t.kr q' x' h).2⟩
  · by_cases hl : i < R.length
    · rw [List.getElem?_append_left hl] at hi
      obtain ⟨q', y', j, h1, h2, h3, h4⟩ := t.tree i y hi h0
      exact ⟨q', y', j, h1, h2, by rw [List.getElem?_append_left (by omega)]; exact h3, h4⟩
    · rw [List.getElem?_append_right (by omega)] at hi
      obtain ⟨h1, _⟩ := hH y (List.mem_of_getElem? hi)
      obtain ⟨j, hj, ej⟩ := List.getElem_of_mem (t.kr q x hk).1
      exact ⟨q, x, j, h1, hk, by rw [List.getElem?_append_left hj, List.getElem?_eq_getElem hj, ej], by omega⟩
theorem scan_ok {x : Nat} : ∀ (qs R : List Nat) (K : Km), Tree C T r R K → Full d T R K → x ∈ R → (∀ q ∈ qs, q ∈ cn C x) →
    (∀ R' K', scan d T x qs R K = .inr (R', K') → Tree C T r R' K' ∧ Full d T R' K' ∧ (∃ H, R' = R ++ H) ∧ (∀ q ∈ keys K, q ∈ keys K') ∧ ∀ q ∈ qs, q ∈ keys K') ∧
    (∀ q R' K', scan d T x qs R K = .inl (q, R', K') → Tree C T r R' K' ∧ q ∈ keys K' ∧ T.count (some q) < d)
  | [], R, K, t, f, hx, hq => by
    refine ⟨fun R' K' e => ?_, fun q R' K' e => ?_⟩
    · simp only [scan, Sum.inr.injEq, Prod.mk.injEq] at e
      obtain ⟨rfl, rfl⟩ := e
      exact ⟨t, f, ⟨[], by simp⟩, fun q h => h, fun q h => by simp at h⟩
    · simp [scan] at e
  | q :: qs, R, K, t, f, hx, hq => by
    by_cases h1 : q ∈ keys K
    · have ih := scan_ok (x := x) qs R K t f hx fun q' h => hq q' (by simp [h])
      simp only [scan, if_pos h1]
      refine ⟨fun R' K' e => ?_, ih.2⟩
      obtain ⟨a1, a2, a3, a4, a5⟩ := ih.1 R' K' e
      refine ⟨a1, a2, a3, a4, fun q' h => ?_⟩
      rcases List.mem_cons.mp h with rfl | h
      · exact a4 _ h1
      · exact a5 q' h
    · simp only [scan, if_neg h1]
      have t1 := t.key hx (hq q (by simp)) h1
      have hin : q ∈ keys (K ++ [(q, x)]) := mem_keys.mpr ⟨x, by simp⟩
      by_cases h2 : T.count (some q) < d
      · rw [if_pos h2]
        refine ⟨fun R' K' e => (by cases e), fun q' R' K' e => ?_⟩
        simp only [Sum.inl.injEq, Prod.mk.injEq] at e
        obtain ⟨rfl, rfl, rfl⟩ := e
        exact ⟨t1, hin, h2⟩
      · rw [if_neg h2]
        have t2 : Tree C T r (R ++ (holders T q).filter fun y => decide (y ∉ R)) (K ++ [(q, x)]) := t1.rows (q := q) (x := x) (by simp) (List.Nodup.sublist List.filter_sublist (holders_nd T q)) fun y hy => by
          rw [List.mem_filter, mem_holders, decide_eq_true_eq] at hy
          exact hy
        have f2 : Full d T (R ++ (holders T q).filter fun y => decide (y ∉ R)) (K ++ [(q, x)]) := fun q' x' h => by
          rcases List.mem_append.mp h with h | h
          · obtain ⟨a, b⟩ := f q' x' h
            exact ⟨a, fun y hy => List.mem_append_left _ (b y hy)⟩
          · simp at h
            obtain ⟨rfl, rfl⟩ := h
            refine ⟨by omega, fun y hy => ?_⟩
            by_cases hR : y ∈ R
            · exact List.mem_append_left _ hR
            · exact List.mem_append_right _ (by rw [List.mem_filter, mem_holders, decide_eq_true_eq]; exact ⟨hy, hR⟩)
        have ih := scan_ok (x := x) qs _ _ t2 f2 (List.mem_append_left _ hx) fun q' h => hq q' (by simp [h])
        refine ⟨fun R' K' e => ?_, ih.2⟩
        obtain ⟨a1, a2, ⟨H, a3⟩, a4, a5⟩ := ih.1 R' K' e
        have up : ∀ q' ∈ keys K, q' ∈ keys (K ++ [(q, x)]) := fun q' h => by
          obtain ⟨y, hy⟩ := mem_keys.mp h
          exact mem_keys.mpr ⟨y, List.mem_append_left _ hy⟩
        refine ⟨a1, a2, ⟨_, by rw [a3, List.append_assoc]⟩, fun q' h => a4 q' (up q' h), fun q' h => ?_⟩
        rcases List.mem_cons.mp h with rfl | h
        · exact a4 _ hin
        · exact a5 q' h
theorem nodup_len : ∀ {n : Nat} {R : List Nat}, R.Nodup → (∀ x ∈ R, x < n) → R.length ≤ n
  | 0, R, _, hb => by
    cases R with
    | nil => exact Nat.le_refl _
    | cons x R => exact absurd (hb x (by simp)) (Nat.not_lt_zero _)
  | n + 1, R, hn, hb => by
    have h1 : (R.erase n).length ≤ n := nodup_len (hn.erase n) fun x hx => by
      rw [hn.mem_erase_iff] at hx
      have := hb x hx.2
      omega
    rw [List.length_erase] at h1
    split at h1 <;> omega
theorem bfs_ok (hT : T.length = C.length) (hr : r < C.length) : ∀ (f at_ : Nat) (R : List Nat) (K : Km), Tree C T r R K → Full d T R K → at_ ≤ R.length → (∀ i x, i < at_ → R[i]? = some x → ∀ q ∈ cn C x, q ∈ keys K) → C.length < f + at_ →
    (∀ R' K', bfs C d T f at_ R K = .inr (R', K') → Tree C T r R' K' ∧ Full d T R' K' ∧ ∀ x ∈ R', ∀ q ∈ cn C x, q ∈ keys K') ∧
    (∀ q R' K', bfs C d T f at_ R K = .inl (q, R', K') → Tree C T r R' K' ∧ q ∈ keys K' ∧ T.count (some q) < d) := by
  have bound : ∀ {R : List Nat} {K : Km}, Tree C T r R K → R.length ≤ C.length := fun {R K} t => nodup_len t.nd fun x hx => by
    obtain ⟨i, hi, e⟩ := List.getElem_of_mem hx
    by_cases h0 : i = 0
    · have := t.hd
      subst h0
      rw [List.getElem?_eq_getElem hi, e] at this
      rw [Option.some.inj this]
      exact hr
    · obtain ⟨q, y, j, h1, _⟩ := t.tree i x (by rw [List.getElem?_eq_getElem hi, e]) h0
      rw [← hT]
      exact (List.getElem?_eq_some_iff.mp h1).1
  intro f
  induction f with
  | zero =>
    intro at_ R K t _ hat _ hf
    have := bound t
    omega
  | succ f ih =>
    intro at_ R K t fl hat hd hf
    cases e : R[at_]? with
    | none =>
      have hl : R.length ≤ at_ := by
        rw [List.getElem?_eq_none_iff] at e
        exact e
      simp only [bfs, e]
      refine ⟨fun R' K' z => ?_, fun q R' K' z => (by cases z)⟩
      simp only [Sum.inr.injEq, Prod.mk.injEq] at z
      obtain ⟨rfl, rfl⟩ := z
      refine ⟨t, fl, fun x hx => ?_⟩
      obtain ⟨i, hi, e2⟩ := List.getElem_of_mem hx
      exact hd i x (by omega) (by rw [List.getElem?_eq_getElem hi, e2])
    | some x =>
      have hx : x ∈ R := List.mem_of_getElem? e
      have hlt : at_ < R.length := (List.getElem?_eq_some_iff.mp e).1
      have sc := scan_ok (d := d) (x := x) (cn C x) R K t fl hx fun q h => h
      simp only [bfs, e]
      cases q : scan d T x (cn C x) R K with
      | inl z =>
        obtain ⟨q0, R0, K0⟩ := z
        refine ⟨fun R' K' z => (by cases z), fun q' R' K' z => ?_⟩
        simp only [Sum.inl.injEq, Prod.mk.injEq] at z
        obtain ⟨rfl, rfl, rfl⟩ := z
        exact sc.2 _ _ _ q
      | inr z =>
        obtain ⟨R0, K0⟩ := z
        obtain ⟨a1, a2, ⟨H, rfl⟩, a4, a5⟩ := sc.1 _ _ q
        refine ih (at_ + 1) (R ++ H) K0 a1 a2 (by rw [List.length_append]; omega) (fun i y hi hy => ?_) (by omega)
        rw [List.getElem?_append_left (by omega)] at hy
        by_cases hi' : i = at_
        · subst hi'
          rw [e] at hy
          cases hy
          exact a5
        · exact fun q' hq' => a4 q' (hd i y (by omega) hy q' hq')
end
/-! ### the turning -/
section
variable {C : List (List Nat)} {d : Nat} {T0 : Tk} {r : Nat} {R : List Nat} {K : Km}
theorem came_of {q x : Nat} (hn : (keys K).Nodup) (h : (q, x) ∈ K) : came K q = some x := by
  unfold came
  cases e : K.find? (fun p => decide (p.1 = q)) with
  | none =>
    rw [List.find?_eq_none] at e
    have := e _ h
    simp at this
  | some p =>
    have h1 := List.find?_some e
    simp at h1
    have h2 := List.mem_of_find?_eq_some e
    obtain ⟨a, b⟩ := p
    simp at h1
    subst h1
    have : ∀ {K : Km}, (keys K).Nodup → (a, x) ∈ K → (a, b) ∈ K → x = b := by
      intro K
      induction K with
      | nil => intro _ h _; simp at h
      | cons k K ih =>
        intro hn h1 h2
        unfold keys at hn
        rw [List.map_cons, List.nodup_cons] at hn
        rcases List.mem_cons.mp h1 with e1 | h1
        · rcases List.mem_cons.mp h2 with e2 | h2
          · rw [← e1] at e2
            exact (Prod.mk.inj e2).2.symm
          · exact absurd (List.mem_map.mpr ⟨_, h2, by rw [← e1]⟩) hn.1
        · rcases List.mem_cons.mp h2 with e2 | h2
          · exact absurd (List.mem_map.mpr ⟨_, h1, by rw [← e2]⟩) hn.1
          · exact ih hn.2 h1 h2
    rw [this hn h h2]
    rfl
/-- what the turning does: from a question with room back to the root -/
theorem turn_ok (t : Tree C T0 r R K) (hr0 : T0[r]? = some none) (hT0 : T0.length = C.length) : ∀ (i x q f : Nat) (T : Tk), R[i]? = some x → (q, x) ∈ K → (∀ j y, j ≤ i → R[j]? = some y → T[y]? = T0[y]?) → Vld C d T → T.count (some q) < d → i < f →
    Vld C d (turn r K f q T) ∧ (turn r K f q T)[r]? ≠ some none ∧ (∀ y, y ≠ r → ((turn r K f q T)[y]? = some none ↔ T[y]? = some none)) ∧
    (∀ U : Nat → Prop, Closed C d T0 U → (∀ x q, U x → x < C.length → q ∈ cn C x → T0.count (some q) = T.count (some q) ∨ d ≤ T0.count (some q)) → ¬ U x → (∀ z, U z → z < C.length → q ∉ cn C z) →
      ∀ y, (turn r K f q T)[y]? = T[y]? ∨ (¬ U y ∧ ∀ q', (turn r K f q T)[y]? = some (some q') → ∀ z, U z → z < C.length → q' ∉ cn C z)) := by
  intro i
  induction i using Nat.strongRecOn with
  | _ i ih =>
    intro x q f T hx hq hsame v hroom hf
    cases f with
    | zero => omega
    | succ f =>
      have hcq : q ∈ cn C x := (t.kr q x hq).2
      have ecame := came_of t.knd hq
      have hxT : T[x]? = T0[x]? := hsame i x (Nat.le_refl _) hx
      have vset : ∀ {T : Tk}, Vld C d T → x < T.length → T.count (some q) < d → Vld C d (T.set x (some q)) := by
        intro T v hl hc
        refine ⟨by rw [List.length_set]; exact v.len, fun y q' e => ?_, fun q' => ?_⟩
        · by_cases hy : y = x
          · subst hy
            rw [List.getElem?_set_self hl] at e
            cases e
            exact hcq
          · rw [List.getElem?_set_ne (fun z => hy z.symm)] at e
            exact v.cand y q' e
        · rw [List.count_set hl]
          by_cases e : q = q'
          · subst e
            simp only [beq_self_eq_true, if_true]
            have : T.count (some q) - (if (T[x] == some q) = true then 1 else 0) ≤ T.count (some q) := Nat.sub_le _ _
            omega
          · have h1 : (some q == some q') = false := by simpa using e
            have := v.few q'
            simp only [h1, Bool.false_eq_true, if_false]
            omega
      by_cases hxr : x = r
      · subst hxr
        have hl : x < T.length := by
          rw [hr0] at hxT
          exact (List.getElem?_eq_some_iff.mp hxT).1
        have e : turn x K (f + 1) q T = T.set x (some q) := by simp [turn, ecame]
        rw [e]
        refine ⟨vset v hl hroom, by rw [List.getElem?_set_self hl]; simp, fun y hy => by rw [List.getElem?_set_ne (fun z => hy z.symm)], fun U cU _ hxU hqU y => ?_⟩
        by_cases hy : y = x
        · subst hy
          refine .inr ⟨hxU, fun q' e' => ?_⟩
          rw [List.getElem?_set_self hl] at e'
          cases e'
          exact hqU
        · exact .inl (by rw [List.getElem?_set_ne (fun z => hy z.symm)])
      · have hi0 : i ≠ 0 := fun e => hxr (by
          subst e
          have := t.hd
          rw [hx] at this
          exact Option.some.inj this)
        obtain ⟨q', y, j, h1, h2, h3, h4⟩ := t.tree i x hx hi0
        have hxT' : T[x]? = some (some q') := by rw [hxT, h1]
        have hl : x < T.length := (List.getElem?_eq_some_iff.mp hxT').1
        have e : turn r K (f + 1) q T = turn r K f q' (T.set x (some q)) := by
          conv => lhs; unfold turn
          rw [ecame]
          dsimp only
          rw [if_neg hxr, hxT']
        have hgx : T[x] = some q' := by
          rw [List.getElem?_eq_getElem hl] at hxT'
          exact Option.some.inj hxT'
        have hneq : q ≠ q' ∨ q = q' := by by_cases z : q = q' <;> simp [z]
        have hroom' : (T.set x (some q)).count (some q') < d := by
          rw [List.count_set hl, hgx]
          simp only [beq_self_eq_true, if_true]
          have hpos : 0 < T.count (some q') := by
            rw [List.count_pos_iff]
            exact List.mem_of_getElem? hxT'
          have hf' := v.few q'
          by_cases z : q = q'
          · subst z
            simp
            omega
          · have : (some q == some q') = false := by simpa using z
            simp only [this, Bool.false_eq_true, if_false]
            omega
        have hsame' : ∀ j' y', j' ≤ j → R[j']? = some y' → (T.set x (some q))[y']? = T0[y']? := fun j' y' hj hy' => by
          have hne : x ≠ y' := fun z => by
            subst z
            have l1 := (List.getElem?_eq_some_iff.mp hx).1
            have l2 := (List.getElem?_eq_some_iff.mp hy').1
            have : i = j' := by
              have g1 := (List.getElem?_eq_some_iff.mp hx).2
              have g2 := (List.getElem?_eq_some_iff.mp hy').2
              exact (List.getElem_inj t.nd).mp (g1.trans g2.symm)
            omega
          rw [List.getElem?_set_ne hne]
          exact hsame j' y' (by omega) hy'
        obtain ⟨b1, b2, b3, b4⟩ := ih j h4 y q' f (T.set x (some q)) h3 h2 hsame' (vset v hl hroom) hroom' (by omega)
        rw [e]
        refine ⟨b1, b2, fun z hz => ?_, fun U cU hcnt hxU hqU z => ?_⟩
        · rw [b3 z hz]
          by_cases hzx : z = x
          · subst hzx
            rw [List.getElem?_set_self hl, hxT']
            simp
          · rw [List.getElem?_set_ne (fun w => hzx w.symm)]
        · have hq'U : ∀ w, U w → w < C.length → q' ∉ cn C w := fun w hw hwl hc => hxU ((cU w hw hwl q' hc).2 x h1)
          have hyU : ¬ U y := fun hy => by
            have hyl : y < C.length := by
              obtain ⟨k, _⟩ := List.getElem?_eq_some_iff.mp h3
              by_cases hj0 : j = 0
              · subst hj0
                have := t.hd
                rw [h3] at this
                rw [Option.some.inj this, ← hT0]
                exact (List.getElem?_eq_some_iff.mp hr0).1
              · obtain ⟨_, _, _, g1, _⟩ := t.tree j y h3 hj0
                rw [← hT0]
                exact (List.getElem?_eq_some_iff.mp g1).1
            exact hq'U y hy hyl (t.kr q' y h2).2
          rcases b4 U cU (fun w q'' hw hwl hc => .inr (cU w hw hwl q'' hc).1) hyU hq'U z with g | g
          · by_cases hzx : z = x
            · subst hzx
              refine .inr ⟨hxU, fun q'' e' => ?_⟩
              rw [g, List.getElem?_set_self hl] at e'
              cases e'
              exact hqU
            · exact .inl (by rw [g, List.getElem?_set_ne (fun w => hzx w.symm)])
          · exact .inr g
end
/-! ### one reply more -/
section
variable {C : List (List Nat)} {d : Nat}
structure Good (C : List (List Nat)) (d : Nat) (T : Tk) (i : Nat) : Prop where
  v : Vld C d T
  rest : ∀ x, i ≤ x → x < C.length → T[x]? = some none
  cert : ∀ x, x < i → T[x]? = some none → ∃ U : Nat → Prop, U x ∧ Closed C d T U ∧ ∀ y, U y → y < i
theorem good_grow {T : Tk} {i f : Nat} (g : Good C d T i) (hi : i < C.length) (hf : C.length < f) : Good C d (grow C d T i f).1 (i + 1) := by
  have hr0 : T[i]? = some none := g.rest i (Nat.le_refl _) hi
  have hT : T.length = C.length := g.v.len
  have t0 : Tree C T i [i] [] := ⟨by simp, rfl, fun q x h => by simp at h, by simp [keys], fun j x h h0 => by
    have : j = 0 := by
      have := (List.getElem?_eq_some_iff.mp h).1
      simpa using this
    exact absurd this h0⟩
  have fl0 : Full d T [i] [] := fun q x h => by simp at h
  have B := bfs_ok (d := d) hT hi f 0 [i] [] t0 fl0 (Nat.zero_le _) (fun j x h => absurd h (Nat.not_lt_zero _)) (by omega)
  unfold grow
  cases e : bfs C d T f 0 [i] [] with
  | inr z =>
    obtain ⟨R, K⟩ := z
    obtain ⟨t, fl, al⟩ := B.1 R K e
    have lt : ∀ y ∈ R, y < i + 1 := fun y hy => by
      obtain ⟨j, hj, ej⟩ := List.getElem_of_mem hy
      by_cases h0 : j = 0
      · subst h0
        have := t.hd
        rw [List.getElem?_eq_getElem hj, ej] at this
        have := Option.some.inj this
        omega
      · obtain ⟨q, _, _, h1, _⟩ := t.tree j y (by rw [List.getElem?_eq_getElem hj, ej]) h0
        by_cases hy' : y < i
        · omega
        · have hyl := (List.getElem?_eq_some_iff.mp h1).1
          rw [g.rest y (by omega) (by omega)] at h1
          cases h1
    refine ⟨g.v, fun x hx hl => g.rest x (by omega) hl, fun x hx e0 => ?_⟩
    by_cases hxi : x = i
    · subst hxi
      refine ⟨fun y => y ∈ R, List.mem_of_getElem? t.hd, fun y hy _ q hq => ?_, lt⟩
      obtain ⟨w, hw⟩ := mem_keys.mp (al y hy q hq)
      exact fl q w hw
    · obtain ⟨U, h1, h2, h3⟩ := g.cert x (by omega) e0
      exact ⟨U, h1, h2, fun y hy => by have := h3 y hy; omega⟩
  | inl z =>
    obtain ⟨q, R, K⟩ := z
    obtain ⟨t, hk, hc⟩ := B.2 q R K e
    obtain ⟨x, hx⟩ := mem_keys.mp hk
    obtain ⟨j, hj, ej⟩ := List.getElem_of_mem (t.kr q x hx).1
    have hRj : R[j]? = some x := by rw [List.getElem?_eq_getElem hj, ej]
    have hRl : R.length ≤ C.length := nodup_len t.nd fun y hy => by
      obtain ⟨k, hk, ek⟩ := List.getElem_of_mem hy
      by_cases h0 : k = 0
      · subst h0
        have := t.hd
        rw [List.getElem?_eq_getElem hk, ek] at this
        have := Option.some.inj this
        omega
      · obtain ⟨_, _, _, h1, _⟩ := t.tree k y (by rw [List.getElem?_eq_getElem hk, ek]) h0
        rw [← hT]
        exact (List.getElem?_eq_some_iff.mp h1).1
    obtain ⟨b1, b2, b3, b4⟩ := turn_ok (d := d) t hr0 hT j x q f T hRj hx (fun _ _ _ _ => rfl) g.v hc (by omega)
    show Good C d (turn i K f q T) (i + 1)
    refine ⟨b1, fun y hy hl => ?_, fun y hy e0 => ?_⟩
    · exact (b3 y (by omega)).mpr (g.rest y (by omega) hl)
    · have hyi : y ≠ i := fun z => by
        subst z
        exact b2 e0
      obtain ⟨U, h1, h2, h3⟩ := g.cert y (by omega) ((b3 y hyi).mp e0)
      have hqU : ∀ z, U z → z < C.length → q ∉ cn C z := fun z hz hl hq => by
        have := (h2 z hz hl q hq).1
        omega
      have hxU : ¬ U x := fun hu => by
        have : x < C.length := by have := h3 x hu; omega
        exact hqU x hu this (t.kr q x hx).2
      have key := b4 U h2 (fun _ _ _ _ _ => .inl rfl) hxU hqU
      refine ⟨U, h1, fun z hz hl p hp => ?_, fun z hz => by have := h3 z hz; omega⟩
      obtain ⟨c1, c2⟩ := h2 z hz hl p hp
      refine ⟨?_, fun w hw => ?_⟩
      · refine Nat.le_trans c1 ?_
        rw [count_cnt, count_cnt, hT, b1.len]
        refine cnt_mono fun w hw ew => ?_
        rw [decide_eq_true_eq] at ew ⊢
        rcases key w with k | k
        · rw [k]; exact ew
        · exact absurd (c2 w ew) k.1
      · rcases key w with k | k
        · exact c2 w (by rw [← k]; exact hw)
        · exact absurd hp (k.2 p hw z hz hl)
/-- all replies, one after another -/
def matched (C : List (List Nat)) (d : Nat) (f : Nat) : Nat → Tk
  | 0 => List.replicate C.length none
  | i + 1 => (grow C d (matched C d f i) i f).1
theorem good_matched (f : Nat) (hf : C.length < f) : ∀ i, i ≤ C.length → Good C d (matched C d f i) i
  | 0, _ => by
    refine ⟨⟨by simp [matched], fun x q e => ?_, fun q => ?_⟩, fun x _ hl => by simp [matched, hl], fun x hx => absurd hx (Nat.not_lt_zero _)⟩
    · simp only [matched, List.getElem?_replicate] at e
      split at e
      · cases e
      · cases e
    · simp only [matched]
      rw [List.count_eq_zero.mpr (fun h => by
        have := List.eq_of_mem_replicate h
        cases this)]
      exact Nat.zero_le _
  | i + 1, hi => good_grow (good_matched f hf i (by omega)) (by omega) hf
theorem matched_ok (f : Nat) (hf : C.length < f) : Vld C d (matched C d f C.length) ∧ Cert C d (matched C d f C.length) := by
  have g := good_matched (C := C) (d := d) f hf C.length (Nat.le_refl _)
  refine ⟨g.v, fun x e => ?_⟩
  have hx : x < C.length := by
    have := (List.getElem?_eq_some_iff.mp e).1
    rw [g.v.len] at this
    exact this
  obtain ⟨U, h1, h2, _⟩ := g.cert x hx e
  exact ⟨U, h1, h2⟩
end
end Mt
/-! Mt3: the earliest question with room, reply by reply, in order of time: a least paper too. -/
namespace Mt
section
variable (C : List (List Nat)) (d : Nat)
def pick (T : Tk) (l : List Nat) : Option Nat := l.find? fun q => decide (T.count (some q) < d)
def greedy : Nat → Tk
  | 0 => []
  | n + 1 => greedy n ++ [pick d (greedy n) (cn C n)]
end
/-- what candidates are: questions of the same class, in a window of time; both in order of time -/
structure Timed (C : List (List Nat)) (nq : Nat) (clq clr : Nat → Nat → Prop) (tq tr : Nat → Int) (w : Int) : Prop where
  mem : ∀ x, x < C.length → ∀ q, q ∈ cn C x ↔ (q < nq ∧ clr x q ∧ tq q ≤ tr x ∧ tr x ≤ tq q + w)
  same : ∀ x y q p, x < C.length → y < C.length → q < nq → p < nq → clr x q → clr y q → clr y p → clr x p
  inc : ∀ x, (cn C x).Pairwise (· < ·)
  tqm : ∀ q p, q ≤ p → p < nq → tq q ≤ tq p
  trm : ∀ x y, x ≤ y → y < C.length → tr x ≤ tr y
section
variable {C : List (List Nat)} {d nq : Nat} {clq clr : Nat → Nat → Prop} {tq tr : Nat → Int} {w : Int}
theorem greedy_len : ∀ n, (greedy C d n).length = n
  | 0 => rfl
  | n + 1 => by simp [greedy, greedy_len n]
theorem greedy_at {x n : Nat} (h : x < n) : (greedy C d n)[x]? = some (pick d (greedy C d x) (cn C x)) := by
  induction n with
  | zero => omega
  | succ n ih =>
    by_cases e : x = n
    · subst e
      rw [greedy, List.getElem?_append_right (by rw [greedy_len]; exact Nat.le_refl _), greedy_len, Nat.sub_self]
      rfl
    · rw [greedy, List.getElem?_append_left (by rw [greedy_len]; omega)]
      exact ih (by omega)
theorem greedy_count {x n : Nat} (h : x ≤ n) (o : Option Nat) : (greedy C d x).count o ≤ (greedy C d n).count o := by
  induction n with
  | zero =>
    have : x = 0 := by omega
    subst this
    exact Nat.le_refl _
  | succ n ih =>
    by_cases e : x = n + 1
    · subst e
      exact Nat.le_refl _
    · rw [greedy, List.count_append]
      have := ih (by omega)
      omega
theorem greedy_few (q : Nat) : ∀ n, (greedy C d n).count (some q) ≤ d
  | 0 => Nat.zero_le _
  | n + 1 => by
    have ih := greedy_few q n
    rw [greedy, List.count_append]
    by_cases e : pick d (greedy C d n) (cn C n) = some q
    · have h := List.find?_some e
      simp at h
      rw [e]
      simp
      omega
    · have : [pick d (greedy C d n) (cn C n)].count (some q) = 0 := by
        rw [List.count_eq_zero]
        simp
        exact fun z => e z.symm
      omega
theorem greedy_vld : Vld C d (greedy C d C.length) := by
  refine ⟨greedy_len _, fun x q e => ?_, fun q => greedy_few q _⟩
  have hx : x < C.length := by
    have := (List.getElem?_eq_some_iff.mp e).1
    rw [greedy_len] at this
    exact this
  rw [greedy_at hx] at e
  exact List.mem_of_find?_eq_some (Option.some.inj e)
theorem find_first {p : Nat → Bool} : ∀ {l : List Nat} {q s : Nat}, l.Pairwise (· < ·) → l.find? p = some q → s ∈ l → s < q → p s = false
  | [], _, _, _, e, _, _ => by simp at e
  | a :: l, q, s, h, e, hs, hlt => by
    rw [List.pairwise_cons] at h
    rw [List.find?_cons] at e
    cases hp : p a with
    | true =>
      rw [hp] at e
      cases e
      rcases List.mem_cons.mp hs with rfl | hs
      · omega
      · have := h.1 s hs
        omega
    | false =>
      rw [hp] at e
      rcases List.mem_cons.mp hs with rfl | hs
      · exact hp
      · exact find_first h.2 e hs hlt
theorem greedy_cert (H : Timed C nq clq clr tq tr w) : Cert C d (greedy C d C.length) := by
  intro x e
  have hx : x < C.length := by
    have := (List.getElem?_eq_some_iff.mp e).1
    rw [greedy_len] at this
    exact this
  rw [greedy_at hx] at e
  have hnone := Option.some.inj e
  unfold pick at hnone
  rw [List.find?_eq_none] at hnone
  have fx : ∀ q ∈ cn C x, d ≤ (greedy C d x).count (some q) := fun q hq => by
    have := hnone q hq
    simpa using this
  let P : Nat → Prop := fun a => ∀ q, a ≤ q → q < nq → clr x q → tq q ≤ tr x → d ≤ (greedy C d x).count (some q)
  let S : Nat → Prop := fun q => q < nq ∧ clr x q ∧ tq q ≤ tr x ∧ P q
  have sp : ∀ q, S q → d ≤ (greedy C d x).count (some q) := fun q h => h.2.2.2 q (Nat.le_refl _) h.1 h.2.1 h.2.2.1
  refine ⟨fun y => y = x ∨ ∃ q, (greedy C d C.length)[y]? = some (some q) ∧ S q, .inl rfl, fun y hy hyl p hp => ?_⟩
  have fin : S p → d ≤ (greedy C d C.length).count (some p) ∧ ∀ z, (greedy C d C.length)[z]? = some (some p) → z = x ∨ ∃ q, (greedy C d C.length)[z]? = some (some q) ∧ S q := fun h =>
    ⟨Nat.le_trans (sp p h) (greedy_count (by omega) _), fun z hz => .inr ⟨p, hz, h⟩⟩
  apply fin
  obtain ⟨p1, p2, p3, p4⟩ := (H.mem y hyl p).mp hp
  rcases hy with rfl | ⟨q, hq, s1, s2, s3, s4⟩
  · refine ⟨p1, p2, p3, fun q h1 h2 h3 h4 => ?_⟩
    have := H.tqm p q h1 h2
    exact fx q ((H.mem y hyl q).mpr ⟨h2, h3, h4, by omega⟩)
  · rw [greedy_at hyl] at hq
    have hpick := Option.some.inj hq
    have hqc : q ∈ cn C y := List.mem_of_find?_eq_some hpick
    obtain ⟨q1, q2, q3, q4⟩ := (H.mem y hyl q).mp hqc
    have hyx : y < x := by
      have h1 := List.find?_some hpick
      simp at h1
      have h2 := sp q ⟨s1, s2, s3, s4⟩
      by_cases z : y < x
      · exact z
      · have := greedy_count (C := C) (d := d) (x := x) (n := y) (by omega) (some q)
        omega
    have ht := H.trm y x (by omega) hx
    have hcx : clr x p := H.same x y q p hx hyl s1 p1 s2 q2 p2
    refine ⟨p1, hcx, by omega, fun s h1 h2 h3 h4 => ?_⟩
    by_cases hsq : q ≤ s
    · exact s4 s hsq h2 h3 h4
    · have t1 := H.tqm p s h1 h2
      have t2 := H.tqm s q (by omega) s1
      have hcy : clr y s := H.same y x q s hyl hx s1 h2 q2 s2 h3
      have hsc : s ∈ cn C y := (H.mem y hyl s).mpr ⟨h2, hcy, by omega, by omega⟩
      have := find_first (H.inc y) hpick hsc (by omega)
      simp at this
      exact Nat.le_trans this (greedy_count (by omega) _)
theorem matched_greedy (H : Timed C nq clq clr tq tr w) (f : Nat) (hf : C.length < f) : (matched C d f C.length).count none = (greedy C d C.length).count none := by
  obtain ⟨h1, h2⟩ := matched_ok (C := C) (d := d) f hf
  exact least_eq h1 h2 greedy_vld (greedy_cert H)
end
end Mt
/-! k32: letters judged -/
namespace Lk32
open PySem L2 PyProof.Rows Sm SmPool
theorem is_label_spec {k : Nat} (d : D) (h : Hh) (hd : tm k d = true) : m_is_label [d] h = .ok (.bl (labD d)) h := by
  cases d with
  | str x =>
    have hl := tm_len hd
    rw [tx_of x]
    generalize x.cps.toList = l at hl
    by_cases h0 : l = []
    · subst h0
      simp [m_is_label, b_is_label, l_nil, trR_ok0, labD, labL]
    by_cases h1 : 12 < l.length
    · have : ¬ l.length ≤ 12 := by omega
      have h1' : (12 : Int) < l.length := by omega
      simp [m_is_label, b_is_label, l_nil, trR_ok0, labD, labL, h0, hl, h1', this]
    have h1' : ¬ (12 : Int) < l.length := by omega
    have lp := forL_allM (i := 1) (body := b_is_label_1) (env := [some (.str (tx l)), none]) (h := h) (fun c => D.str (tx [c])) isLet (.bl false) l (fun c hc => by
      cases q : isLet c <;> simp [b_is_label_1, isLet_iff, q])
    have hle : l.length ≤ 12 := by omega
    cases hall : l.all isLet with
    | false =>
      have := lp.2 hall
      simp [m_is_label, b_is_label, l_nil, trR_ok0, labD, labL, h0, hl, h1', this, hall]
    | true =>
      obtain ⟨e, this⟩ := lp.1 hall
      obtain ⟨a, ha, hh⟩ : ∃ a, atI l (0 : Int) = some a ∧ l.head? = some a := by
        cases l with
        | nil => exact absurd rfl h0
        | cons a r => exact ⟨a, by rw [atI_pos (by omega)]; rfl, rfl⟩
      obtain ⟨z, hz⟩ : ∃ z, l.getLast? = some z := ⟨_, List.getLast?_eq_some_getLast h0⟩
      by_cases q1 : a = 45
      · simp [m_is_label, b_is_label, l_nil, l_dash, trR_ok0, labD, labL, h0, hl, h1', this, hall, hle, ha, hh, q1]
      · simp [m_is_label, b_is_label, l_nil, l_dash, trR_ok0, labD, labL, h0, hl, h1', this, hall, hle, ha, hh, q1, atI_m1, hz]
  | ref n => exact absurd hd tm_ref
  | _ => simp [m_is_label, b_is_label, trR_ok0, labD]
theorem is_name_spec {k : Nat} (d : D) (h : Hh) (hd : tm k d = true) : m_is_name [d] h = .ok (.bl (namD d)) h := by
  cases d with
  | tup ds =>
    obtain ⟨h1, h2⟩ := tm_tup hd
    by_cases hl : 6 < ds.length
    · have hl' : (6 : Int) < ds.length := by omega
      have : ¬ ds.length ≤ 6 := by omega
      simp [m_is_name, b_is_name, trR_ok0, namD, hl', this]
    · have hl' : ¬ (6 : Int) < ds.length := by omega
      have hl2 : ds.length ≤ 6 := by omega
      have lp := forL_all (i := 1) (body := b_is_name_1) (env := [some (.tup ds), none]) (h := h) labD (.bl false) ds (fun x hx => by
        have := is_label_spec x h (tms_mem h1 hx)
        cases q : labD x <;> simp [b_is_name_1, this, q])
      cases hall : ds.all labD with
      | false =>
        have := lp.2 hall
        simp [m_is_name, b_is_name, trR_ok0, namD, hl', this, hall]
      | true =>
        obtain ⟨e, this⟩ := lp.1 hall
        simp [m_is_name, b_is_name, trR_ok0, namD, hl', this, hall, hl2]
  | ref n => exact absurd hd tm_ref
  | _ => simp [m_is_name, b_is_name, trR_ok0, namD]
theorem name_good {ls : List (List Nat)} (hl : ls.length ≤ 6) (hk : ∀ l ∈ ls, labL l = true) (h : Hh) : m_is_name [labs ls] h = .ok (.bl true) h := by
  rw [is_name_spec (k := 2) _ h (tm_labs hl hk), namD_labs]
  have : ls.all labL = true := List.all_eq_true.mpr hk
  simp [hl, this]
theorem between_int (v a b : Int) (h : Hh) : m_is_between [.int v, .int a, .int b] h = .ok (.bl (decide (a ≤ v) && decide (v ≤ b))) h := by
  have hi : m_is_integer [.int v] h = .ok (.bl true) h := by simp [m_is_integer, b_is_integer, trR_ok0]
  by_cases h1 : a ≤ v <;> by_cases h2 : v ≤ b <;> simp [m_is_between, b_is_between, hi, h1, h2, trR_ok0]
/-- no number: no place in a row -/
def isI : D → Bool
  | .int _ => true
  | _ => false
theorem between_no {d : D} (hd : isI d = false) {k : Nat} (ht : tm k d = true) (a b : Int) (h : Hh) : m_is_between [d, .int a, .int b] h = .ok (.bl false) h := by
  have hi : m_is_integer [d] h = .ok (.bl false) h := by
    cases d with
    | int i => cases hd
    | ref n => exact absurd ht tm_ref
    | _ => simp [m_is_integer, b_is_integer, trR_ok0]
  simp [m_is_between, b_is_between, hi, trR_ok0]
/-! ### letters -/
structure Lt where
  m : Int
  i : Int
  a : Int
  o : List (List Nat)
  n : List (List Nat)
  k : Str
  deriving DecidableEq
def Lt.rest (l : Lt) : List D := [.int l.i, .int l.a, labs l.o, labs l.n, .str l.k]
def ltD (l : Lt) : D := .tup (.int l.m :: l.rest)
def KS : List Str := ["addr", "alias", "serve", "text"]
structure Lt.Good (l : Lt) : Prop where
  m0 : 0 ≤ l.m
  m1 : l.m ≤ 1000000
  i0 : 0 ≤ l.i
  i1 : l.i ≤ 255
  a0 : 0 ≤ l.a
  a1 : l.a ≤ 65535
  ol : l.o.length ≤ 6
  og : ∀ x ∈ l.o, labL x = true
  nl : l.n.length ≤ 6
  ng : ∀ x ∈ l.n, labL x = true
  un : ∃ p, l.n = p ++ l.o
  ks : l.k ∈ KS
theorem Lt.Good.tmo {l : Lt} (g : l.Good) : tm 2 (labs l.o) = true := tm_labs g.ol g.og
theorem Lt.Good.tmn {l : Lt} (g : l.Good) : tm 2 (labs l.n) = true := tm_labs g.nl g.ng
theorem ks_ok {x : Str} (h : x ∈ KS) : x.cps.all (· < 0x110000) = true ∧ x.length ≤ 4096 := by
  simp only [KS, List.mem_cons, List.not_mem_nil, or_false] at h
  rcases h with rfl | rfl | rfl | rfl <;> decide +kernel
theorem Lt.Good.tmk {l : Lt} (g : l.Good) : tm 1 (.str l.k) = true := by
  obtain ⟨h1, h2⟩ := ks_ok g.ks
  have e : tm 1 (.str l.k) = (l.k.cps.all (· < 0x110000) && decide (l.k.length ≤ 4096)) := by simp only [tm]
  rw [e, h1]
  simpa using h2
theorem Lt.Good.tmr {l : Lt} (g : l.Good) : ∀ d ∈ l.rest, tm 2 d = true := by
  intro d hd
  simp only [Lt.rest, List.mem_cons, List.not_mem_nil, or_false] at hd
  rcases hd with rfl | rfl | rfl | rfl | rfl
  · rfl
  · rfl
  · exact g.tmo
  · exact g.tmn
  · exact tm_mono (by omega) g.tmk
theorem Lt.Good.tml {l : Lt} (g : l.Good) : tm 3 (ltD l) = true := by
  refine tm_mkT (fun d hd => ?_) (by simp [Lt.rest])
  rcases List.mem_cons.mp hd with rfl | hd
  · rfl
  · exact g.tmr d hd
theorem lies_spec {o n : List (List Nat)} (h : Hh) (hn : n.length ≤ 6) (hnl : ∀ x ∈ n, labL x = true) (ho : o.length ≤ 6) (hol : ∀ x ∈ o, labL x = true) (hu : ∃ p, n = p ++ o) : m_lies_under [labs n, labs o] h = .ok (.bl true) h := by
  obtain ⟨p, rfl⟩ := hu
  have h1 : (o.length : Int) ≤ p.length + o.length := by omega
  have h2 : cutD (p.map lD ++ o.map lD) (some (p.length : Int)) none = o.map lD := by
    rw [cut_from, List.drop_left' (by simp)]
  have h3 : opEq (labs o) (labs o) h = some (.bl true, h) := by
    rw [opEq_ok h (okD_mono (by omega) (tm_ok (tm_labs ho hol))) (okD_mono (by omega) (tm_ok (tm_labs ho hol))), eqds_labs]
    simp
  unfold labs at h3
  simp [m_lies_under, b_lies_under, labs, trR_ok0, h1, h2, h3]
theorem is_letter_spec {l : Lt} (g : l.Good) (h : Hh) : m_is_letter [ltD l] h = .ok (.bl true) h := by
  have e1 := between_int l.m 0 1000000 h
  have e2 := between_int l.i 0 255 h
  have e3 := between_int l.a 0 65535 h
  have e4 := name_good g.ol g.og h
  have e5 := name_good g.nl g.ng h
  have e6 := lies_spec h g.nl g.ng g.ol g.og g.un
  have hk : opIn (.str l.k) (.tup [.str "addr", .str "alias", .str "serve", .str "text"]) h = some (.bl true, h) := by
    have := g.ks
    simp only [KS, List.mem_cons, List.not_mem_nil, or_false] at this
    rcases this with e | e | e | e <;> rw [e] <;> rfl
  have b1 := g.m0
  have b2 := g.m1
  have b3 := g.i0
  have b4 := g.i1
  have b5 := g.a0
  have b6 := g.a1
  simp [b1, b2] at e1
  simp [b3, b4] at e2
  simp [b5, b6] at e3
  simp [m_is_letter, b_is_letter, ltD, Lt.rest, e1, e2, e3, e4, e5, e6, hk, trR_ok0]
end Lk32
/-! k32: the order of letters; rows of letters -/
namespace Lk32
open PySem L2 PyProof.Rows Sm SmPool PySem.W
def ordD (l : Lt) : D := .tup [.int l.m, .int l.i, .int l.a, labs l.o.reverse, labs l.n.reverse, .str l.k]
theorem order_spec (l : Lt) (h : Hh) : m_letter_order [ltD l] h = .ok (ordD l) h := by
  simp [m_letter_order, b_letter_order, ltD, Lt.rest, ordD, labs, trR_app, trR_ok0, atI, ixN, List.map_reverse, los_all, lD]
theorem key_spec (l : Lt) (h : Hh) : m__law_key [ltD l] h = .ok (ordD l) h := by
  simp [m__law_key, b__law_key, ltD, Lt.rest, ordD, labs, trR_app, trR_ok0, atI, ixN, List.map_reverse, los_all, lD]
theorem alike_strs : ∀ a b : List (List Nat), alikeAll (pyds (a.map lD)) (pyds (b.map lD)) = true
  | [], _ => by simp [pyds, alikeAll]
  | _ :: _, [] => by simp [pyds, alikeAll]
  | x :: a, y :: b => by
    have ih := alike_strs a b
    simp [pyds, alikeAll, lD, pyd, alike] at ih ⊢
    exact ih
theorem alike_ord (a b : Lt) : alike (pyd (ordD a)) (pyd (ordD b)) = true := by
  have h1 := alike_strs a.o.reverse b.o.reverse
  have h2 := alike_strs a.n.reverse b.n.reverse
  simp only [ordD, labs, pyd, pyds, alike, alikeAll, h1, h2, Bool.and_self]
theorem ord_ok {l : Lt} (g : l.Good) : tm 3 (ordD l) = true := by
  refine tm_mkT (fun d hd => ?_) (by simp)
  simp only [List.mem_cons, List.not_mem_nil, or_false] at hd
  rcases hd with rfl | rfl | rfl | rfl | rfl | rfl
  · rfl
  · rfl
  · rfl
  · exact tm_labs (by rw [List.length_reverse]; exact g.ol) fun x hx => g.og x (by simpa using hx)
  · exact tm_labs (by rw [List.length_reverse]; exact g.nl) fun x hx => g.ng x (by simpa using hx)
  · exact tm_mono (by omega) g.tmk
theorem ord60 {l : Lt} (g : l.Good) : okD 60 (ordD l) = true := okD_mono (by omega) (tm_ok (ord_ok g))
def ordLt (a b : Lt) : Bool := dataLt (pyd (ordD a)) (pyd (ordD b))
theorem ordLt_op {a b : Lt} (ga : a.Good) (gb : b.Good) (h : Hh) : opLtX (ordD a) (ordD b) h = some (.bl (ordLt a b), h) := by
  have h1 : opLt (ordD a) (ordD b) h = none := rfl
  have h2 : ordOk (ordD a) (ordD b) := ⟨ord60 ga, ord60 gb, alike_ord a b, by simp [ordD, pyd]⟩
  unfold opLtX orOp
  rw [h1]
  unfold opLtD
  dsimp only
  rw [if_pos h2]
  rfl
theorem ordLt_m {a b : Lt} (h : a.m < b.m) : ordLt a b = true := by
  unfold ordLt dataLt
  simp only [ordD, pyd, pyds, keyToks, keyToksAll, List.cons_append, List.nil_append]
  refine (lex_self (O := itemOrd) _ _ _).trans ?_
  refine (lex_diff (O := itemOrd) (fun e => ?_)).trans ?_
  · have := Sum.inl.inj e
    omega
  · show decide (a.m < b.m) = true
    simpa using h
/-- sorted -/
def Srt (ls : List Lt) : Prop := ls.Pairwise fun a b => ordLt b a = false
theorem Srt.ms {ls : List Lt} (s : Srt ls) : ls.Pairwise fun a b => a.m ≤ b.m := s.imp fun {a b} h => by
  by_cases q : b.m < a.m
  · rw [ordLt_m q] at h
    cases h
  · omega
noncomputable def sortL (ls : List Lt) : List Lt := ls.mergeSort (dataLe false fun l => pyd (ordD l))
theorem sortL_perm (ls : List Lt) : (sortL ls).Perm ls := List.mergeSort_perm _ _
theorem sortL_srt (ls : List Lt) : Srt (sortL ls) := by
  have := sort_pairwise (sortLe_total (PyProof.Rows.listOrd PyProof.Rows.itemOrd) false fun l : Lt => keyToks (pyd (ordD l))) ls
  refine List.Pairwise.imp (fun {a b} h => ?_) this
  have h' : (!(PyProof.Rows.listOrd PyProof.Rows.itemOrd).blt (keyToks (pyd (ordD b))) (keyToks (pyd (ordD a)))) = true := h
  rw [Bool.not_eq_true'] at h'
  exact h'
theorem kys (h : Hh) : ∀ ls : List Lt, kysOf m__law_key h (ls.map ltD) = some (ls.map ordD)
  | [] => rfl
  | l :: ls => by
    rw [List.map_cons, kysOf, key_spec l h]
    dsimp only
    rw [if_pos rfl, kys h ls]
    rfl
theorem zip_maps {α β γ : Type} (f : α → β) (g : α → γ) : ∀ ls : List α, (ls.map f).zip (ls.map g) = ls.map fun l => (f l, g l)
  | [] => rfl
  | l :: ls => by simp [zip_maps f g ls]
theorem sort_spec {ls : List Lt} (hg : ∀ l ∈ ls, l.Good) {n : Nat} {h : Hh} (e : h[n]? = some (.lst (ls.map ltD))) : opSortK m__law_key (.ref n) h = some (.fls ((sortL ls).map ltD), h) := by
  have hal : AllAlike ((ls.map ordD).map pyd) := fun d hd d' hd' => by
    simp only [List.mem_map] at hd hd'
    obtain ⟨_, ⟨a, _, rfl⟩, rfl⟩ := hd
    obtain ⟨_, ⟨b, _, rfl⟩, rfl⟩ := hd'
    exact alike_ord a b
  have hs : Sortable ((ls.map ordD).map pyd) := .inl fun d hd => by
    simp only [List.mem_map] at hd
    obtain ⟨_, ⟨a, _, rfl⟩, rfl⟩ := hd
    exact ⟨_, _, rfl⟩
  have hok : okDs 60 (ls.map ordD) = true := okDs_iff.mpr fun d hd => by
    obtain ⟨a, ha, rfl⟩ := List.mem_map.mp hd
    exact ord60 (hg a ha)
  unfold opSortK
  dsimp only
  rw [e]
  dsimp only
  rw [kys h ls]
  dsimp only
  rw [if_pos ⟨hal, hs, hok⟩]
  congr 2
  unfold sortD sortL
  rw [zip_maps, ← sort_maps (r := dataLe false fun l : Lt => pyd (ordD l)) (s := dataLe false fun p : D × D => pyd p.2) (fun l : Lt => (ltD l, ordD l)) (fun a _ b _ => rfl), List.map_map]
  rfl
/-! rows -/
theorem ltAt {ls : List Lt} {i : Nat} {l : Lt} (e : ls[i]? = some l) : atI (ls.map ltD) (i : Int) = some (ltD l) := by
  rw [atI_pos (by omega)]
  simp [e]
theorem are_spec {ls : List Lt} (hg : ∀ l ∈ ls, l.Good) (hs : Srt ls) (hl : ls.length ≤ 1000) (h : Hh) : m_are_letters [.tup (ls.map ltD)] h = .ok (.bl true) h := by
  have hr : Sm.inR (ls.length : Int) = true := inR_ok (by omega) (by omega)
  have lp := forL_allM (i := 1) (body := b_are_letters_1) (env := [some (.tup (ls.map ltD)), none]) (h := h) (fun k : Nat => D.int (k : Int)) (fun _ => true) (.bl false) (List.range ls.length) (fun k hk => by
    have hk' : k < ls.length := by simpa using hk
    obtain ⟨l, el⟩ : ∃ l, ls[k]? = some l := ⟨_, List.getElem?_eq_getElem hk'⟩
    have a1 := ltAt el
    have g1 := hg l (List.mem_of_getElem? el)
    have e1 := is_letter_spec g1 h
    by_cases h0 : k = 0
    · subst h0
      simp at a1
      simp [b_are_letters_1, a1, e1]
    · obtain ⟨p, ep⟩ : ∃ p, ls[k - 1]? = some p := ⟨_, List.getElem?_eq_getElem (by omega)⟩
      have a2 := ltAt ep
      have a3 : ((k - 1 : Nat) : Int) = (k : Int) - 1 := by omega
      rw [a3] at a2
      have g2 := hg p (List.mem_of_getElem? ep)
      have hpos : 0 < k := by omega
      have hlt : ordLt l p = false := by
        have := List.pairwise_iff_getElem.mp hs (k - 1) k (by omega) hk' (by omega)
        rw [List.getElem?_eq_getElem (by omega)] at ep el
        cases ep
        cases el
        exact this
      have o1 := order_spec l h
      have o2 := order_spec p h
      have o3 := ordLt_op g1 g2 h
      rw [hlt] at o3
      simp [b_are_letters_1, a1, a2, e1, hpos, o1, o2, o3]) 
  obtain ⟨e, this⟩ := lp.1 (by simp)
  rw [← rngD_range] at this
  simp [m_are_letters, b_are_letters, hr, this, trR_ok0]
structure Rl (dl db : Int) : Prop where
  d0 : 0 ≤ dl
  d1 : dl ≤ 1000
  b0 : 1 ≤ db
  b1 : db ≤ 3
def rlD (dl db : Int) : D := .tup [.int dl, .int db]
theorem wire_spec {dl db : Int} (r : Rl dl db) (h : Hh) : m_check_wire [rlD dl db] h = .ok .non h := by
  have e1 := between_int dl 0 1000 h
  have e2 := between_int db 1 3 h
  simp [r.d0, r.d1] at e1
  simp [r.b0, r.b1] at e2
  simp [m_check_wire, b_check_wire, rlD, e1, e2, atI, ixN, trR_ok0]
theorem row_spec {ls : List Lt} (hg : ∀ l ∈ ls, l.Good) (hs : Srt ls) (hl : ls.length ≤ 24) (x : Str) (h : Hh) : m_check_row [.tup (ls.map ltD), .str x] h = .ok .non h := by
  have e := are_spec hg hs (by omega) h
  have hn : ¬ (24 : Int) < (ls.length : Int) := by omega
  simp [m_check_row, b_check_row, e, hn, trR_ok0]
/-- what the law gives -/
structure In (dl db : Int) (qs rs : List Lt) : Prop where
  r : Rl dl db
  qg : ∀ l ∈ qs, l.Good
  rg : ∀ l ∈ rs, l.Good
  qs_ : Srt qs
  rs_ : Srt rs
  ql : qs.length ≤ 24
  rl : rs.length ≤ 24
def ltsD (ls : List Lt) : D := .tup (ls.map ltD)
theorem letters_spec {dl db : Int} {qs rs : List Lt} (i : In dl db qs rs) (h : Hh) : m_check_letters [rlD dl db, ltsD qs, ltsD rs] h = .ok .non h := by
  have e1 := wire_spec i.r h
  have e2 := row_spec i.qg i.qs_ i.ql "questions" h
  have e3 := row_spec i.rg i.rs_ i.rl "replies" h
  simp [m_check_letters, b_check_letters, ltsD, e1, e2, e3, trR_ok0]
end Lk32
/-! k32: candidates -/
namespace Lk32
open PySem L2 PyProof.Rows Sm SmPool PySem.W
def sameL (q r : Lt) : Bool := decide (q.i = r.i) && (decide (q.a = r.a) && (decide (q.o = r.o) && (decide (q.n = r.n) && decide (q.k = r.k))))
theorem same_op {q r : Lt} (gq : q.Good) (gr : r.Good) (h : Hh) : opEq (.tup q.rest) (.tup r.rest) h = some (.bl (sameL q r), h) := by
  have o1 : okD 60 (.tup q.rest) = true := okD_mono (by omega) (tm_ok (tm_mkT (k := 2) gq.tmr (by simp [Lt.rest])))
  have o2 : okD 60 (.tup r.rest) = true := okD_mono (by omega) (tm_ok (tm_mkT (k := 2) gr.tmr (by simp [Lt.rest])))
  rw [opEq_ok h o1 o2]
  have e1 := eqds_labs q.o r.o
  have e2 := eqds_labs q.n r.n
  have : eqd (.tup q.rest) (.tup r.rest) = sameL q r := by
    simp only [Lt.rest, eqd, eqds, e1, e2, sameL, beq_iff_eq]
    simp [BEq.beq]
  rw [this]
def cand (dl : Int) (q r : Lt) : Bool := sameL q r && (decide (0 ≤ r.m - q.m) && decide (r.m - q.m ≤ 2 * dl))
theorem rest_cut (l : Lt) : Sm.cutD (D.int l.m :: l.rest) (some 1) none = l.rest := by
  rw [cutD_from (by omega)]
  rfl
theorem mul2 {dl : Int} (h0 : 0 ≤ dl) (h1 : dl ≤ 1000) : mulOk 2 dl = true := mulOk_r (by omega) (by omega)
theorem cand_spec {dl db : Int} {q r : Lt} (R : Rl dl db) (gq : q.Good) (gr : r.Good) (h : Hh) : m_is_candidate [rlD dl db, ltD q, ltD r] h = .ok (.bl (cand dl q r)) h := by
  have e1 := same_op gq gr h
  have e2 := between_int (r.m - q.m) 0 (2 * dl) h
  have e3 := rest_cut q
  have e4 := rest_cut r
  have hm := mul2 R.d0 R.d1
  have a1 : ∀ l : Lt, atI (D.int l.m :: l.rest) (0 : Int) = some (.int l.m) := fun l => by rw [atI_pos (by omega)]; rfl
  have a2 : atI [D.int dl, D.int db] (0 : Int) = some (.int dl) := by rw [atI_pos (by omega)]; rfl
  cases hs : sameL q r with
  | false =>
    rw [hs] at e1
    simp [m_is_candidate, b_is_candidate, ltD, rlD, e3, e4, e1, cand, hs, trR_ok0]
  | true =>
    rw [hs] at e1
    simp at e2
    simp [m_is_candidate, b_is_candidate, ltD, rlD, e3, e4, e1, e2, cand, hs, hm, a1, a2, trR_ok0]
def natD (k : Nat) : D := .int (k : Int)
def rowD (c : List Nat) : D := .tup (c.map natD)
def rowsD (cs : List (List Nat)) : D := .tup (cs.map rowD)
def candP (dl : Int) (qs : List Lt) (r : Lt) (k : Nat) : Bool := match qs[k]? with
  | some q => cand dl q r
  | none => false
def candRow (dl : Int) (qs : List Lt) (r : Lt) : List Nat := (List.range qs.length).filter (candP dl qs r)
def cands (dl : Int) (qs rs : List Lt) : List (List Nat) := rs.map (candRow dl qs)
theorem los_nat (n : Nat) (c : List Nat) : los n (c.map natD) = true := by simp [los_all, natD]
theorem candRow_len (dl : Int) (qs : List Lt) (r : Lt) : (candRow dl qs r).length ≤ qs.length := by
  unfold candRow
  have := List.length_filter_le (candP dl qs r) (List.range qs.length)
  simpa using this
section
variable {dl db : Int} {qs rs : List Lt}
theorem cand_turn (R : Rl dl db) (hq : ∀ l ∈ qs, l.Good) (hl : qs.length ≤ 24) {r : Lt} (gr : r.Good) {H : Hh} {n : Nat} {rows : List D} {e2 e5 : Option D} (e : H[n]? = some (.lst rows)) (hz : rows.length < sizeLine) :
    b_candidates_of_1 [some (rlD dl db), some (ltsD qs), e2, some (.ref n), some (ltD r), e5] H = .nx [some (rlD dl db), some (ltsD qs), e2, some (.ref n), some (ltD r), e5] (H.set n (.lst (rows ++ [rowD (candRow dl qs r)]))) := by
  have hr : Sm.inR (qs.length : Int) = true := inR_ok (by omega) (by omega)
  have lc := fz_lcfM (i := 5) (t := tTru (eCall m_is_candidate [(eV 0), (eB opIx (eV 1) (eV 5)), (eV 4)])) (m := eV 5) (env := [some (rlD dl db), some (ltsD qs), e2, some (.ref n), some (ltD r), e5]) (h := H) (candP dl qs r) natD natD (List.range qs.length) (fun k hk acc => by
    have hk' : k < qs.length := by simpa using hk
    obtain ⟨q, eq⟩ : ∃ q, qs[k]? = some q := ⟨_, List.getElem?_eq_getElem hk'⟩
    have a1 := ltAt eq
    have e3 := cand_spec R (hq q (List.mem_of_getElem? eq)) gr (H ++ [.lst acc])
    simp [natD, ltsD, a1, e3, candP, eq]) (fun k hk _ acc => by simp [natD]) (by rw [List.length_range]; exact line4k (by omega)) (los_nat _ _)
  have hx : List.map natD (List.range qs.length) = rngD 0 qs.length := (rngD_range _).symm
  rw [hx] at lc
  simp [b_candidates_of_1, ltsD, hr] at lc ⊢
  simp [lc, e, hz]
  rfl
theorem cand_loop (R : Rl dl db) (hq : ∀ l ∈ qs, l.Good) (hl : qs.length ≤ 24) {n : Nat} {e2 : Option D} : ∀ (rs : List Lt) (e4 e5 : Option D) (H : Hh) (rows : List D), (∀ l ∈ rs, l.Good) → H[n]? = some (.lst rows) → rows.length + rs.length ≤ 1000 →
    ∃ e4', forL (gtName 4) b_candidates_of_1 none (rs.map ltD) [some (rlD dl db), some (ltsD qs), e2, some (.ref n), e4, e5] H = .nx [some (rlD dl db), some (ltsD qs), e2, some (.ref n), e4', e5] (H.set n (.lst (rows ++ (cands dl qs rs).map rowD)))
  | [], e4, e5, H, rows, _, e, _ => by
    refine ⟨e4, ?_⟩
    rw [List.map_nil, forL_nil (gd := none) trivial]
    have hn := (List.getElem?_eq_some_iff.mp e)
    obtain ⟨h1, h2⟩ := hn
    have : H.set n (.lst rows) = H := by rw [← h2, List.set_getElem_self]
    simp [cands, this]
  | r :: rs, e4, e5, H, rows, hg, e, hz => by
    rw [List.length_cons] at hz
    have t := cand_turn (e2 := e2) (e5 := e5) R hq hl (hg r (by simp)) e (by rw [sizeLine_eq]; omega)
    have hn := (List.getElem?_eq_some_iff.mp e).1
    obtain ⟨e4', ih⟩ := cand_loop R hq hl (n := n) (e2 := e2) rs (some (ltD r)) e5 (H.set n (.lst (rows ++ [rowD (candRow dl qs r)]))) (rows ++ [rowD (candRow dl qs r)]) (fun l h => hg l (by simp [h])) (List.getElem?_set_self hn) (by simp; omega)
    refine ⟨e4', ?_⟩
    rw [List.map_cons, forL_nx (gd := none) trivial rfl t, ih]
    simp [cands, List.set_set]
theorem los_rows (n : Nat) (cs : List (List Nat)) : los n (cs.map rowD) = true := by
  rw [los_all, List.all_map, List.all_eq_true]
  intro c _
  simp only [Function.comp, rowD, lo_tup]
  exact los_nat _ _
theorem cands_spec (i : In dl db qs rs) (h : Hh) : m_candidates_of [rlD dl db, ltsD qs, ltsD rs] h = .ok (rowsD (cands dl qs rs)) h := by
  have e1 := letters_spec i h
  obtain ⟨e4', lp⟩ := cand_loop i.r i.qg i.ql (n := h.length) (e2 := some (ltsD rs)) rs none none (h ++ [.lst []]) [] i.rg (by simp) (by have := i.rl; simp; omega)
  simp only [ltsD] at e1 lp
  simp [m_candidates_of, b_candidates_of, ltsD, e1, lp, trR_app, los_rows, rowsD]
end
end Lk32
/-! k32: the Matcher's methods walked -/
namespace Lk32
open PySem L2 PyProof.Rows Sm SmPool
def optD : Option Nat → D
  | none => .non
  | some k => natD k
def takD (T : Mt.Tk) : List D := T.map optD
def kmD (K : Mt.Km) : List (Key × D) := K.map fun p => (Sum.inl (p.1 : Int), natD p.2)
/-- a Matcher stands at n -/
structure At (h : Hh) (n t c : Nat) (cs : List (List Nat)) (db : Int) (T : Mt.Tk) (K : Mt.Km) : Prop where
  ob : h[n]? = some (.ins 2 [some (rowsD cs), some (.int db), some (.ref t), some (.ref c)])
  tk : h[t]? = some (.lst (takD T))
  km : h[c]? = some (.dK (kmD K))
theorem At.nt {h : Hh} {n t c : Nat} {cs : List (List Nat)} {db : Int} {T : Mt.Tk} {K : Mt.Km} (a : At h n t c cs db T K) : n ≠ t := fun e => by
  have := a.ob
  rw [e, a.tk] at this
  cases this
theorem At.nc {h : Hh} {n t c : Nat} {cs : List (List Nat)} {db : Int} {T : Mt.Tk} {K : Mt.Km} (a : At h n t c cs db T K) : n ≠ c := fun e => by
  have := a.ob
  rw [e, a.km] at this
  cases this
theorem At.tc {h : Hh} {n t c : Nat} {cs : List (List Nat)} {db : Int} {T : Mt.Tk} {K : Mt.Km} (a : At h n t c cs db T K) : t ≠ c := fun e => by
  have := a.tk
  rw [e, a.km] at this
  cases this
/-- .. and with more objects behind -/
theorem At.app {h : Hh} {n t c : Nat} {cs : List (List Nat)} {db : Int} {T : Mt.Tk} {K : Mt.Km} (a : At h n t c cs db T K) (g : Hh) : At (h ++ g) n t c cs db T K := by
  have l : ∀ {i : Nat} {o : O}, h[i]? = some o → (h ++ g)[i]? = some o := fun {i o} e => by rw [List.getElem?_append_left (List.getElem?_eq_some_iff.mp e).1]; exact e
  exact ⟨l a.ob, l a.tk, l a.km⟩
theorem At.set {h : Hh} {n t c i : Nat} {cs : List (List Nat)} {db : Int} {T : Mt.Tk} {K : Mt.Km} (a : At h n t c cs db T K) (o : O) (h1 : i ≠ n) (h2 : i ≠ t) (h3 : i ≠ c) : At (h.set i o) n t c cs db T K :=
  ⟨by rw [List.getElem?_set_ne h1]; exact a.ob, by rw [List.getElem?_set_ne h2]; exact a.tk, by rw [List.getElem?_set_ne h3]; exact a.km⟩
theorem At.setT {h : Hh} {n t c : Nat} {cs : List (List Nat)} {db : Int} {T : Mt.Tk} {K : Mt.Km} (a : At h n t c cs db T K) (T' : Mt.Tk) : At (h.set t (.lst (takD T'))) n t c cs db T' K :=
  ⟨by rw [List.getElem?_set_ne a.nt.symm]; exact a.ob, List.getElem?_set_self (List.getElem?_eq_some_iff.mp a.tk).1, by rw [List.getElem?_set_ne a.tc]; exact a.km⟩
theorem At.setK {h : Hh} {n t c : Nat} {cs : List (List Nat)} {db : Int} {T : Mt.Tk} {K : Mt.Km} (a : At h n t c cs db T K) (K' : Mt.Km) : At (h.set c (.dK (kmD K'))) n t c cs db T K' :=
  ⟨by rw [List.getElem?_set_ne a.nc.symm]; exact a.ob, by rw [List.getElem?_set_ne a.tc.symm]; exact a.tk, List.getElem?_set_self (List.getElem?_eq_some_iff.mp a.km).1⟩
/-! ### a call that leaves something new in an old object, or nothing new -/
theorem trR_keep {h h1 : Hh} {d : D} {i : Nat} {o : O} (hi : i < h.length) (e : h1[i]? = some o) (ne : h[i]? ≠ some o) (hl : loO h.length o = false) : trR h (.ok d h1) = .ok d h1 := by
  unfold trR
  dsimp only
  rw [if_neg]
  rintro ⟨_, k⟩
  have := k i o (by rw [List.getElem?_take, if_pos hi]; exact e)
  rcases this with z | z
  · exact ne z
  · rw [hl] at z
    cases z
theorem trR_same {h h1 : Hh} {d : D} (hl : h1.length = h.length) : trR h (.ok d h1) = .ok d h1 := by
  unfold trR
  dsimp only
  rw [List.take_of_length_le (by omega)]
  split <;> rfl
section
variable {h : Hh} {n t c : Nat} {cs : List (List Nat)} {db : Int} {T : Mt.Tk} {K : Mt.Km}
theorem atT {i : Nat} {o : Option Nat} (e : T[i]? = some o) : atI (takD T) (i : Int) = some (optD o) := by
  rw [atI_pos (by omega)]
  simp [takD, e]
theorem eq_opt (o : Option Nat) (q : Nat) (g : Hh) : opEq (optD o) (.int (q : Int)) g = some (.bl (decide (o = some q)), g) := by
  cases o with
  | none =>
    rw [opEq_ok g (by rfl) (by rfl)]
    simp [optD, eqd]
  | some k =>
    rw [opEq_ok g (by rfl) (by rfl)]
    by_cases z : k = q
    · subst z
      simp [optD, natD, eqd]
    · have : ¬ ((k : Int) = q) := by omega
      simp [optD, natD, eqd, z, this]
theorem replies_spec (a : At h n t c cs db T K) (hl : T.length ≤ 1000) (q : Nat) : m_Matcher_replies_of [.ref n, .int (q : Int)] h = .ok (.fls ((Mt.holders T q).map natD)) h := by
  have hr : Sm.inR (T.length : Int) = true := inR_ok (by omega) (by omega)
  have lc := fz_lcfM (i := 2) (t := tBl (eB opEq (eB opIx (eU (opFld 2 2) (eV 0)) (eV 2)) (eV 1))) (m := eV 2) (env := [some (.ref n), some (.int (q : Int)), none]) (h := h) (fun x => decide (T[x]? = some (some q))) natD natD (List.range T.length) (fun k hk acc => by
    have hk' : k < T.length := by simpa using hk
    obtain ⟨o, eo⟩ : ∃ o, T[k]? = some o := ⟨_, List.getElem?_eq_getElem hk'⟩
    have a1 := atT eo
    have a2 := a.app [.lst acc]
    have b1 := a2.ob
    have b2 := a2.tk
    have e2 := eq_opt o q (h ++ [.lst acc])
    simp [natD, b1, b2, a1, e2, eo]) (fun k hk _ acc => by simp [natD]) (by rw [List.length_range]; exact line4k (by omega)) (los_nat _ _)
  have hx : List.map natD (List.range T.length) = rngD 0 T.length := (rngD_range _).symm
  rw [hx] at lc
  have hlen : (takD T).length = T.length := by simp [takD]
  simp [m_Matcher_replies_of, b_Matcher_replies_of, a.ob, a.tk, hlen, hr, lc, trR_ok0]
  rfl
/-! ### turn_over -/
theorem val_km {q x : Nat} (e : Mt.came K q = some x) : valP (kmD K) (.inl (q : Int)) = some (natD x) := by
  unfold Mt.came at e
  unfold valP kmD
  rw [List.find?_map]
  have : ((fun p : Key × D => decide (p.1 = Sum.inl (q : Int))) ∘ fun p : Nat × Nat => ((Sum.inl (p.1 : Int) : Key), natD p.2)) = fun p : Nat × Nat => decide (p.1 = q) := by
    funext p
    have z2 : ((p.1 : Int) = q) ↔ p.1 = q := by omega
    simp [z2]
  rw [this]
  cases e2 : K.find? (fun p => decide (p.1 = q)) with
  | none => rw [e2] at e; cases e
  | some p =>
    rw [e2] at e
    simp at e
    simp [e]
theorem set_takD (x q : Nat) : (takD T).set x (natD q) = takD (T.set x (some q)) := by
  unfold takD
  rw [List.map_set]
  rfl
end
end Lk32
/-! k32: turn_over and grow walked -/
namespace Lk32
open PySem L2 PyProof.Rows Sm SmPool
theorem ixN_nat {n x : Nat} (h : x < n) : ixN n (x : Int) = some x := by
  unfold ixN
  rw [if_pos (by omega), if_pos (by omega)]
  simp
section
variable {h : Hh} {n t c : Nat} {cs : List (List Nat)} {db : Int} {T : Mt.Tk} {K : Mt.Km}
theorem turn_step (a : At h n t c cs db T K) {q x r : Nat} {o : Option Nat} (hk : Mt.came K q = some x) (ho : T[x]? = some o) (e3 e4 : Option D) :
    b_Matcher_turn_over_1 [some (.ref n), some (.int (q : Int)), some (.int (r : Int)), e3, e4] h =
      .nx [some (.ref n), some (if x = r then .non else optD o), some (.int (r : Int)), some (natD x), some (optD o)] (h.set t (.lst (takD (T.set x (some q))))) := by
  have hx : x < T.length := (List.getElem?_eq_some_iff.mp ho).1
  have hl : (takD T).length = T.length := by simp [takD]
  have v := val_km hk
  have a1 := atT ho
  have ix : ixN (takD T).length (x : Int) = some x := ixN_nat (by omega)
  have st := set_takD (T := T) x q
  by_cases z : x = r
  · subst z
    simp only [natD] at v st
    simp [b_Matcher_turn_over_1, a.ob, a.tk, a.km, v, natD, a1, ix, st]
  · have z2 : ¬ ((x : Int) = r) := by omega
    simp only [natD] at v st
    simp [b_Matcher_turn_over_1, a.ob, a.tk, a.km, v, natD, a1, ix, st, z, z2]
theorem turn_walk {C : List (List Nat)} {T0 : Mt.Tk} {r : Nat} {R : List Nat} (tr : Mt.Tree C T0 r R K) (hr0 : T0[r]? = some none) : ∀ (i x q f m : Nat) (h : Hh) (T : Mt.Tk) (e3 e4 : Option D), At h n t c cs db T K → R[i]? = some x → (q, x) ∈ K → (∀ j y, j ≤ i → R[j]? = some y → T[y]? = T0[y]?) → i < f → i + 1 < m →
    ∃ env, whileF (tBl (eU opNotN (eV 1))) b_Matcher_turn_over_1 m [some (.ref n), some (.int (q : Int)), some (.int (r : Int)), e3, e4] h = .nx env (h.set t (.lst (takD (Mt.turn r K f q T)))) := by
  intro i
  induction i using Nat.strongRecOn with
  | _ i ih =>
    intro x q f m h T e3 e4 a hx hq hsame hf hm
    obtain ⟨f, rfl⟩ : ∃ f', f = f' + 1 := ⟨f - 1, by omega⟩
    obtain ⟨m, rfl⟩ : ∃ m', m = m' + 1 := ⟨m - 1, by omega⟩
    have ecame := Mt.came_of tr.knd hq
    have hxT : T[x]? = T0[x]? := hsame i x (Nat.le_refl _) hx
    have tst : ∀ (e1 e2 e3 : Option D) (d : D) (g : Hh), d ≠ .non → (∀ k, d ≠ .ref k) → tBl (eU opNotN (eV 1)) [e1, some d, e2, e3, e4] g = .ok true g := by
      intro e1 e2 e3 d g h1 h2
      cases d <;> simp_all
    by_cases hxr : x = r
    · subst hxr
      rw [hr0] at hxT
      have st := turn_step a (r := x) ecame hxT e3 e4
      have e : Mt.turn x K (f + 1) q T = T.set x (some q) := by simp [Mt.turn, ecame]
      rw [if_pos rfl] at st
      obtain ⟨m, rfl⟩ : ∃ m', m = m' + 1 := ⟨m - 1, by omega⟩
      refine ⟨[some (.ref n), some .non, some (.int (x : Int)), some (natD x), some (optD none)], ?_⟩
      rw [whileF_t (h1 := h) (by simp) st, e]
      exact whileF_f (by simp)
    · have hi0 : i ≠ 0 := fun e => hxr (by
        subst e
        have := tr.hd
        rw [hx] at this
        exact Option.some.inj this)
      obtain ⟨q', y, j, h1, h2, h3, h4⟩ := tr.tree i x hx hi0
      have hxT' : T[x]? = some (some q') := by rw [hxT, h1]
      have hl : x < T.length := (List.getElem?_eq_some_iff.mp hxT').1
      have st := turn_step a (r := r) ecame hxT' e3 e4
      have e : Mt.turn r K (f + 1) q T = Mt.turn r K f q' (T.set x (some q)) := by
        conv => lhs; unfold Mt.turn
        rw [ecame]
        dsimp only
        rw [if_neg hxr, hxT']
      rw [if_neg hxr] at st
      have hsame' : ∀ j' y', j' ≤ j → R[j']? = some y' → (T.set x (some q))[y']? = T0[y']? := fun j' y' hj hy' => by
        have hne : x ≠ y' := fun z => by
          subst z
          have : i = j' := by
            have g1 := (List.getElem?_eq_some_iff.mp hx).2
            have g2 := (List.getElem?_eq_some_iff.mp hy').2
            exact (List.getElem_inj tr.nd).mp (g1.trans g2.symm)
          omega
        rw [List.getElem?_set_ne hne]
        exact hsame j' y' (by omega) hy'
      obtain ⟨env, ih'⟩ := ih j h4 y q' f m (h.set t (.lst (takD (T.set x (some q))))) (T.set x (some q)) (some (natD x)) (some (optD (some q'))) (a.setT _) h3 h2 hsame' (by omega) (by omega)
      refine ⟨env, ?_⟩
      rw [whileF_t (h1 := h) (by simp) st, e]
      rw [List.set_set] at ih'
      exact ih'
theorem turn_spec {C : List (List Nat)} {r : Nat} {R : List Nat} (a : At h n t c cs db T K) (tr : Mt.Tree C T r R K) (hr0 : T[r]? = some none) {q f : Nat} (hq : q ∈ Mt.keys K) (hR : R.length ≤ 1000) (hf : R.length ≤ f) :
    m_Matcher_turn_over [.ref n, .int (q : Int), .int (r : Int)] h = .ok .non (h.set t (.lst (takD (Mt.turn r K f q T)))) := by
  obtain ⟨x, hx⟩ := Mt.mem_keys.mp hq
  obtain ⟨i, hi, ei⟩ := List.getElem_of_mem (tr.kr q x hx).1
  obtain ⟨env, e⟩ := turn_walk (n := n) (t := t) (c := c) (cs := cs) (db := db) tr hr0 i x q f 100000 h T none none a (by rw [List.getElem?_eq_getElem hi, ei]) hx (fun _ _ _ _ => rfl) (by omega) (by omega)
  have := trR_same (h := h) (h1 := h.set t (.lst (takD (Mt.turn r K f q T)))) (d := .non) (by simp)
  simp [m_Matcher_turn_over, b_Matcher_turn_over, e, this]
/-! ### all candidates of one reply -/
theorem put_km {q x : Nat} (hq : q ∉ Mt.keys K) : putP (kmD K) (.inl (q : Int)) (natD x) = kmD (K ++ [(q, x)]) := by
  unfold putP
  rw [if_neg]
  · simp [kmD]
  · intro z
    rw [List.any_eq_true] at z
    obtain ⟨p, hp, z⟩ := z
    unfold kmD at hp
    rw [List.mem_map] at hp
    obtain ⟨p', hp', rfl⟩ := hp
    simp at z
    exact hq (Mt.mem_keys.mpr ⟨p'.2, by
      have z' : p'.1 = q := by omega
      rw [← z']
      exact hp'⟩)
theorem no_km {q : Nat} (hq : q ∉ Mt.keys K) : valP (kmD K) (.inl (q : Int)) = none := by
  unfold valP
  rw [Option.map_eq_none_iff, List.find?_eq_none]
  intro p hp z
  unfold kmD at hp
  rw [List.mem_map] at hp
  obtain ⟨p', hp', rfl⟩ := hp
  simp at z
  exact hq (Mt.mem_keys.mpr ⟨p'.2, by
    have z' : p'.1 = q := by omega
    rw [← z']
    exact hp'⟩)
theorem yes_km {q : Nat} (hq : q ∈ Mt.keys K) (hn : (Mt.keys K).Nodup) : (valP (kmD K) (.inl (q : Int))).isSome = true := by
  obtain ⟨x, hx⟩ := Mt.mem_keys.mp hq
  rw [val_km (Mt.came_of hn hx)]
  rfl
theorem toVs_nat : ∀ R : List Nat, toVs (R.map natD) = some (R.map fun (k : Nat) => V.int (k : Int))
  | [] => rfl
  | x :: R => by simp [toVs, toV, natD, toVs_nat R]
theorem inV_nat (x : Nat) (R : List Nat) : inV (V.int (x : Int)) (R.map fun (k : Nat) => V.int (k : Int)) = decide (x ∈ R) := by
  unfold inV
  rw [List.any_map, Bool.eq_iff_iff, List.any_eq_true, decide_eq_true_eq]
  constructor
  · rintro ⟨k, hk, e⟩
    simp [eqV] at e
    have : k = x := by omega
    rw [← this]
    exact hk
  · intro hx
    exact ⟨x, hx, by simp [eqV]⟩
theorem notin_row (x : Nat) (R : List Nat) (g : Hh) {k : Nat} (e : g[k]? = some (.lst (R.map natD))) : opNin (natD x) (.ref k) g = some (.bl (decide (x ∉ R)), g) := by
  have h1 : partsOf (.ref k) g = some (R.map natD) := by simp [partsOf, e]
  have h2 : opInB (natD x) (.ref k) g = some (decide (x ∈ R)) := by
    have := toVs_nat R
    have h3 := inV_nat x R
    simp only [opInB, natD, toV, h1, this, h3]
  unfold opNin
  rw [h2]
  simp
theorem notin_tup (x : Nat) (R : List Nat) (g : Hh) : opNin (natD x) (rowD R) g = some (.bl (decide (x ∉ R)), g) := by
  have h1 : partsOf (rowD R) g = some (R.map natD) := rfl
  have h2 : opInB (natD x) (rowD R) g = some (decide (x ∈ R)) := by
    have := toVs_nat R
    have h3 := inV_nat x R
    unfold rowD at h1
    simp only [opInB, natD, toV, rowD] at h1 this h3 ⊢
    simp only [h1, this, h3]
  unfold opNin
  rw [h2]
  simp
end
end Lk32
/-! k32: grow walked -/
namespace Lk32
open PySem L2 PyProof.Rows Sm SmPool
section
variable {n t c rr : Nat} {cs : List (List Nat)} {d : Nat} {T : Mt.Tk} {r : Nat}
theorem scan_skip {h : Hh} {K : Mt.Km} (a : At h n t c cs (d : Int) T K) {q : Nat} (hq : q ∈ Mt.keys K) (hn : (Mt.keys K).Nodup) (e1 e2 e3 e5 e6 : Option D) :
    b_Matcher_grow_2 [some (.ref n), e1, e2, e3, some (natD q), e5, e6] h = .nx [some (.ref n), e1, e2, e3, some (natD q), e5, e6] h := by
  have v := yes_km hq hn
  simp [b_Matcher_grow_2, natD, a.ob, a.km, v]
/-- the state ahead of the test: the question is noted, its holders are known -/
theorem scan_new {h : Hh} {K : Mt.Km} {R : List Nat} {at_ x q : Nat} (a : At h n t c cs (d : Int) T K) (hr : h[rr]? = some (.lst (R.map natD))) (hx : R[at_]? = some x) (hq : q ∉ Mt.keys K) (hT : T.length ≤ 1000) (hK : K.length ≤ 1000) (e5 : Option D) :
    b_Matcher_grow_2 [some (.ref n), some (.int (r : Int)), some (.ref rr), some (.int (at_ : Int)), some (natD q), e5, none] h =
      (sSeq (sIf (tBl (eB opLtX (eN opLen [(eV 5)]) (eU (opFld 2 1) (eV 0)))) (sSeq (sExpr (eMeth 2 m_Matcher_turn_over (eV 0) [(eV 4), (eV 1)]))
    (sRet (eFz (eV 2)))) sSkip)
    (sTr (sExpr (eMt opExtend (eV 2) [(eLc (mSeqS (eV 5)) (gtName 6) (tBl (eB opNin (eV 6) (eV 2))) (eV 6) [6])])))) [some (.ref n), some (.int (r : Int)), some (.ref rr), some (.int (at_ : Int)), some (natD q), some (.fls ((Mt.holders T q).map natD)), none] (h.set c (.dK (kmD (K ++ [(q, x)])))) := by
  have v := no_km hq
  have p := put_km (x := x) hq
  have ha : atI (R.map natD) (at_ : Int) = some (natD x) := by
    rw [atI_pos (by omega)]
    simp [hx]
  have a2 := a.setK (K ++ [(q, x)])
  have rs := replies_spec a2 hT q
  have kl : (kmD K).length < sizeLine := by
    have : (kmD K).length = K.length := by simp [kmD]
    rw [this, sizeLine_eq]
    omega
  simp only [natD] at p ha v
  simp [b_Matcher_grow_2, natD, a.ob, a.km, v, hr, ha, kl, p, a2.ob, rs]
/-- what the walk over the candidates of one reply does -/
theorem scan_walk {C : List (List Nat)} (hT0 : T[r]? = some none) (hT : T.length ≤ 1000) {at_ x : Nat} {f : Nat} (hrt : rr ≠ t) : ∀ (qs R : List Nat) (K : Mt.Km) (h : Hh) (e4 e5 : Option D), At h n t c cs (d : Int) T K → h[rr]? = some (.lst (R.map natD)) → R[at_]? = some x → Mt.Tree C T r R K → Mt.Full d T R K → (∀ q ∈ qs, q ∈ Mt.cn C x) → K.length + qs.length ≤ 1000 → (∀ {R K}, Mt.Tree C T r R K → R.length ≤ 100) → 100 ≤ f →
    (∀ R' K', Mt.scan d T x qs R K = .inr (R', K') → ∃ h' e4' e5', forL (gtName 4) b_Matcher_grow_2 none (qs.map natD) [some (.ref n), some (.int (r : Int)), some (.ref rr), some (.int (at_ : Int)), e4, e5, none] h = .nx [some (.ref n), some (.int (r : Int)), some (.ref rr), some (.int (at_ : Int)), e4', e5', none] h' ∧
      At h' n t c cs (d : Int) T K' ∧ h'[rr]? = some (.lst (R'.map natD)) ∧ h'.length = h.length ∧ K'.length ≤ K.length + qs.length ∧ ∀ i, i ≠ c → i ≠ rr → h'[i]? = h[i]?) ∧
    (∀ q R' K', Mt.scan d T x qs R K = .inl (q, R', K') → ∃ h', forL (gtName 4) b_Matcher_grow_2 none (qs.map natD) [some (.ref n), some (.int (r : Int)), some (.ref rr), some (.int (at_ : Int)), e4, e5, none] h = .rt (.fls (R'.map natD)) h' ∧
      At h' n t c cs (d : Int) (Mt.turn r K' f q T) K' ∧ h'.length = h.length ∧ ∀ i, i ≠ c → i ≠ rr → i ≠ t → h'[i]? = h[i]?)
  | [], R, K, h, e4, e5, a, hr, hx, tr, fl, hq, hK, bR, hf => by
    refine ⟨fun R' K' e => ?_, fun q R' K' e => by simp [Mt.scan] at e⟩
    simp only [Mt.scan, Sum.inr.injEq, Prod.mk.injEq] at e
    obtain ⟨rfl, rfl⟩ := e
    exact ⟨h, e4, e5, by rw [List.map_nil, forL_nil (gd := none) trivial], a, hr, rfl, by simp, fun _ _ _ => rfl⟩
  | q :: qs, R, K, h, e4, e5, a, hr, hx, tr, fl, hq, hK, bR, hf => by
    rw [List.length_cons] at hK
    by_cases h1 : q ∈ Mt.keys K
    · have st := scan_skip a h1 tr.knd (some (.int (r : Int))) (some (.ref rr)) (some (.int (at_ : Int))) e5 none
      have ih := scan_walk hT0 hT (at_ := at_) (x := x) (f := f) hrt qs R K h (some (natD q)) e5 a hr hx tr fl (fun q' h => hq q' (by simp [h])) (by omega) bR hf
      have sc : Mt.scan d T x (q :: qs) R K = Mt.scan d T x qs R K := by simp only [Mt.scan, if_pos h1]
      rw [sc, List.map_cons, forL_nx (gd := none) trivial rfl st]
      refine ⟨fun R' K' e => ?_, ih.2⟩
      obtain ⟨h', e4', e5', b1, b2, b3, b4, b5, b6⟩ := ih.1 R' K' e
      exact ⟨h', e4', e5', b1, b2, b3, b4, by rw [List.length_cons]; omega, b6⟩
    · have st := scan_new (rr := rr) (r := r) a hr hx h1 hT (by omega) e5
      have hxR : x ∈ R := List.mem_of_getElem? hx
      have tr1 := tr.key hxR (hq q (by simp)) h1
      have a2 := a.setK (K ++ [(q, x)])
      have hrc : rr ≠ c := fun z => by
        rw [z, a.km] at hr
        cases hr
      have hrn : rr ≠ n := fun z => by
        rw [z, a.ob] at hr
        cases hr
      obtain ⟨H, eH⟩ : ∃ H, H = h.set c (.dK (kmD (K ++ [(q, x)]))) := ⟨_, rfl⟩
      rw [← eH] at st a2
      have hr2 : H[rr]? = some (.lst (R.map natD)) := by rw [eH, List.getElem?_set_ne hrc.symm]; exact hr
      have hHl : H.length = h.length := by rw [eH, List.length_set]
      have hHo : ∀ i, i ≠ c → H[i]? = h[i]? := fun i hi => by rw [eH, List.getElem?_set_ne hi.symm]
      have hlen : ((Mt.holders T q).map natD).length = T.count (some q) := by rw [List.length_map, Mt.holders_len]
      by_cases h2 : T.count (some q) < d
      · have h2' : ((T.count (some q) : Nat) : Int) < (d : Int) := by omega
        have sc : Mt.scan d T x (q :: qs) R K = .inl (q, R, K ++ [(q, x)]) := by simp only [Mt.scan, if_neg h1, if_pos h2]
        rw [sc]
        refine ⟨fun R' K' e => (by cases e), fun q' R' K' e => ?_⟩
        simp only [Sum.inl.injEq, Prod.mk.injEq] at e
        obtain ⟨rfl, rfl, rfl⟩ := e
        have hin : q ∈ Mt.keys (K ++ [(q, x)]) := Mt.mem_keys.mpr ⟨x, by simp⟩
        have ts := turn_spec a2 tr1 hT0 hin (f := f) (by have := bR tr1; omega) (by have := bR tr1; omega)
        have a3 := a2.setT (Mt.turn r (K ++ [(q, x)]) f q T)
        obtain ⟨H2, eH2⟩ : ∃ H2, H2 = H.set t (.lst (takD (Mt.turn r (K ++ [(q, x)]) f q T))) := ⟨_, rfl⟩
        rw [← eH2] at ts a3
        have hr3 : H2[rr]? = some (.lst (R.map natD)) := by rw [eH2, List.getElem?_set_ne hrt.symm]; exact hr2
        refine ⟨H2.set rr .dead, ?_, a3.set _ hrn hrt hrc, by rw [List.length_set, eH2, List.length_set, hHl], fun i i1 i2 i3 => ?_⟩
        · rw [List.map_cons, forL_rt (gd := none) trivial rfl]
          show b_Matcher_grow_2 [some (.ref n), some (.int (r : Int)), some (.ref rr), some (.int (at_ : Int)), some (natD q), e5, none] h = _
          have fz := fz1_old (ds := R.map natD) (h := H2) (n := rr) hr3
          rw [st]
          simp [hlen, a2.ob, h2, natD, ts, fz]
        · rw [List.getElem?_set_ne i2.symm, eH2, List.getElem?_set_ne i3.symm]
          exact hHo i i1
      · have h2' : ¬ ((T.count (some q) : Nat) : Int) < (d : Int) := by omega
        have sc : Mt.scan d T x (q :: qs) R K = Mt.scan d T x qs (R ++ (Mt.holders T q).filter fun y => decide (y ∉ R)) (K ++ [(q, x)]) := by simp only [Mt.scan, if_neg h1, if_neg h2]
        have tr2 : Mt.Tree C T r (R ++ (Mt.holders T q).filter fun y => decide (y ∉ R)) (K ++ [(q, x)]) := tr1.rows (q := q) (x := x) (by simp) (List.Nodup.sublist List.filter_sublist (Mt.holders_nd T q)) fun y hy => by
          rw [List.mem_filter, Mt.mem_holders, decide_eq_true_eq] at hy
          exact hy
        have fl2 : Mt.Full d T (R ++ (Mt.holders T q).filter fun y => decide (y ∉ R)) (K ++ [(q, x)]) := fun q' x' h => by
          rcases List.mem_append.mp h with h | h
          · obtain ⟨a, b⟩ := fl q' x' h
            exact ⟨a, fun y hy => List.mem_append_left _ (b y hy)⟩
          · simp at h
            obtain ⟨rfl, rfl⟩ := h
            refine ⟨by omega, fun y hy => ?_⟩
            by_cases hR : y ∈ R
            · exact List.mem_append_left _ hR
            · exact List.mem_append_right _ (by rw [List.mem_filter, Mt.mem_holders, decide_eq_true_eq]; exact ⟨hy, hR⟩)
        have hhl : (Mt.holders T q).length ≤ T.length := by rw [Mt.holders_len]; exact List.count_le_length
        have lc := lc_pfM (i := 6) (t := tBl (eB opNin (eV 6) (eV 2))) (m := eV 6) (env := [some (.ref n), some (.int (r : Int)), some (.ref rr), some (.int (at_ : Int)), some (natD q), some (.fls ((Mt.holders T q).map natD)), none]) (h := H) (fun y => decide (y ∉ R)) natD natD (Mt.holders T q) (fun y hy acc => by
          have e := notin_row y R (H ++ [.lst acc]) (k := rr) (by rw [List.getElem?_append_left (List.getElem?_eq_some_iff.mp hr2).1]; exact hr2)
          simp [e]) (fun y hy _ acc => by simp) (line4k (by omega))
        have hrl : rr < H.length := (List.getElem?_eq_some_iff.mp hr2).1
        have hnl : n < H.length := (List.getElem?_eq_some_iff.mp a2.ob).1
        have hz : R.length + ((Mt.holders T q).filter fun y => decide (y ∉ R)).length ≤ sizeLine := line4k (by
          have := List.length_filter_le (fun y => decide (y ∉ R)) (Mt.holders T q)
          have := bR tr
          omega)
        have ext : sTr (sExpr (eMt opExtend (eV 2) [(eLc (mSeqS (eV 5)) (gtName 6) (tBl (eB opNin (eV 6) (eV 2))) (eV 6) [6])])) [some (.ref n), some (.int (r : Int)), some (.ref rr), some (.int (at_ : Int)), some (natD q), some (.fls ((Mt.holders T q).map natD)), none] H =
            .nx [some (.ref n), some (.int (r : Int)), some (.ref rr), some (.int (at_ : Int)), some (natD q), some (.fls ((Mt.holders T q).map natD)), none] (H.set rr (.lst ((R ++ (Mt.holders T q).filter fun y => decide (y ∉ R)).map natD))) := by
          have hrg : (H ++ [O.lst (((Mt.holders T q).filter fun y => decide (y ∉ R)).map natD)])[rr]? = some (.lst (R.map natD)) := by rw [List.getElem?_append_left hrl]; exact hr2
          have e0 : sExpr (eMt opExtend (eV 2) [(eLc (mSeqS (eV 5)) (gtName 6) (tBl (eB opNin (eV 6) (eV 2))) (eV 6) [6])]) [some (.ref n), some (.int (r : Int)), some (.ref rr), some (.int (at_ : Int)), some (natD q), some (.fls ((Mt.holders T q).map natD)), none] H =
              .nx [some (.ref n), some (.int (r : Int)), some (.ref rr), some (.int (at_ : Int)), some (natD q), some (.fls ((Mt.holders T q).map natD)), none] ((H.set rr (.lst ((R ++ (Mt.holders T q).filter fun y => decide (y ∉ R)).map natD))) ++ [.lst (((Mt.holders T q).filter fun y => decide (y ∉ R)).map natD)]) := by
            have hrg' := hrg
            simp at lc hrg hz
            simp [hr2, lc, hrg, hz, List.set_append_left _ _ hrl]
          rw [sTr_eq, e0]
          refine trS_cut (by rw [List.length_set]) (fun d hd => ?_) (Kq_set ?_)
          · simp only [List.mem_cons, Option.some.injEq, List.not_mem_nil, or_false, reduceCtorEq] at hd
            rcases hd with rfl | rfl | rfl | rfl | rfl | rfl
            · simpa using hnl
            · simp
            · simpa using hrl
            · simp
            · simp [natD]
            · rw [lo_fls]
              exact los_nat _ _
          · show los _ _ = true
            exact los_nat _ _
        have st2 : b_Matcher_grow_2 [some (.ref n), some (.int (r : Int)), some (.ref rr), some (.int (at_ : Int)), some (natD q), e5, none] h =
            .nx [some (.ref n), some (.int (r : Int)), some (.ref rr), some (.int (at_ : Int)), some (natD q), some (.fls ((Mt.holders T q).map natD)), none] (H.set rr (.lst ((R ++ (Mt.holders T q).filter fun y => decide (y ∉ R)).map natD))) := by
          rw [st, ← ext]
          simp [hlen, a2.ob, h2]
        have ih := scan_walk hT0 hT (at_ := at_) (x := x) (f := f) hrt qs (R ++ (Mt.holders T q).filter fun y => decide (y ∉ R)) (K ++ [(q, x)]) (H.set rr (.lst ((R ++ (Mt.holders T q).filter fun y => decide (y ∉ R)).map natD))) (some (natD q)) (some (.fls ((Mt.holders T q).map natD)))
          (a2.set _ hrn hrt hrc) (List.getElem?_set_self hrl) (by rw [List.getElem?_append_left (List.getElem?_eq_some_iff.mp hx).1]; exact hx) tr2 fl2 (fun q' h => hq q' (by simp [h])) (by simp; omega) bR hf
        rw [sc, List.map_cons, forL_nx (gd := none) trivial rfl st2]
        have io : ∀ i, i ≠ c → i ≠ rr → (H.set rr (.lst ((R ++ (Mt.holders T q).filter fun y => decide (y ∉ R)).map natD)))[i]? = h[i]? := fun i i1 i2 => by rw [List.getElem?_set_ne i2.symm]; exact hHo i i1
        refine ⟨fun R' K' e => ?_, fun q' R' K' e => ?_⟩
        · obtain ⟨h', e4', e5', b1, b2, b3, b4, b5, b6⟩ := ih.1 R' K' e
          exact ⟨h', e4', e5', b1, b2, b3, by rw [b4, List.length_set, hHl], by simp at b5; rw [List.length_cons]; omega, fun i i1 i2 => by rw [b6 i i1 i2, io i i1 i2]⟩
        · obtain ⟨h', b1, b2, b3, b4⟩ := ih.2 q' R' K' e
          exact ⟨h', b1, b2, by rw [b3, List.length_set, hHl], fun i i1 i2 i3 => by rw [b4 i i1 i2 i3, io i i1 i2]⟩
end
end Lk32
/-! k32: grow, match, attribute walked -/
namespace Lk32
open PySem L2 PyProof.Rows Sm SmPool
theorem tree_len {C : List (List Nat)} {T : Mt.Tk} {r : Nat} {R : List Nat} {K : Mt.Km} (hT : T.length = C.length) (hr : r < C.length) (t : Mt.Tree C T r R K) : R.length ≤ C.length := Mt.nodup_len t.nd fun x hx => by
  obtain ⟨i, hi, e⟩ := List.getElem_of_mem hx
  by_cases h0 : i = 0
  · have := t.hd
    subst h0
    rw [List.getElem?_eq_getElem hi, e] at this
    rw [Option.some.inj this]
    exact hr
  · obtain ⟨q, y, j, h1, _⟩ := t.tree i x (by rw [List.getElem?_eq_getElem hi, e]) h0
    rw [← hT]
    exact (List.getElem?_eq_some_iff.mp h1).1
theorem atRows {cs : List (List Nat)} {x : Nat} (h : x < cs.length) : atI (cs.map rowD) (x : Int) = some (rowD (Mt.cn cs x)) := by
  rw [atI_pos (by omega)]
  simp [Mt.cn, h]
section
variable {n t c rr : Nat} {cs : List (List Nat)} {d : Nat} {T : Mt.Tk} {r : Nat}
theorem bfs_walk (hcs : cs.length ≤ 24) (hcn : ∀ x, (Mt.cn cs x).length ≤ 24) (hT0 : T[r]? = some none) (hT : T.length = cs.length) (hr : r < cs.length) (hrt : rr ≠ t) {F : Nat} (hF : 100 ≤ F) : ∀ (f at_ m : Nat) (R : List Nat) (K : Mt.Km) (h : Hh) (e4 e5 : Option D), At h n t c cs (d : Int) T K → h[rr]? = some (.lst (R.map natD)) → Mt.Tree cs T r R K → Mt.Full d T R K → at_ ≤ R.length → K.length ≤ 24 * at_ → cs.length < f + at_ → cs.length + 1 < m + at_ →
    (∀ R' K', Mt.bfs cs d T f at_ R K = .inr (R', K') → ∃ h' env', whileF (tBl (eB opLtX (eV 3) (eN opLen [(eV 2)]))) b_Matcher_grow_1 m [some (.ref n), some (.int (r : Int)), some (.ref rr), some (.int (at_ : Int)), e4, e5, none] h = .nx env' h' ∧ env'[2]? = some (some (.ref rr)) ∧
      At h' n t c cs (d : Int) T K' ∧ h'[rr]? = some (.lst (R'.map natD)) ∧ h'.length = h.length ∧ ∀ i, i ≠ c → i ≠ rr → h'[i]? = h[i]?) ∧
    (∀ q R' K', Mt.bfs cs d T f at_ R K = .inl (q, R', K') → ∃ h', whileF (tBl (eB opLtX (eV 3) (eN opLen [(eV 2)]))) b_Matcher_grow_1 m [some (.ref n), some (.int (r : Int)), some (.ref rr), some (.int (at_ : Int)), e4, e5, none] h = .rt (.fls (R'.map natD)) h' ∧
      At h' n t c cs (d : Int) (Mt.turn r K' F q T) K' ∧ h'.length = h.length ∧ ∀ i, i ≠ c → i ≠ rr → i ≠ t → h'[i]? = h[i]?) := by
  intro f
  induction f with
  | zero =>
    intro at_ m R K h e4 e5 _ _ tr _ hat _ hf
    have := tree_len hT hr tr
    omega
  | succ f ih =>
    intro at_ m R K h e4 e5 a hrr tr fl hat hK hf hm
    have hRl := tree_len hT hr tr
    obtain ⟨m, rfl⟩ : ∃ m', m = m' + 1 := ⟨m - 1, by omega⟩
    have hlen : (R.map natD).length = R.length := by simp
    cases e : R[at_]? with
    | none =>
      have hl : R.length ≤ at_ := by rw [List.getElem?_eq_none_iff] at e; exact e
      have hlt : ¬ at_ < R.length := by omega
      simp only [Mt.bfs, e]
      refine ⟨fun R' K' z => ?_, fun q R' K' z => (by cases z)⟩
      simp only [Sum.inr.injEq, Prod.mk.injEq] at z
      obtain ⟨rfl, rfl⟩ := z
      refine ⟨h, _, whileF_f (by simp [hrr, hlen, hlt]), rfl, a, hrr, rfl, fun _ _ _ => rfl⟩
    | some x =>
      have hlt : at_ < R.length := (List.getElem?_eq_some_iff.mp e).1
      have hx : x < cs.length := by
        by_cases h0 : at_ = 0
        · subst h0
          have := tr.hd
          rw [e] at this
          rw [Option.some.inj this]
          exact hr
        · obtain ⟨q, y, j, h1, _⟩ := tr.tree at_ x e h0
          rw [← hT]
          exact (List.getElem?_eq_some_iff.mp h1).1
      have ha : atI (R.map natD) (at_ : Int) = some (natD x) := by
        rw [atI_pos (by omega)]
        simp [e]
      have hc := atRows hx
      have hcx := hcn x
      have tst : tBl (eB opLtX (eV 3) (eN opLen [(eV 2)])) [some (.ref n), some (.int (r : Int)), some (.ref rr), some (.int (at_ : Int)), e4, e5, none] h = .ok true h := by
        simp [hrr, hlen, hlt]
      have sw := scan_walk (C := cs) (n := n) (t := t) (c := c) (rr := rr) (cs := cs) (d := d) hT0 (by omega) (at_ := at_) (x := x) (f := F) hrt (Mt.cn cs x) R K h e4 e5 a hrr e tr fl (fun q h => h) (by omega) (fun {R K} tr => by have := tree_len hT hr tr; omega) hF
      have so := Mt.scan_ok (d := d) (x := x) (Mt.cn cs x) R K tr fl (List.mem_of_getElem? e) fun q h => h
      simp only [Mt.bfs, e]
      cases q : Mt.scan d T x (Mt.cn cs x) R K with
      | inl z =>
        obtain ⟨q0, R0, K0⟩ := z
        refine ⟨fun R' K' z => (by cases z), fun q' R' K' z => ?_⟩
        simp only [Sum.inl.injEq, Prod.mk.injEq] at z
        obtain ⟨rfl, rfl, rfl⟩ := z
        obtain ⟨h', b1, b2, b3, b4⟩ := sw.2 _ _ _ q
        refine ⟨h', whileF_r tst ?_, b2, b3, b4⟩
        simp only [natD] at ha
        simp [b_Matcher_grow_1, a.ob, hrr, ha, rowsD, hc, rowD, b1]
      | inr z =>
        obtain ⟨R0, K0⟩ := z
        obtain ⟨h', e4', e5', b1, b2, b3, b4, b5, b6⟩ := sw.1 _ _ q
        obtain ⟨a1, a2, ⟨H, rfl⟩, a4, a5⟩ := so.1 _ _ q
        have st : b_Matcher_grow_1 [some (.ref n), some (.int (r : Int)), some (.ref rr), some (.int (at_ : Int)), e4, e5, none] h = .nx [some (.ref n), some (.int (r : Int)), some (.ref rr), some (.int ((at_ + 1 : Nat) : Int)), e4', e5', none] h' := by
          simp only [natD] at ha
          simp [b_Matcher_grow_1, a.ob, hrr, ha, rowsD, hc, rowD, b1]
        have ih' := ih (at_ + 1) m (R ++ H) K0 h' e4' e5' b2 b3 a1 a2 (by rw [List.length_append]; omega) (by omega) (by omega) (by omega)
        rw [whileF_t tst st]
        refine ⟨fun R' K' z => ?_, fun q' R' K' z => ?_⟩
        · obtain ⟨h2, env', c1, c2, c3, c4, c5, c6⟩ := ih'.1 R' K' z
          exact ⟨h2, env', c1, c2, c3, c4, by rw [c5, b4], fun i i1 i2 => by rw [c6 i i1 i2, b6 i i1 i2]⟩
        · obtain ⟨h2, c1, c2, c3, c4⟩ := ih'.2 q' R' K' z
          exact ⟨h2, c1, c2, by rw [c3, b4], fun i i1 i2 i3 => by rw [c4 i i1 i2 i3, b6 i i1 i2]⟩
theorem grow_spec {h : Hh} {K : Mt.Km} (hcs : cs.length ≤ 24) (hcn : ∀ x, (Mt.cn cs x).length ≤ 24) (hT0 : T[r]? = some none) (hT : T.length = cs.length) (hr : r < cs.length) {F : Nat} (hF : 100 ≤ F) (a : At h n t c cs (d : Int) T K) :
    ∃ h' K', m_Matcher_grow [.ref n, .int (r : Int)] h = .ok (.fls ((Mt.grow cs d T r F).2.map natD)) h' ∧ At h' n t h.length cs (d : Int) (Mt.grow cs d T r F).1 K' ∧ h'.length = h.length + 2 ∧ ∀ i, i ≠ n → i ≠ t → i < h.length → h'[i]? = h[i]? := by
  have hn : n < h.length := (List.getElem?_eq_some_iff.mp a.ob).1
  have ht : t < h.length := (List.getElem?_eq_some_iff.mp a.tk).1
  obtain ⟨ins, eins⟩ : ∃ ins, ins = O.ins 2 [some (rowsD cs), some (.int (d : Int)), some (.ref t), some (.ref h.length)] := ⟨_, rfl⟩
  obtain ⟨H0, eH0⟩ : ∃ H0 : Hh, H0 = (h ++ [O.dK []]).set n ins := ⟨_, rfl⟩
  have l0 : H0.length = h.length + 1 := by rw [eH0, List.length_set, List.length_append]; rfl
  obtain ⟨H1, eH1⟩ : ∃ H1 : Hh, H1 = H0 ++ [O.lst [D.int (r : Int)]] := ⟨_, rfl⟩
  have l1 : H1.length = h.length + 2 := by rw [eH1, List.length_append, l0]; rfl
  have g0 : ∀ i, i < h.length + 1 → H1[i]? = H0[i]? := fun i hi => by rw [eH1, List.getElem?_append_left (by omega)]
  have gn : H1[n]? = some ins := by rw [g0 n (by omega), eH0, List.getElem?_set_self (by simp; omega)]
  have go : ∀ i, i ≠ n → i < h.length → H1[i]? = h[i]? := fun i i1 i2 => by rw [g0 i (by omega), eH0, List.getElem?_set_ne i1.symm, List.getElem?_append_left i2]
  have gc : H1[h.length]? = some (.dK []) := by rw [g0 _ (by omega), eH0, List.getElem?_set_ne (by omega), List.getElem?_append_right (Nat.le_refl _), Nat.sub_self]; rfl
  have gr : H1[h.length + 1]? = some (.lst ([r].map natD)) := by rw [eH1, List.getElem?_append_right (by omega), l0, Nat.sub_self]; rfl
  have a1 : At H1 n t h.length cs (d : Int) T [] := ⟨by rw [gn, eins], by rw [go t a.nt.symm ht]; exact a.tk, gc⟩
  have e1 : sFld 2 3 (eV 0) eDK [some (.ref n), some (.int (r : Int)), none, none, none, none, none] h = .nx [some (.ref n), some (.int (r : Int)), none, none, none, none, none] H0 := by
    have b : (h ++ [O.dK []])[n]? = some (.ins 2 [some (rowsD cs), some (.int (d : Int)), some (.ref t), some (.ref c)]) := by rw [List.getElem?_append_left hn]; exact a.ob
    rw [eH0, eins]
    simp [b]
  have e2 : sSet 2 (eLst [(eV 1)]) [some (.ref n), some (.int (r : Int)), none, none, none, none, none] H0 = .nx [some (.ref n), some (.int (r : Int)), some (.ref (h.length + 1)), none, none, none, none] H1 := by
    rw [eH1]
    simp [l0]
  have t0 : Mt.Tree cs T r [r] [] := ⟨by simp, rfl, fun q x h => by simp at h, by simp [Mt.keys], fun j x h h0 => by
    have : j = 0 := by
      have := (List.getElem?_eq_some_iff.mp h).1
      simpa using this
    exact absurd this h0⟩
  have B := bfs_walk (n := n) (t := t) (c := h.length) (rr := h.length + 1) (d := d) hcs hcn hT0 hT hr (by omega) hF F 0 100000 [r] [] H1 none none a1 gr t0 (fun q x h => by simp at h) (Nat.zero_le _) (by simp) (by omega) (by omega)
  have keep : ∀ {H : Hh} {T' : Mt.Tk} {K' : Mt.Km} (v : D), At H n t h.length cs (d : Int) T' K' → trR h (.ok v H) = .ok v H := fun {H T' K'} v a' => trR_keep hn a'.ob (fun z => by
    have hc : c < h.length := (List.getElem?_eq_some_iff.mp a.km).1
    rw [a.ob] at z
    simp at z
    omega) (by simp [loO])
  unfold Mt.grow
  cases e : Mt.bfs cs d T F 0 [r] [] with
  | inl z =>
    obtain ⟨q, R, K'⟩ := z
    obtain ⟨h', b1, b2, b3, b4⟩ := B.2 q R K' e
    refine ⟨h', K', ?_, b2, by rw [b3, l1], fun i i1 i2 i3 => by rw [b4 i (by omega) (by omega) i2, go i i1 i3]⟩
    have kp := keep (.fls (R.map natD)) b2
    simp at b1
    simp [m_Matcher_grow, b_Matcher_grow, ↓e1, ↓e2, b1, kp]
  | inr z =>
    obtain ⟨R, K'⟩ := z
    obtain ⟨h', env', b1, b0, b2, b3, b4, b5⟩ := B.1 R K' e
    have hrr : h.length + 1 < h'.length := by omega
    have a3 := b2.set (i := h.length + 1) .dead (by omega) (by omega) (by omega)
    refine ⟨h'.set (h.length + 1) .dead, K', ?_, a3, by rw [List.length_set, b4, l1], fun i i1 i2 i3 => by rw [List.getElem?_set_ne (by omega), b5 i (by omega) (by omega), go i i1 i3]⟩
    have kp := keep (.fls (R.map natD)) a3
    have fz := fz1_old (ds := R.map natD) (h := h') (n := h.length + 1) b3
    simp at b1
    simp [m_Matcher_grow, b_Matcher_grow, ↓e1, ↓e2, b1, b0, fz, kp]
end
end Lk32
/-! k32: match, attribute walked -/
namespace Lk32
open PySem L2 PyProof.Rows Sm SmPool
section
variable {cs : List (List Nat)} {d : Nat}
theorem init_spec (hcs : cs.length ≤ 24) (h : Hh) : m_Matcher___init__ [.ref h.length, rowsD cs, .int (d : Int)] (h ++ [.ins 2 [none, none, none, none]]) =
    .ok .non (h ++ [.ins 2 [some (rowsD cs), some (.int (d : Int)), some (.ref (h.length + 1)), some (.ref (h.length + 2))], .lst (takD (List.replicate cs.length none)), .dK []]) := by
  obtain ⟨H, eH⟩ : ∃ H : Hh, H = h ++ [.ins 2 [some (rowsD cs), some (.int (d : Int)), none, none]] := ⟨_, rfl⟩
  have hl : H.length = h.length + 1 := by rw [eH]; simp
  have lc := lcL_pure (g := gtName 3) (t := tYesM) (m := eC .non) (vs := [3]) (gd := none) (env := [some (.ref h.length), some (rowsD cs), some (.int (d : Int)), none]) H (fun _ => D.non) (fun _ => trivial) (cs.map rowD) [] (fun x _ acc => ⟨_, rfl, rfl, rfl⟩) (by
    simp
    exact line4k (by omega))
  have em : (cs.map rowD).map (fun _ => D.non) = takD (List.replicate cs.length none) := by
    clear lc hcs eH hl
    induction cs with
    | nil => rfl
    | cons c cs ih =>
      simp only [List.map_cons, List.length_cons, List.replicate_succ, takD] at ih ⊢
      rw [ih]
      rfl
  rw [em, List.nil_append, hl] at lc
  have e1 : sFld 2 1 (eV 0) (eV 2) [some (.ref h.length), some (rowsD cs), some (.int (d : Int)), none] (h ++ [.ins 2 [some (rowsD cs), none, none, none]]) = .nx [some (.ref h.length), some (rowsD cs), some (.int (d : Int)), none] H := by
    rw [eH]
    simp
  have e2 : sFld 2 2 (eV 0) (eLc (mSeqS (eV 1)) (gtName 3) tYesM (eC .non) [3]) [some (.ref h.length), some (rowsD cs), some (.int (d : Int)), none] H = .nx [some (.ref h.length), some (rowsD cs), some (.int (d : Int)), none] (h ++ [.ins 2 [some (rowsD cs), some (.int (d : Int)), some (.ref (h.length + 1)), none], .lst (takD (List.replicate cs.length none))]) := by
    have l1 : (H ++ [O.lst (takD (List.replicate cs.length none))])[h.length]? = some (.ins 2 [some (rowsD cs), some (.int (d : Int)), none, none]) := by
      rw [List.getElem?_append_left (by omega), eH]
      simp
    have l2 : ∀ o : O, (H ++ [O.lst (takD (List.replicate cs.length none))]).set h.length o = h ++ [o, .lst (takD (List.replicate cs.length none))] := fun o => by
      rw [eH]
      simp
    simp only [rowsD] at lc l1 l2 ⊢
    simp [lc, l1, l2, hl]
  have e3 : sFld 2 3 (eV 0) eDK [some (.ref h.length), some (rowsD cs), some (.int (d : Int)), none] (h ++ [.ins 2 [some (rowsD cs), some (.int (d : Int)), some (.ref (h.length + 1)), none], .lst (takD (List.replicate cs.length none))]) =
      .nx [some (.ref h.length), some (rowsD cs), some (.int (d : Int)), none] (h ++ [.ins 2 [some (rowsD cs), some (.int (d : Int)), some (.ref (h.length + 1)), some (.ref (h.length + 2))], .lst (takD (List.replicate cs.length none)), .dK []]) := by
    simp
  have kp := trR_keep (h := h ++ [.ins 2 [none, none, none, none]]) (h1 := h ++ [.ins 2 [some (rowsD cs), some (.int (d : Int)), some (.ref (h.length + 1)), some (.ref (h.length + 2))], .lst (takD (List.replicate cs.length none)), .dK []]) (d := .non) (i := h.length) (o := .ins 2 [some (rowsD cs), some (.int (d : Int)), some (.ref (h.length + 1)), some (.ref (h.length + 2))]) (by simp) (by simp) (by simp) (by simp [loO])
  simp [m_Matcher___init__, b_Matcher___init__, ↓e1, ↓e2, ↓e3, kp]
theorem match_loop (hcs : cs.length ≤ 24) (hcn : ∀ x, (Mt.cn cs x).length ≤ 24) {F : Nat} (hF : 100 ≤ F) {n t b : Nat} (hbn : b ≤ n) (hbt : b ≤ t) : ∀ (k i : Nat) (H : Hh) (c : Nat) (K : Mt.Km) (e0 e1 e3 : Option D), i + k = cs.length → b ≤ H.length → At H n t c cs (d : Int) (Mt.matched cs d F i) K →
    ∃ H' c' K' e3', forL (gtName 3) b_match_1 none (rngD (i : Int) k) [e0, e1, some (.ref n), e3] H = .nx [e0, e1, some (.ref n), e3'] H' ∧ b ≤ H'.length ∧ At H' n t c' cs (d : Int) (Mt.matched cs d F cs.length) K' ∧ ∀ j, j < b → H'[j]? = H[j]?
  | 0, i, H, c, K, e0, e1, e3, hi, hl, a => by
    have : i = cs.length := by omega
    subst this
    exact ⟨H, c, K, e3, by rw [rngD_nil, forL_nil (gd := none) trivial], hl, a, fun _ _ => rfl⟩
  | k + 1, i, H, c, K, e0, e1, e3, hi, hl, a => by
    have g := Mt.good_matched (C := cs) (d := d) F (by omega) i (by omega)
    obtain ⟨h', K', b1, b2, b3, b4⟩ := grow_spec (r := i) hcs hcn (g.rest i (Nat.le_refl _) (by omega)) g.v.len (by omega) hF a
    obtain ⟨H', c', K2, e3', i1, i2, i3, i4⟩ := match_loop hcs hcn hF hbn hbt k (i + 1) h' _ K' e0 e1 (some (.int (i : Int))) (by omega) (by omega) b2
    have st : b_match_1 [e0, e1, some (.ref n), some (.int (i : Int))] H = .nx [e0, e1, some (.ref n), some (.int (i : Int))] h' := by
      simp [b_match_1, a.ob, b1]
    refine ⟨H', c', K2, e3', ?_, i2, i3, fun j hj => by rw [i4 j hj, b4 j (by omega) (by omega) (by omega)]⟩
    rw [rngD_succ, forL_nx (gd := none) trivial rfl st]
    exact i1
theorem match_spec (hcs : cs.length ≤ 24) (hcn : ∀ x, (Mt.cn cs x).length ≤ 24) (h : Hh) : ∃ H c K, m_match [rowsD cs, .int (d : Int)] h = .ok (.ref h.length) H ∧ At H h.length (h.length + 1) c cs (d : Int) (Mt.matched cs d 100 cs.length) K ∧ h.length ≤ H.length ∧ ∀ j, j < h.length → H[j]? = h[j]? := by
  have hr : Sm.inR (cs.length : Int) = true := inR_ok (by omega) (by omega)
  have e0 := init_spec (d := d) hcs h
  have a0 : At (h ++ [.ins 2 [some (rowsD cs), some (.int (d : Int)), some (.ref (h.length + 1)), some (.ref (h.length + 2))], .lst (takD (List.replicate cs.length none)), .dK []]) h.length (h.length + 1) (h.length + 2) cs (d : Int) (Mt.matched cs d 100 0) [] :=
    ⟨by simp, by rw [List.getElem?_append_right (by omega)]; simp [Mt.matched], by rw [List.getElem?_append_right (by omega)]; simp [kmD]⟩
  obtain ⟨H, c, K, e3', i1, i2, i3, i4⟩ := match_loop (b := h.length) hcs hcn (F := 100) (by omega) (Nat.le_refl _) (by omega) cs.length 0 _ _ [] (some (rowsD cs)) (some (.int (d : Int))) none (by omega) (by simp) a0
  refine ⟨H, c, K, ?_, i3, i2, fun j hj => by rw [i4 j hj, List.getElem?_append_left hj]⟩
  have tr : trR h (.ok (.ref h.length) H) = .ok (.ref h.length) H := by
    unfold trR
    dsimp only
    rw [if_neg]
    simp
  have z0 : ((0 : Nat) : Int) = 0 := rfl
  rw [z0] at i1
  simp only [rowsD] at i1 e0
  simp [m_match, b_match, rowsD, e0, hr, i1, tr]
end
theorem los_tak (n : Nat) (T : Mt.Tk) : los n (takD T) = true := by
  rw [los_all, List.all_eq_true]
  intro d hd
  unfold takD at hd
  obtain ⟨o, _, rfl⟩ := List.mem_map.mp hd
  cases o <;> rfl
/-- the program's paper -/
def told (cs : List (List Nat)) (d : Nat) : Mt.Tk := Mt.matched cs d 100 cs.length
def tellD (T : Mt.Tk) : D := .tup (takD T)
section
variable {dl : Int} {d : Nat} {qs rs : List Lt}
theorem cands_len (dl : Int) (qs rs : List Lt) : (cands dl qs rs).length = rs.length := by simp [cands]
theorem cands_cn (hl : qs.length ≤ 24) (x : Nat) : (Mt.cn (cands dl qs rs) x).length ≤ 24 := by
  unfold Mt.cn cands
  rw [List.getD_eq_getElem?_getD, List.getElem?_map]
  cases rs[x]? with
  | none => simp
  | some r =>
    have := candRow_len dl qs r
    simp
    omega
theorem attribute_spec (i : In dl (d : Int) qs rs) (h : Hh) : m_attribute [rlD dl (d : Int), ltsD qs, ltsD rs] h = .ok (tellD (told (cands dl qs rs) d)) h := by
  have e1 := cands_spec i h
  obtain ⟨H, c, K, e2, a, hl, pre⟩ := match_spec (cs := cands dl qs rs) (d := d) (by rw [cands_len]; exact i.rl) (cands_cn i.ql) h
  have tk : H.take h.length = h := by
    apply List.ext_getElem?
    intro j
    rw [List.getElem?_take]
    split
    · exact pre j ‹_›
    · rw [List.getElem?_eq_none (by omega)]
  have tr : trR h (.ok (.tup (takD (told (cands dl qs rs) d))) H) = .ok (.tup (takD (told (cands dl qs rs) d))) h := by
    unfold trR
    dsimp only
    rw [tk, if_pos ⟨by rw [lo_tup]; exact los_tak _ _, Kq_self _ _⟩]
  have a2 : atI [D.int dl, D.int (d : Int)] (1 : Int) = some (.int (d : Int)) := by rw [atI_pos (by omega)]; rfl
  have e3 := a.ob
  have e4 := a.tk
  unfold told at tr
  simp only [ltsD, rlD] at e1
  simp [m_attribute, b_attribute, ltsD, rlD, e1, a2, e2, e3, e4, tr, tellD, told]
/-- how many are left out -/
theorem none_count (T : Mt.Tk) : (T.filter fun o => decide (o = none)).length = T.count none := by
  rw [List.count_eq_length_filter]
  congr 1
  apply List.filter_congr
  intro o _
  cases o <;> simp
theorem forged_lc (T : Mt.Tk) (hT : T.length ≤ 1000) (i : Nat) (env : Ev) (hi : i < env.length) (h : Hh) : fz1 h (lcL (gtName i) (tBl (eU opIsN (eV i))) (eV i) [i] h.length none env (takD T) (h ++ [.lst []])) = .ok (.fls ((T.filter fun o => decide (o = none)).map optD)) h := by
  refine fz_lcfM (fun o => decide (o = none)) optD optD T (fun o ho acc => ?_) (fun o ho _ acc => by simp [hi]) (line4k (by omega)) (los_tak _ _)
  cases o <;> simp [hi, optD, natD]
theorem least_forged_spec (i : In dl (d : Int) qs rs) (hT : (told (cands dl qs rs) d).length ≤ 1000) (h : Hh) : m_least_forged [rlD dl (d : Int), ltsD qs, ltsD rs] h = .ok (.int ((told (cands dl qs rs) d).count none : Nat)) h := by
  have e1 := attribute_spec i h
  have lc := forged_lc (told (cands dl qs rs) d) hT 3 [some (rlD dl (d : Int)), some (ltsD qs), some (ltsD rs), none] (by simp) h
  have nc := none_count (told (cands dl qs rs) d)
  simp only [tellD] at e1
  simp [m_least_forged, b_least_forged, e1, lc, nc, trR_ok0]
theorem law_forged_spec (T : Mt.Tk) (hT : T.length ≤ 1000) (h : Hh) : m__law_forged [tellD T] h = .ok (.int (T.count none : Nat)) h := by
  have lc := forged_lc T hT 1 [some (tellD T), none] (by simp) h
  have nc := none_count T
  simp only [tellD] at lc
  simp [m__law_forged, b__law_forged, tellD, lc, nc, trR_ok0]
end
end Lk32
/-! k32: the law's own candidates, greedy paper -/
namespace Lk32
open PySem L2 PyProof.Rows Sm SmPool
theorem rngD_range' (k n : Nat) : rngD (k : Int) n = (List.range' k n).map natD := by
  induction n generalizing k with
  | zero => rfl
  | succ n ih =>
    rw [rngD_succ, List.range'_succ, List.map_cons]
    have := ih (k + 1)
    push_cast at this
    rw [this]
    rfl
section
variable {dl db : Int} {qs rs : List Lt}
theorem lawc_turn (R : Rl dl db) (hq : ∀ l ∈ qs, l.Good) {r : Lt} (gr : r.Good) {H : Hh} {w k : Nat} {acc : List Nat} {e2 e3 e7 : Option D} (hk : k < qs.length) (e : H[w]? = some (.lst (acc.map natD))) (hz : acc.length < sizeLine) :
    ∃ e7', b__law_candidates_2 [some (rlD dl db), some (ltsD qs), e2, e3, some (ltD r), some (.ref w), some (natD k), e7] H = .nx [some (rlD dl db), some (ltsD qs), e2, e3, some (ltD r), some (.ref w), some (natD k), e7'] (H.set w (.lst ((acc ++ if candP dl qs r k = true then [k] else []).map natD))) := by
  obtain ⟨q, eq⟩ : ∃ q, qs[k]? = some q := ⟨_, List.getElem?_eq_getElem hk⟩
  have a1 := ltAt eq
  have gq := hq q (List.mem_of_getElem? eq)
  have s1 := same_op gq gr H
  have e3' := rest_cut q
  have e4' := rest_cut r
  have hm := mul2 R.d0 R.d1
  have a0 : ∀ l : Lt, atI (D.int l.m :: l.rest) (0 : Int) = some (.int l.m) := fun l => by rw [atI_pos (by omega)]; rfl
  have a2 : atI [D.int dl, D.int db] (0 : Int) = some (.int dl) := by rw [atI_pos (by omega)]; rfl
  have hset : H.set w (.lst (acc.map natD)) = H := by
    obtain ⟨h1, h2⟩ := List.getElem?_eq_some_iff.mp e
    rw [← h2, List.set_getElem_self]
  have hz' : (acc.map natD).length < sizeLine := by simpa using hz
  simp only [ltD] at a1
  refine ⟨some (.int (r.m - q.m)), ?_⟩
  have hc : candP dl qs r k = cand dl q r := by simp [candP, eq]
  rw [hc]
  cases hs : sameL q r with
  | false =>
    rw [hs] at s1
    simp [b__law_candidates_2, ltsD, ltD, natD, a1, a0, e3', e4', s1, cand, hs, hset]
  | true =>
    rw [hs] at s1
    by_cases h0 : q.m ≤ r.m
    · by_cases h1 : r.m - q.m ≤ 2 * dl
      · simp [b__law_candidates_2, ltsD, ltD, natD, rlD, a1, a0, a2, e3', e4', s1, cand, hs, hm, h0, h1, e, hz]
      · simp [b__law_candidates_2, ltsD, ltD, natD, rlD, a1, a0, a2, e3', e4', s1, cand, hs, hm, h0, h1]
        exact hset.symm
    · simp [b__law_candidates_2, ltsD, ltD, natD, rlD, a1, a0, a2, e3', e4', s1, cand, hs, hm, h0]
      exact hset.symm
theorem lawc_in (R : Rl dl db) (hq : ∀ l ∈ qs, l.Good) {r : Lt} (gr : r.Good) {w : Nat} {e2 e3 : Option D} : ∀ (n k : Nat) (acc : List Nat) (H : Hh) (e6 e7 : Option D), k + n = qs.length → H[w]? = some (.lst (acc.map natD)) → acc.length + n ≤ 1000 →
    ∃ e6' e7', forL (gtName 6) b__law_candidates_2 none ((List.range' k n).map natD) [some (rlD dl db), some (ltsD qs), e2, e3, some (ltD r), some (.ref w), e6, e7] H =
      .nx [some (rlD dl db), some (ltsD qs), e2, e3, some (ltD r), some (.ref w), e6', e7'] (H.set w (.lst ((acc ++ (List.range' k n).filter (candP dl qs r)).map natD)))
  | 0, k, acc, H, e6, e7, hk, e, hz => by
    refine ⟨e6, e7, ?_⟩
    have hset : H.set w (.lst (acc.map natD)) = H := by
      obtain ⟨h1, h2⟩ := List.getElem?_eq_some_iff.mp e
      rw [← h2, List.set_getElem_self]
    rw [List.range'_zero, List.map_nil, forL_nil (gd := none) trivial]
    simp [hset]
  | n + 1, k, acc, H, e6, e7, hk, e, hz => by
    obtain ⟨e7', t⟩ := lawc_turn (e2 := e2) (e3 := e3) (e7 := e7) R hq gr (k := k) (by omega) e (by rw [sizeLine_eq]; omega)
    have hw := (List.getElem?_eq_some_iff.mp e).1
    obtain ⟨e6', e7'', ih⟩ := lawc_in R hq gr n (k + 1) (acc ++ if candP dl qs r k = true then [k] else []) (H.set w (.lst ((acc ++ if candP dl qs r k = true then [k] else []).map natD))) (some (natD k)) e7' (by omega) (List.getElem?_set_self hw) (by
      rw [List.length_append]
      split <;> simp <;> omega)
    refine ⟨e6', e7'', ?_⟩
    rw [List.range'_succ, List.map_cons, forL_nx (gd := none) trivial rfl t, ih, List.set_set]
    congr 3
    rw [List.filter_cons]
    cases hc : candP dl qs r k <;> simp
theorem lawc_out (R : Rl dl db) (hq : ∀ l ∈ qs, l.Good) (hl : qs.length ≤ 24) {h : Hh} {e2 : Option D} : ∀ (rs : List Lt) (rows : List D) (g : Hh) (e4 e5 e6 e7 : Option D), (∀ l ∈ rs, l.Good) → rows.length + rs.length ≤ 1000 →
    ∃ g' e4' e5' e6' e7', forL (gtName 4) b__law_candidates_1 none (rs.map ltD) [some (rlD dl db), some (ltsD qs), e2, some (.ref h.length), e4, e5, e6, e7] (h ++ .lst rows :: g) =
      .nx [some (rlD dl db), some (ltsD qs), e2, some (.ref h.length), e4', e5', e6', e7'] (h ++ .lst (rows ++ (cands dl qs rs).map rowD) :: g')
  | [], rows, g, e4, e5, e6, e7, _, _ => ⟨g, e4, e5, e6, e7, by rw [List.map_nil, forL_nil (gd := none) trivial]; simp [cands]⟩
  | r :: rs, rows, g, e4, e5, e6, e7, hg, hz => by
    rw [List.length_cons] at hz
    have hr : Sm.inR (qs.length : Int) = true := inR_ok (by omega) (by omega)
    obtain ⟨w, ew⟩ : ∃ w, w = (h ++ O.lst rows :: g).length := ⟨_, rfl⟩
    obtain ⟨e6', e7', t⟩ := lawc_in (w := w) (e2 := e2) (e3 := some (.ref h.length)) R hq (hg r (by simp)) qs.length 0 [] (h ++ O.lst rows :: (g ++ [.lst []])) e6 e7 (by omega) (by rw [ew]; simp) (by simp; omega)
    have e0 : (h ++ O.lst rows :: (g ++ [.lst []])).set w (.lst (([] ++ (List.range' 0 qs.length).filter (candP dl qs r)).map natD)) = h ++ O.lst rows :: (g ++ [.lst ((candRow dl qs r).map natD)]) := by
      rw [ew]
      have : h ++ O.lst rows :: (g ++ [.lst []]) = (h ++ O.lst rows :: g) ++ [.lst []] := by simp
      rw [this, List.set_append_right _ _ (Nat.le_refl _), Nat.sub_self]
      simp [candRow, List.range_eq_range']
    rw [e0] at t
    have hw : (h ++ O.lst rows :: (g ++ [.lst ((candRow dl qs r).map natD)]))[w]? = some (.lst ((candRow dl qs r).map natD)) := by
      have : h ++ O.lst rows :: (g ++ [.lst ((candRow dl qs r).map natD)]) = (h ++ O.lst rows :: g) ++ [.lst ((candRow dl qs r).map natD)] := by simp
      rw [this, ew, List.getElem?_append_right (Nat.le_refl _), Nat.sub_self]
      rfl
    have e1 : ∀ g : Hh, (h ++ O.lst rows :: g)[h.length]? = some (.lst rows) := fun g => by simp
    have e2' : ∀ (g : Hh) (o : O), (h ++ O.lst rows :: g).set h.length o = h ++ o :: g := fun g o => by simp
    have hzz : rows.length < sizeLine := by rw [sizeLine_eq]; omega
    have x0 := rngD_range' 0 qs.length
    have z0 : ((0 : Nat) : Int) = 0 := rfl
    rw [z0] at x0
    rw [← x0] at t
    have st : b__law_candidates_1 [some (rlD dl db), some (ltsD qs), e2, some (.ref h.length), some (ltD r), e5, e6, e7] (h ++ O.lst rows :: g) = .nx [some (rlD dl db), some (ltsD qs), e2, some (.ref h.length), some (ltD r), some (.ref w), e6', e7'] (h ++ O.lst (rows ++ [rowD (candRow dl qs r)]) :: (g ++ [.lst ((candRow dl qs r).map natD)])) := by
      have ea : sSet 5 (eLst []) [some (rlD dl db), some (ltsD qs), e2, some (.ref h.length), some (ltD r), e5, e6, e7] (h ++ O.lst rows :: g) = .nx [some (rlD dl db), some (ltsD qs), e2, some (.ref h.length), some (ltD r), some (.ref w), e6, e7] (h ++ O.lst rows :: (g ++ [.lst []])) := by
        rw [ew]
        simp
      simp only [ltsD] at t ea
      simp [b__law_candidates_1, ltsD, ↓ea, hr, t, e1, e2', hw, hzz, rowD]
    obtain ⟨g', f4, f5, f6, f7, ih⟩ := lawc_out R hq hl (h := h) (e2 := e2) rs (rows ++ [rowD (candRow dl qs r)]) (g ++ [.lst ((candRow dl qs r).map natD)]) (some (ltD r)) (some (.ref w)) e6' e7' (fun l h => hg l (by simp [h])) (by simp; omega)
    refine ⟨g', f4, f5, f6, f7, ?_⟩
    rw [List.map_cons, forL_nx (gd := none) trivial rfl st, ih]
    simp [cands]
theorem law_cands_spec (i : In dl db qs rs) (h : Hh) : m__law_candidates [rlD dl db, ltsD qs, ltsD rs] h = .ok (rowsD (cands dl qs rs)) h := by
  obtain ⟨g', f4, f5, f6, f7, lp⟩ := lawc_out i.r i.qg i.ql (h := h) (e2 := some (ltsD rs)) rs [] [] none none none none i.rg (by have := i.rl; simp; omega)
  simp only [ltsD] at lp
  simp [m__law_candidates, b__law_candidates, ltsD, lp, trR_app, los_rows, rowsD]
end
/-! ### the rows are rows of numbers -/
theorem tm_row {c : List Nat} (h : c.length ≤ 4096) : tm 2 (rowD c) = true := tm_mkT (k := 1) (fun d hd => by
  obtain ⟨k, _, rfl⟩ := List.mem_map.mp hd
  rfl) (by simpa using h)
theorem are_rows_spec {cs : List (List Nat)} (hl : cs.length ≤ 24) (hc : ∀ c ∈ cs, c.length ≤ 24) (h : Hh) : m__law_are_rows [rowsD cs, rowsD cs] h = .ok (.bl true) h := by
  have ht : tm 3 (rowsD cs) = true := tm_mkT (k := 2) (fun d hd => by
    obtain ⟨c, hc', rfl⟩ := List.mem_map.mp hd
    exact tm_row (by have := hc c hc'; omega)) (by simp; omega)
  have o1 : okD 60 (rowsD cs) = true := okD_mono (by omega) (tm_ok ht)
  have hrefl : ∀ c : List Nat, eqds (c.map natD) (c.map natD) = true := by
    intro c
    induction c with
    | nil => rfl
    | cons x c ih => simp only [List.map_cons, eqds, ih, natD, eqd]; simp
  have hrefl2 : ∀ cs : List (List Nat), eqds (cs.map rowD) (cs.map rowD) = true := by
    intro cs
    induction cs with
    | nil => rfl
    | cons c cs ih => simp only [List.map_cons, eqds, ih, rowD, eqd, hrefl c, Bool.and_self]
  have e1 : opNe (rowsD cs) (rowsD cs) h = some (.bl false, h) := by
    rw [opNe_ok h o1 o1]
    simp [rowsD, eqd, hrefl2]
  have inner : ∀ (c : List Nat) (e0 e1 e2 e3 : Option D), ∃ e3', forL (gtName 3) b__law_are_rows_2 none (c.map natD) [e0, e1, e2, e3] h = .nx [e0, e1, e2, e3'] h := by
    intro c
    induction c with
    | nil => intro e0 e1 e2 e3; exact ⟨e3, by rw [List.map_nil, forL_nil (gd := none) trivial]⟩
    | cons x c ih =>
      intro e0 e1 e2 e3
      obtain ⟨e3', q⟩ := ih e0 e1 e2 (some (natD x))
      refine ⟨e3', ?_⟩
      have st : b__law_are_rows_2 [e0, e1, e2, some (natD x)] h = .nx [e0, e1, e2, some (natD x)] h := by simp [b__law_are_rows_2, natD]
      rw [List.map_cons, forL_nx (gd := none) trivial rfl st, q]
  have outer : ∀ (cs : List (List Nat)) (e0 e1 e2 e3 : Option D), ∃ e2' e3', forL (gtName 2) b__law_are_rows_1 none (cs.map rowD) [e0, e1, e2, e3] h = .nx [e0, e1, e2', e3'] h := by
    intro cs
    induction cs with
    | nil => intro e0 e1 e2 e3; exact ⟨e2, e3, by rw [List.map_nil, forL_nil (gd := none) trivial]⟩
    | cons c cs ih =>
      intro e0 e1 e2 e3
      obtain ⟨e3a, q1⟩ := inner c e0 e1 (some (rowD c)) e3
      obtain ⟨e2', e3', q⟩ := ih e0 e1 (some (rowD c)) e3a
      refine ⟨e2', e3', ?_⟩
      have st : b__law_are_rows_1 [e0, e1, some (rowD c), e3] h = .nx [e0, e1, some (rowD c), e3a] h := by
        simp only [rowD] at q1
        simp [b__law_are_rows_1, rowD, q1]
      rw [List.map_cons, forL_nx (gd := none) trivial rfl st, q]
  obtain ⟨e2', e3', lp⟩ := outer cs (some (rowsD cs)) (some (rowsD cs)) none none
  simp only [rowsD] at e1 lp
  simp [m__law_are_rows, b__law_are_rows, rowsD, e1, lp, trR_ok0]
end Lk32
/-! k32: the law's greedy paper -/
namespace Lk32
open PySem L2 PyProof.Rows Sm SmPool
def u0 (tk : Int) (q : Nat) : Nat := if (q : Int) = tk then 1 else 0
def crow (cs : List (List Nat)) (lo : Int) (k : Nat) : List Nat := if (k : Int) = lo then [] else Mt.cn cs k
def room (d : Nat) (tk : Int) (T : Mt.Tk) (q : Nat) : Bool := decide (u0 tk q + T.count (some q) < d)
def gr (cs : List (List Nat)) (d : Nat) (lo tk : Int) : Nat → Mt.Tk
  | 0 => []
  | n + 1 => gr cs d lo tk n ++ [(crow cs lo n).find? (room d tk (gr cs d lo tk n))]
theorem gr_len (cs : List (List Nat)) (d : Nat) (lo tk : Int) : ∀ n, (gr cs d lo tk n).length = n
  | 0 => rfl
  | n + 1 => by simp [gr, gr_len cs d lo tk n]
theorem gr_greedy (cs : List (List Nat)) (d : Nat) : ∀ n, gr cs d (-1) (-1) n = Mt.greedy cs d n
  | 0 => rfl
  | n + 1 => by
    rw [gr, Mt.greedy, gr_greedy cs d n]
    have h1 : crow cs (-1) n = Mt.cn cs n := by
      unfold crow
      rw [if_neg (by omega)]
    have h2 : room d (-1) (Mt.greedy cs d n) = fun q => decide ((Mt.greedy cs d n).count (some q) < d) := by
      funext q
      unfold room u0
      rw [if_neg (by omega)]
      simp
    rw [h1, h2]
    rfl
/-- the numbers of uses -/
def usedL (many : Nat) (tk : Int) (T : Mt.Tk) : List D := (List.range many).map fun q => .int ((u0 tk q + T.count (some q) : Nat) : Int)
theorem used_at {many : Nat} {tk : Int} {T : Mt.Tk} {q : Nat} (h : q < many) : atI (usedL many tk T) (q : Int) = some (.int ((u0 tk q + T.count (some q) : Nat) : Int)) := by
  rw [atI_pos (by omega)]
  simp [usedL, h]
theorem used_set {many : Nat} {tk : Int} {T : Mt.Tk} {q : Nat} (h : q < many) : (usedL many tk T).set q (.int ((u0 tk q + T.count (some q) : Nat) + 1 : Int)) = usedL many tk (T ++ [some q]) := by
  apply List.ext_getElem?
  intro i
  by_cases e : q = i
  · subst e
    rw [List.getElem?_set_self (by simpa [usedL] using h)]
    simp [usedL, h, List.count_append]
    omega
  · rw [List.getElem?_set_ne e]
    by_cases hi : i < many
    · have : ¬ (q = i) := e
      simp [usedL, hi, List.count_append, this]
    · rw [List.getElem?_eq_none (by simp [usedL]; omega), List.getElem?_eq_none (by simp [usedL]; omega)]
theorem used_none {many : Nat} {tk : Int} {T : Mt.Tk} : usedL many tk (T ++ [none]) = usedL many tk T := by
  unfold usedL
  apply List.map_congr_left
  intro q _
  simp [List.count_append]
section
variable {many d : Nat} {tk lo : Int}
theorem greedy_in {T : Mt.Tk} {H : Hh} {u : Nat} {e0 e2 e3 e4 e6 e7 : Option D} (hu : H[u]? = some (.lst (usedL many tk T))) : ∀ (l : List Nat) (o : Option Nat) (e9 : Option D), (∀ q ∈ l, q < many) →
    ∃ e9', forL (gtName 9) b__law_greedy_2 none (l.map natD) [e0, some (.int (d : Int)), e2, e3, e4, some (.ref u), e6, e7, some (optD o), e9] H =
      .nx [e0, some (.int (d : Int)), e2, e3, e4, some (.ref u), e6, e7, some (optD (match o with | some k => some k | none => l.find? (room d tk T))), e9'] H
  | [], o, e9, _ => ⟨e9, by
    rw [List.map_nil, forL_nil (gd := none) trivial]
    cases o <;> rfl⟩
  | q :: l, o, e9, hl => by
    have a1 := used_at (tk := tk) (T := T) (hl q (by simp))
    cases o with
    | some k =>
      obtain ⟨e9', ih⟩ := greedy_in hu l (some k) (some (natD q)) (fun q h => hl q (by simp [h]))
      refine ⟨e9', ?_⟩
      have st : b__law_greedy_2 [e0, some (.int (d : Int)), e2, e3, e4, some (.ref u), e6, e7, some (optD (some k)), some (natD q)] H = .nx [e0, some (.int (d : Int)), e2, e3, e4, some (.ref u), e6, e7, some (optD (some k)), some (natD q)] H := by
        simp [b__law_greedy_2, optD, natD]
      rw [List.map_cons, forL_nx (gd := none) trivial rfl st, ih]
    | none =>
      cases hp : room d tk T q with
      | true =>
        obtain ⟨e9', ih⟩ := greedy_in hu l (some q) (some (natD q)) (fun q h => hl q (by simp [h]))
        refine ⟨e9', ?_⟩
        have hp' : u0 tk q + T.count (some q) < d := by simpa [room] using hp
        obtain ⟨v, ev⟩ : ∃ v : Int, v = ((u0 tk q + T.count (some q) : Nat) : Int) := ⟨_, rfl⟩
        have hp2 : v < (d : Int) := by omega
        rw [← ev] at a1
        have st : b__law_greedy_2 [e0, some (.int (d : Int)), e2, e3, e4, some (.ref u), e6, e7, some (optD none), some (natD q)] H = .nx [e0, some (.int (d : Int)), e2, e3, e4, some (.ref u), e6, e7, some (optD (some q)), some (natD q)] H := by
          simp [b__law_greedy_2, optD, natD, hu, a1, hp2]
        rw [List.map_cons, forL_nx (gd := none) trivial rfl st, ih]
        simp [hp]
      | false =>
        obtain ⟨e9', ih⟩ := greedy_in hu l none (some (natD q)) (fun q h => hl q (by simp [h]))
        refine ⟨e9', ?_⟩
        have hp' : ¬ u0 tk q + T.count (some q) < d := by simpa [room] using hp
        obtain ⟨v, ev⟩ : ∃ v : Int, v = ((u0 tk q + T.count (some q) : Nat) : Int) := ⟨_, rfl⟩
        have hp2 : ¬ v < (d : Int) := by omega
        rw [← ev] at a1
        have st : b__law_greedy_2 [e0, some (.int (d : Int)), e2, e3, e4, some (.ref u), e6, e7, some (optD none), some (natD q)] H = .nx [e0, some (.int (d : Int)), e2, e3, e4, some (.ref u), e6, e7, some (optD none), some (natD q)] H := by
          simp [b__law_greedy_2, optD, natD, hu, a1, hp2]
        rw [List.map_cons, forL_nx (gd := none) trivial rfl st, ih]
        simp [hp]
theorem greedy_turn {cs : List (List Nat)} (hcs : ∀ x, ∀ q ∈ Mt.cn cs x, q < many) (hm : many ≤ 1000) {h : Hh} {T : Mt.Tk} {k : Nat} (hk : k < cs.length) (hT : T.length < 1000) {e2 e4 e8 e9 : Option D} :
    ∃ e8' e9', b__law_greedy_1 [some (rowsD cs), some (.int (d : Int)), e2, some (.int lo), e4, some (.ref h.length), some (.ref (h.length + 1)), some (.int (k : Int)), e8, e9] (h ++ [.lst (usedL many tk T), .lst (takD T)]) =
      .nx [some (rowsD cs), some (.int (d : Int)), e2, some (.int lo), e4, some (.ref h.length), some (.ref (h.length + 1)), some (.int (k : Int)), e8', e9'] (h ++ [.lst (usedL many tk (T ++ [(crow cs lo k).find? (room d tk T)])), .lst (takD (T ++ [(crow cs lo k).find? (room d tk T)]))]) := by
  obtain ⟨o, eo⟩ : ∃ o, o = (crow cs lo k).find? (room d tk T) := ⟨_, rfl⟩
  have hlt : (takD T).length < sizeLine := by simp [takD]; rw [sizeLine_eq]; omega
  obtain ⟨H, eH⟩ : ∃ H : Hh, H = h ++ [.lst (usedL many tk T), .lst (takD T)] := ⟨_, rfl⟩
  have hu : H[h.length]? = some (.lst (usedL many tk T)) := by rw [eH]; simp
  have pick : ∃ e9', (sIf (tBl (eB opNe (eV 7) (eV 3))) (sFor (mSeqS (eB opIx (eV 0) (eV 7))) (gtName 9) b__law_greedy_2) sSkip) [some (rowsD cs), some (.int (d : Int)), e2, some (.int lo), e4, some (.ref h.length), some (.ref (h.length + 1)), some (.int (k : Int)), some .non, e9] H =
      .nx [some (rowsD cs), some (.int (d : Int)), e2, some (.int lo), e4, some (.ref h.length), some (.ref (h.length + 1)), some (.int (k : Int)), some (optD o), e9'] H := by
    by_cases z : (k : Int) = lo
    · refine ⟨e9, ?_⟩
      have : o = none := by rw [eo]; simp [crow, z]
      rw [this]
      subst z
      simp [optD]
    · obtain ⟨e9', g⟩ := greedy_in (d := d) (e0 := some (rowsD cs)) (e2 := e2) (e3 := some (.int lo)) (e4 := e4) (e6 := some (.ref (h.length + 1))) (e7 := some (.int (k : Int))) hu (Mt.cn cs k) none e9 (fun q hq => hcs k q hq)
      refine ⟨e9', ?_⟩
      have hc := atRows hk
      have : o = (Mt.cn cs k).find? (room d tk T) := by rw [eo]; simp [crow, z]
      rw [this]
      simp only [rowsD, optD] at g ⊢
      simp [z, hc, rowD, g, optD]
  obtain ⟨e9', pick⟩ := pick
  rw [← eo]
  rw [eH] at pick
  have e1 : sSet 8 (eC .non) [some (rowsD cs), some (.int (d : Int)), e2, some (.int lo), e4, some (.ref h.length), some (.ref (h.length + 1)), some (.int (k : Int)), e8, e9] (h ++ [.lst (usedL many tk T), .lst (takD T)]) = .nx [some (rowsD cs), some (.int (d : Int)), e2, some (.int lo), e4, some (.ref h.length), some (.ref (h.length + 1)), some (.int (k : Int)), some .non, e9] (h ++ [.lst (usedL many tk T), .lst (takD T)]) := by simp
  refine ⟨some (optD o), e9', ?_⟩
  have s2 : ∀ a b c : O, (h ++ [a, b]).set (h.length + 1) c = h ++ [a, c] := fun a b c => by
    rw [List.set_append_right _ _ (by omega)]
    simp
  obtain ⟨U, eUU⟩ : ∃ U : List D, U = usedL many tk (T ++ [o]) := ⟨_, rfl⟩
  have e3 : sIf (tBl (eU opNotN (eV 8))) (sSetIx (eV 5) (eV 8) (eB opAdd (eB opIx (eV 5) (eV 8)) (eC (.int 1)))) sSkip [some (rowsD cs), some (.int (d : Int)), e2, some (.int lo), e4, some (.ref h.length), some (.ref (h.length + 1)), some (.int (k : Int)), some (optD o), e9'] (h ++ [.lst (usedL many tk T), .lst (takD T)]) =
      .nx [some (rowsD cs), some (.int (d : Int)), e2, some (.int lo), e4, some (.ref h.length), some (.ref (h.length + 1)), some (.int (k : Int)), some (optD o), e9'] (h ++ [.lst U, .lst (takD T)]) := by
    cases o with
    | none =>
      rw [eUU, used_none]
      simp [optD]
    | some q =>
      have hq : q < many := by
        have hm : q ∈ crow cs lo k := List.mem_of_find?_eq_some eo.symm
        unfold crow at hm
        split at hm
        · simp at hm
        · exact hcs k q hm
      have a1 := used_at (tk := tk) (T := T) hq
      have us := used_set (tk := tk) (T := T) hq
      have ix : ixN (usedL many tk T).length (q : Int) = some q := ixN_nat (by simpa [usedL] using hq)
      rw [← eUU] at us
      obtain ⟨v, ev⟩ : ∃ v : Int, v = ((u0 tk q + T.count (some q) : Nat) : Int) := ⟨_, rfl⟩
      rw [← ev] at a1 us
      simp [optD, natD, a1, ix, us]
  have e4' : sExpr (eMt opAppend (eV 6) [(eV 8)]) [some (rowsD cs), some (.int (d : Int)), e2, some (.int lo), e4, some (.ref h.length), some (.ref (h.length + 1)), some (.int (k : Int)), some (optD o), e9'] (h ++ [.lst U, .lst (takD T)]) =
      .nx [some (rowsD cs), some (.int (d : Int)), e2, some (.int lo), e4, some (.ref h.length), some (.ref (h.length + 1)), some (.int (k : Int)), some (optD o), e9'] (h ++ [.lst U, .lst (takD (T ++ [o]))]) := by
    have : takD (T ++ [o]) = takD T ++ [optD o] := by simp [takD]
    rw [this]
    simp [hlt, s2]
  rw [← eUU]
  simp [b__law_greedy_1, ↓e1, ↓pick, ↓e3, ↓e4']
theorem greedy_loop {cs : List (List Nat)} (hcs : ∀ x, ∀ q ∈ Mt.cn cs x, q < many) (hm : many ≤ 1000) (hl : cs.length ≤ 100) {h : Hh} {e2 e4 : Option D} : ∀ (n k : Nat) (e7 e8 e9 : Option D), k + n = cs.length →
    ∃ e7' e8' e9', forL (gtName 7) b__law_greedy_1 none (rngD (k : Int) n) [some (rowsD cs), some (.int (d : Int)), e2, some (.int lo), e4, some (.ref h.length), some (.ref (h.length + 1)), e7, e8, e9] (h ++ [.lst (usedL many tk (gr cs d lo tk k)), .lst (takD (gr cs d lo tk k))]) =
      .nx [some (rowsD cs), some (.int (d : Int)), e2, some (.int lo), e4, some (.ref h.length), some (.ref (h.length + 1)), e7', e8', e9'] (h ++ [.lst (usedL many tk (gr cs d lo tk cs.length)), .lst (takD (gr cs d lo tk cs.length))])
  | 0, k, e7, e8, e9, hk => by
    have : k = cs.length := by omega
    subst this
    exact ⟨e7, e8, e9, by rw [rngD_nil, forL_nil (gd := none) trivial]⟩
  | n + 1, k, e7, e8, e9, hk => by
    obtain ⟨e8', e9', t⟩ := greedy_turn (d := d) (lo := lo) (tk := tk) hcs hm (h := h) (T := gr cs d lo tk k) (k := k) (by omega) (by rw [gr_len]; omega) (e2 := e2) (e4 := e4) (e8 := e8) (e9 := e9)
    obtain ⟨f7, f8, f9, ih⟩ := greedy_loop hcs hm hl (h := h) (e2 := e2) (e4 := e4) n (k + 1) (some (.int (k : Int))) e8' e9' (by omega)
    refine ⟨f7, f8, f9, ?_⟩
    rw [rngD_succ, forL_nx (gd := none) trivial rfl t]
    exact ih
theorem greedy_spec {cs : List (List Nat)} (hcs : ∀ x, ∀ q ∈ Mt.cn cs x, q < many) (hm : many ≤ 1000) (hl : cs.length ≤ 100) (h : Hh) : m__law_greedy [rowsD cs, .int (d : Int), .int (many : Int), .int lo, .int tk] h = .ok (tellD (gr cs d lo tk cs.length)) h := by
  have hr : Sm.inR (cs.length : Int) = true := inR_ok (by omega) (by omega)
  have hr2 : Sm.inR (many : Int) = true := inR_ok (by omega) (by omega)
  have lc := lcL_pure (g := gtName 7) (t := tYesM) (m := eN opInt [(eB opEq (eV 7) (eV 4))]) (vs := [7]) (gd := none) (env := [some (rowsD cs), some (.int (d : Int)), some (.int (many : Int)), some (.int lo), some (.int tk), none, none, none, none, none]) h
    (fun x => match x with | .int k => .int (if k = tk then 1 else 0) | _ => .non) (fun _ => trivial) (rngD 0 many) [] (fun x hx acc => by
      rw [rngD_range, List.mem_map] at hx
      obtain ⟨k, _, rfl⟩ := hx
      refine ⟨_, rfl, rfl, ?_⟩
      by_cases z : (k : Int) = tk <;> simp [z]) (by
      rw [rngD_range]
      simp
      exact line4k (by omega))
  have em : (rngD 0 many).map (fun x => match x with | .int k => D.int (if k = tk then 1 else 0) | _ => .non) = usedL many tk (gr cs d lo tk 0) := by
    rw [rngD_range, List.map_map]
    unfold usedL
    apply List.map_congr_left
    intro k _
    simp only [Function.comp, gr, u0]
    by_cases z : (k : Int) = tk <;> simp [z]
  rw [em, List.nil_append] at lc
  obtain ⟨e7', e8', e9', lp⟩ := greedy_loop (d := d) (lo := lo) (tk := tk) hcs hm hl (h := h) (e2 := some (.int (many : Int))) (e4 := some (.int tk)) cs.length 0 none none none (by omega)
  have z0 : ((0 : Nat) : Int) = 0 := rfl
  have t0 : takD (gr cs d lo tk 0) = [] := rfl
  rw [z0, t0] at lp
  simp only [rowsD] at lc lp
  simp [m__law_greedy, b__law_greedy, rowsD, hr, hr2, lc, lp, trR_app, los_tak, tellD]
end
end Lk32
/-! k32: papers judged -/
namespace Lk32
open PySem L2 PyProof.Rows Sm SmPool
def cntE (ps : List D) (x : D) : Nat := (ps.filter fun y => eqd y x).length
def isNon : D → Bool
  | .non => true
  | _ => false
def okA (c : List Nat) : D → Bool
  | .int i => decide (i ∈ c.map fun (k : Nat) => (k : Int))
  | _ => false
def okL (d : Nat) (c : List Nat) (ps : List D) (x : D) : Bool := isNon x || (okA c x && decide (cntE ps x ≤ d))
theorem notin_int (i : Int) (R : List Nat) (g : Hh) : opNin (.int i) (rowD R) g = some (.bl (!okA R (.int i)), g) := by
  have h1 : partsOf (rowD R) g = some (R.map natD) := rfl
  have h2 : opInB (.int i) (rowD R) g = some (okA R (.int i)) := by
    have this := toVs_nat R
    have h3 : inV (V.int i) (R.map fun (k : Nat) => V.int (k : Int)) = okA R (.int i) := by
      unfold inV okA
      rw [List.any_map, Bool.eq_iff_iff, List.any_eq_true, decide_eq_true_eq, List.mem_map]
      constructor
      · rintro ⟨k, hk, e⟩
        simp [eqV] at e
        exact ⟨k, hk, e⟩
      · rintro ⟨k, hk, rfl⟩
        exact ⟨k, hk, by simp [eqV]⟩
    unfold rowD at h1
    simp only [opInB, natD, toV, rowD] at h1 this h3 ⊢
    simp only [h1, this, h3]
  unfold opNin
  rw [h2]
  rfl
theorem cnt_lc {ps : List D} {x : D} (hps : ∀ y ∈ ps, tm 3 y = true) (hx : tm 3 x = true) (hl : ps.length ≤ 1000) (i : Nat) (m : M) (env : Ev) (h : Hh) (hi : i < env.length) (hm : ∀ y ∈ ps, ∀ acc, m ((env.set i none).set i (some y)) (h ++ [.lst acc]) = .ok x (h ++ [.lst acc])) :
    fz1 h (lcL (gtName i) (tBl (eB opEq (eV i) m)) (eV i) [i] h.length none env ps (h ++ [.lst []])) = .ok (.fls (ps.filter fun y => eqd y x)) h := by
  have := fz_lcf (i := i) (t := tBl (eB opEq (eV i) m)) (m := eV i) (env := env) (h := h) (fun y => eqd y x) (fun y => y) ps (fun y hy acc => by
    have e := opEq_ok (h ++ [.lst acc]) (okD_mono (by omega) (tm_ok (hps y hy))) (okD_mono (by omega) (tm_ok hx))
    have e2 := hm y hy acc
    rw [List.set_set] at e2
    simp [hi, e2, e]) (fun y hy _ acc => by simp [hi]) (line4k (by omega)) (by
    rw [los_all, List.all_eq_true]
    intro y hy
    simp only [List.map_id'] at hy
    exact tm_lo (hps y (List.mem_filter.mp hy).1))
  simpa using this
theorem atP {ps : List D} {k : Nat} {x : D} (e : ps[k]? = some x) : atI ps (k : Int) = some x := by
  rw [atI_pos (by omega)]
  simpa using e
section
variable {cs : List (List Nat)} {d : Nat} {ps : List D}
theorem law_paper_turn (hl : ps.length ≤ 1000) (ht : ∀ y ∈ ps, tm 3 y = true) {k : Nat} {x : D} (ex : ps[k]? = some x) (hk : k < cs.length) (h : Hh) (e4 : Option D) :
    b__law_is_paper_1 [some (rowsD cs), some (.int (d : Int)), some (.tup ps), some (.int (k : Int)), e4] h = if okL d (Mt.cn cs k) ps x = true then .nx [some (rowsD cs), some (.int (d : Int)), some (.tup ps), some (.int (k : Int)), e4] h else .rt (.bl false) h := by
  have a1 := atP ex
  have a2 := atRows hk
  have hx := ht x (List.mem_of_getElem? ex)
  have lc := cnt_lc ht hx hl 4 (eB opIx (eV 2) (eV 3)) [some (rowsD cs), some (.int (d : Int)), some (.tup ps), some (.int (k : Int)), e4] h (by simp) (fun y hy acc => by simp [a1])
  cases x with
  | non => simp [b__law_is_paper_1, a1, okL, isNon]
  | ref n => exact absurd hx tm_ref
  | int i =>
    have n1 := notin_int i (Mt.cn cs k) h
    simp only [rowsD] at lc ⊢
    cases hA : okA (Mt.cn cs k) (.int i) with
    | false =>
      rw [hA] at n1
      simp [b__law_is_paper_1, a1, a2, n1, okL, isNon, hA]
    | true =>
      rw [hA] at n1
      by_cases hc : cntE ps (.int i) ≤ d
      · have hc' : ¬ (d : Int) < ((ps.filter fun y => eqd y (.int i)).length : Nat) := by unfold cntE at hc; omega
        have hc2 : ¬ d < (ps.filter fun y => eqd y (.int i)).length := by unfold cntE at hc; omega
        simp [b__law_is_paper_1, a1, a2, n1, lc, okL, isNon, hA, hc, hc2]
      · have hc2 : d < (ps.filter fun y => eqd y (.int i)).length := by unfold cntE at hc; omega
        simp [b__law_is_paper_1, a1, a2, n1, lc, okL, isNon, hA, hc, hc2]
  | bl b => simp [b__law_is_paper_1, a1, okL, isNon, okA]
  | str s => simp [b__law_is_paper_1, a1, okL, isNon, okA]
  | tup ds => simp [b__law_is_paper_1, a1, okL, isNon, okA]
  | fls ds => simp [b__law_is_paper_1, a1, okL, isNon, okA]
def paperL (cs : List (List Nat)) (d : Nat) : D → Bool
  | .tup ps => decide (ps.length = cs.length) && (List.range ps.length).all fun k => okL d (Mt.cn cs k) ps (ps.getD k .non)
  | _ => false
theorem law_paper_spec (hcs : cs.length ≤ 24) {p : D} (hp : tm 4 p = true) (h : Hh) : m__law_is_paper [rowsD cs, .int (d : Int), p] h = .ok (.bl (paperL cs d p)) h := by
  cases p with
  | tup ps =>
    obtain ⟨h1, h2⟩ := tm_tup hp
    by_cases hl : ps.length = cs.length
    · have hr : Sm.inR (ps.length : Int) = true := inR_ok (by omega) (by omega)
      have hr2 : Sm.inR (cs.length : Int) = true := inR_ok (by omega) (by omega)
      have lp := forL_allM (i := 3) (body := b__law_is_paper_1) (env := [some (rowsD cs), some (.int (d : Int)), some (.tup ps), none, none]) (h := h) (fun k : Nat => D.int (k : Int)) (fun k => okL d (Mt.cn cs k) ps (ps.getD k .non)) (.bl false) (List.range ps.length) (fun k hk => by
        have hk' : k < ps.length := by simpa using hk
        have ex : ps[k]? = some (ps.getD k .non) := by simp [hk']
        exact law_paper_turn (by omega) (fun y hy => tms_mem h1 hy) ex (by omega) h none)
      rw [← rngD_range] at lp
      have hneI : opNe (.int (ps.length : Int)) (.int (cs.length : Int)) h = some (.bl false, h) := by rw [hl]; simp
      cases hall : (List.range ps.length).all (fun k => okL d (Mt.cn cs k) ps (ps.getD k .non)) with
      | true =>
        obtain ⟨e, q⟩ := lp.1 hall
        simp only [rowsD] at q
        have : paperL cs d (.tup ps) = true := by simp only [paperL, hall, Bool.and_true]; simpa using hl
        rw [this]
        simp [m__law_is_paper, b__law_is_paper, rowsD, hneI, hr, q, trR_ok0]
      | false =>
        have q := lp.2 hall
        simp only [rowsD] at q
        have : paperL cs d (.tup ps) = false := by simp only [paperL, hall, Bool.and_false]
        rw [this]
        simp [m__law_is_paper, b__law_is_paper, rowsD, hneI, hr, q, trR_ok0]
    · have hneI : opNe (.int (ps.length : Int)) (.int (cs.length : Int)) h = some (.bl true, h) := by
        have : ¬ ((ps.length : Int) = cs.length) := by omega
        simp [this]
      have : paperL cs d (.tup ps) = false := by simp [paperL, hl]
      rw [this]
      simp [m__law_is_paper, b__law_is_paper, rowsD, hneI, trR_ok0]
  | ref n => exact absurd hp tm_ref
  | _ => simp [m__law_is_paper, b__law_is_paper, trR_ok0, paperL]
end
end Lk32
/-! k32: papers judged by the program, and as the law judges -/
namespace Lk32
open PySem L2 PyProof.Rows Sm SmPool
def okP (d : Nat) (c : List Nat) (ps : List D) (k : Nat) (x : D) : Bool := isNon x || (okA c x && decide (cntE (ps.take (k + 1)) x ≤ d))
theorem eqd_int {y : D} {i : Int} (hy : isI y = true) : eqd y (.int i) = true ↔ y = .int i := by
  cases y <;> simp [isI] at hy
  simp [eqd]
theorem okA_isI {c : List Nat} {x : D} (h : okA c x = true) : isI x = true := by
  cases x <;> simp [okA] at h <;> rfl
section
variable {ps : List D} {d : Nat} {c : Nat → List Nat}
theorem cntE_succ (x : D) {n : Nat} (hn : n < ps.length) : cntE (ps.take (n + 1)) x = cntE (ps.take n) x + if eqd ps[n] x = true then 1 else 0 := by
  unfold cntE
  rw [List.take_succ_eq_append_getElem hn, List.filter_append, List.length_append]
  congr 1
  cases h : eqd ps[n] x <;> simp [h]
theorem last_at (x : D) : ∀ n, n ≤ ps.length → 0 < cntE (ps.take n) x → ∃ j, ∃ hj : j < ps.length, j < n ∧ eqd ps[j] x = true ∧ cntE (ps.take (j + 1)) x = cntE (ps.take n) x
  | 0, _, h => by simp [cntE] at h
  | n + 1, hn, h => by
    have e := cntE_succ (ps := ps) x (n := n) (by omega)
    by_cases q : eqd ps[n] x = true
    · exact ⟨n, by omega, by omega, q, rfl⟩
    · rw [if_neg q, Nat.add_zero] at e
      obtain ⟨j, hj, h1, h2, h3⟩ := last_at x n (by omega) (by omega)
      exact ⟨j, hj, by omega, h2, by omega⟩
theorem cntE_take (x : D) (n : Nat) : cntE (ps.take n) x ≤ cntE ps x := (List.Sublist.filter _ (List.take_sublist n ps)).length_le
theorem getD_at {k : Nat} (h : k < ps.length) : ps.getD k .non = ps[k] := by simp [h]
/-- judged by the counts so far, or by the counts at all -/
theorem same_all : ((List.range ps.length).all fun k => okP d (c k) ps k (ps.getD k .non)) = (List.range ps.length).all fun k => okL d (c k) ps (ps.getD k .non) := by
  rw [Bool.eq_iff_iff, List.all_eq_true, List.all_eq_true]
  constructor
  · intro h k hk
    have hk' : k < ps.length := by simpa using hk
    have hP := h k hk
    rw [getD_at hk'] at hP ⊢
    unfold okL
    unfold okP at hP
    cases hn : isNon ps[k] with
    | true => rfl
    | false =>
      rw [hn] at hP
      simp only [Bool.false_or, Bool.and_eq_true, decide_eq_true_eq] at hP ⊢
      refine ⟨hP.1, ?_⟩
      have hi := okA_isI hP.1
      obtain ⟨i, hxi⟩ : ∃ i, ps[k] = .int i := by
        cases hx : ps[k] <;> rw [hx] at hi <;> simp [isI] at hi
        exact ⟨_, rfl⟩
      rw [hxi]
      by_cases h0 : 0 < cntE ps (.int i)
      · have ht : ps.take ps.length = ps := List.take_of_length_le (Nat.le_refl _)
        obtain ⟨j, hj, h1, h2, h3⟩ := last_at (ps := ps) (.int i) ps.length (Nat.le_refl _) (by rw [ht]; exact h0)
        rw [ht] at h3
        have hPj := h j (by simpa using hj)
        rw [getD_at hj] at hPj
        unfold okP at hPj
        have hjn : isNon ps[j] = false := by
          cases hx : ps[j] <;> rw [hx] at h2 <;> simp [eqd] at h2 <;> rfl
        rw [hjn] at hPj
        simp only [Bool.false_or, Bool.and_eq_true, decide_eq_true_eq] at hPj
        have := (eqd_int (okA_isI hPj.1)).mp h2
        rw [this, h3] at hPj
        exact hPj.2
      · omega
  · intro h k hk
    have hk' : k < ps.length := by simpa using hk
    have hL := h k hk
    unfold okP
    unfold okL at hL
    cases hn : isNon (ps.getD k .non) with
    | true => rfl
    | false =>
      rw [hn] at hL
      simp only [Bool.false_or, Bool.and_eq_true, decide_eq_true_eq] at hL ⊢
      exact ⟨hL.1, Nat.le_trans (cntE_take _ _) hL.2⟩
end
section
variable {dl : Int} {d : Nat} {qs rs : List Lt} {ps : List D}
theorem cands_lt (dl : Int) (qs rs : List Lt) (x : Nat) : ∀ q ∈ Mt.cn (cands dl qs rs) x, q < qs.length := by
  intro q hq
  unfold Mt.cn cands at hq
  rw [List.getD_eq_getElem?_getD, List.getElem?_map] at hq
  cases e : rs[x]? with
  | none => rw [e] at hq; simp at hq
  | some r =>
    rw [e] at hq
    simp [candRow] at hq
    exact hq.1
theorem attr_turn (R : Rl dl (d : Int)) (hq : qs.length ≤ 24) (hl : ps.length ≤ 1000) (ht : ∀ y ∈ ps, tm 3 y = true) {cs : List (List Nat)} (hcl : ∀ x, ∀ q ∈ Mt.cn cs x, q < qs.length) {k : Nat} {x : D} (ex : ps[k]? = some x) (hk : k < cs.length) (h : Hh) (e2 e6 : Option D) :
    b_is_attribution_1 [some (rlD dl (d : Int)), some (ltsD qs), e2, some (.tup ps), some (rowsD cs), some (.int (k : Int)), e6] h = if okP d (Mt.cn cs k) ps k x = true then .nx [some (rlD dl (d : Int)), some (ltsD qs), e2, some (.tup ps), some (rowsD cs), some (.int (k : Int)), e6] h else .rt (.bl false) h := by
  have a1 := atP ex
  have a2 := atRows hk
  have hx := ht x (List.mem_of_getElem? ex)
  have ct : cutD ps none (some ((k : Int) + 1)) = ps.take (k + 1) := by
    have := cutD_to (xs := ps) (i := (k : Int) + 1) (by omega)
    rw [this]
    congr 1
  have lc := cnt_lc (ps := ps.take (k + 1)) (fun y hy => ht y (List.mem_of_mem_take hy)) hx (by rw [List.length_take]; omega) 6 (eB opIx (eV 3) (eV 5)) [some (rlD dl (d : Int)), some (ltsD qs), e2, some (.tup ps), some (rowsD cs), some (.int (k : Int)), e6] h (by simp) (fun y hy acc => by simp [a1])
  have ad : atI [D.int dl, D.int (d : Int)] (1 : Int) = some (.int (d : Int)) := by rw [atI_pos (by omega)]; rfl
  have no : isI x = false → isNon x = false → b_is_attribution_1 [some (rlD dl (d : Int)), some (ltsD qs), e2, some (.tup ps), some (rowsD cs), some (.int (k : Int)), e6] h = .rt (.bl false) h := fun h1 h2 => by
    have bt := between_no h1 hx 0 ((qs.length : Int) - 1) h
    have nn : opNotN x h = some (.bl true, h) := by
      cases x with
      | non => cases h2
      | ref n => exact absurd hx tm_ref
      | _ => simp
    simp [b_is_attribution_1, a1, nn, ltsD, bt]
  cases x with
  | non => simp [b_is_attribution_1, a1, okP, isNon]
  | ref n => exact absurd hx tm_ref
  | int i =>
    have n1 := notin_int i (Mt.cn cs k) h
    have bt := between_int i 0 ((qs.length : Int) - 1) h
    simp only [rowsD] at lc ⊢
    simp only [ltsD, rlD] at lc ⊢
    cases hA : okA (Mt.cn cs k) (.int i) with
    | false =>
      rw [hA] at n1
      cases hb : (decide (0 ≤ i) && decide (i ≤ (qs.length : Int) - 1)) with
      | false =>
        rw [hb] at bt
        simp [b_is_attribution_1, a1, a2, n1, bt, okP, isNon, hA]
      | true =>
        rw [hb] at bt
        simp [b_is_attribution_1, a1, a2, n1, bt, okP, isNon, hA]
    | true =>
      rw [hA] at n1
      have hb : (decide (0 ≤ i) && decide (i ≤ (qs.length : Int) - 1)) = true := by
        simp only [okA, decide_eq_true_eq, List.mem_map] at hA
        obtain ⟨q, hq', rfl⟩ := hA
        have := hcl k q hq'
        simp
        omega
      rw [hb] at bt
      by_cases hc : cntE (ps.take (k + 1)) (.int i) ≤ d
      · have hc2 : ¬ d < ((ps.take (k + 1)).filter fun y => eqd y (.int i)).length := by unfold cntE at hc; omega
        simp [b_is_attribution_1, a1, a2, n1, bt, ct, ad, lc, okP, isNon, hA, hc, hc2]
      · have hc2 : d < ((ps.take (k + 1)).filter fun y => eqd y (.int i)).length := by unfold cntE at hc; omega
        simp [b_is_attribution_1, a1, a2, n1, bt, ct, ad, lc, okP, isNon, hA, hc, hc2]
  | bl b => rw [no rfl rfl]; simp [okP, isNon, okA]
  | str s => rw [no rfl rfl]; simp [okP, isNon, okA]
  | tup ds => rw [no rfl rfl]; simp [okP, isNon, okA]
  | fls ds => rw [no rfl rfl]; simp [okP, isNon, okA]
theorem attr_spec (i : In dl (d : Int) qs rs) {p : D} (hp : tm 4 p = true) (h : Hh) : m_is_attribution [rlD dl (d : Int), ltsD qs, ltsD rs, p] h = .ok (.bl (paperL (cands dl qs rs) d p)) h := by
  have e1 := cands_spec i h
  have hcl := cands_len dl qs rs
  cases p with
  | tup ps =>
    obtain ⟨h1, h2⟩ := tm_tup hp
    by_cases hl : ps.length = rs.length
    · have hrl := i.rl
      have hr : Sm.inR (ps.length : Int) = true := inR_ok (by omega) (by omega)
      have lp := forL_allM (i := 5) (body := b_is_attribution_1) (env := [some (rlD dl (d : Int)), some (ltsD qs), some (ltsD rs), some (.tup ps), some (rowsD (cands dl qs rs)), none, none]) (h := h) (fun k : Nat => D.int (k : Int)) (fun k => okP d (Mt.cn (cands dl qs rs) k) ps k (ps.getD k .non)) (.bl false) (List.range ps.length) (fun k hk => by
        have hk' : k < ps.length := by simpa using hk
        have ex : ps[k]? = some (ps.getD k .non) := by simp [hk']
        exact attr_turn i.r i.ql (by omega) (fun y hy => tms_mem h1 hy) (cands_lt dl qs rs) ex (by omega) h _ none)
      rw [← rngD_range, same_all] at lp
      have hneI : opNe (.int (ps.length : Int)) (.int (rs.length : Int)) h = some (.bl false, h) := by rw [hl]; simp
      cases hall : (List.range ps.length).all (fun k => okL d (Mt.cn (cands dl qs rs) k) ps (ps.getD k .non)) with
      | true =>
        obtain ⟨e, q⟩ := lp.1 hall
        have : paperL (cands dl qs rs) d (.tup ps) = true := by
          simp only [paperL, hall, Bool.and_true, hcl]
          simpa using hl
        rw [this]
        simp only [ltsD] at e1 q ⊢
        simp [m_is_attribution, b_is_attribution, e1, hneI, hr, q, trR_ok0]
      | false =>
        have q := lp.2 hall
        have : paperL (cands dl qs rs) d (.tup ps) = false := by simp only [paperL, hall, Bool.and_false]
        rw [this]
        simp only [ltsD] at e1 q ⊢
        simp [m_is_attribution, b_is_attribution, e1, hneI, hr, q, trR_ok0]
    · have hneI : opNe (.int (ps.length : Int)) (.int (rs.length : Int)) h = some (.bl true, h) := by
        have : ¬ ((ps.length : Int) = rs.length) := by omega
        simp [this]
      have : paperL (cands dl qs rs) d (.tup ps) = false := by simp [paperL, hcl, hl]
      rw [this]
      simp only [ltsD] at e1 ⊢
      simp [m_is_attribution, b_is_attribution, e1, hneI, trR_ok0]
  | ref n => exact absurd hp tm_ref
  | _ =>
    simp only [ltsD] at e1 ⊢
    simp [m_is_attribution, b_is_attribution, e1, trR_ok0, paperL]
end
end Lk32
/-! k32: what is drawn: numbers, rows, labels -/
namespace Lk32
open PySem L2 PyProof.Rows Sm SmPool
def scD (ns : List Int) : D := .fls (ns.map D.int)
theorem pow18 (g : Hh) : ∃ T : Int, opPow (.int 10) (.int 18) g = some (.int T, g) := by
  refine ⟨10 ^ 18, ?_⟩
  simp [opPow]
theorem num_early {ns : List Int} {k : Nat} {most c T : Int} {e4 e5 e6 : Option D} {h : Hh} (hm : 0 < most) (hT : opPow (.int 10) (.int 18) h = some (.int T, h)) :
    (sIf (tAndM (tBl (eB opLtX (eV 1) (eN opLen [(eV 0)]))) (tBl (eB opGeX (eV 3) (eB opPow (eC (.int 10)) (eC (.int 18)))))) (sRet (eB opMod (eN opInt [(eB opSub (eV 3) (eB opPow (eC (.int 10)) (eC (.int 18))))]) (eV 2))) sSkip) [some (scD ns), some (.int (k : Int)), some (.int most), some (.int c), e4, e5, e6] h =
      if k < ns.length ∧ T ≤ c then .rt (.int ((c - T) % most)) h else .nx [some (scD ns), some (.int (k : Int)), some (.int most), some (.int c), e4, e5, e6] h := by
  by_cases q1 : k < ns.length
  · by_cases q2 : T ≤ c
    · rw [if_pos ⟨q1, q2⟩]
      simp [-opPow_ii, scD, q1, q2, hm, hT]
    · rw [if_neg (fun z => q2 z.2)]
      simp [-opPow_ii, scD, q1, q2, hT]
  · rw [if_neg (fun z => q1 z.1)]
    simp [scD, q1]
theorem nt1 {c1 sd : Int} {k : Nat} (hk : k ≤ 1000) (b0 : 0 ≤ c1) (b1 : c1 < 1000003) (hsd : sd = c1 * 48271 + (k : Int) * 69621 + 11) : mulOk sd sd = true := mulOk_r (by omega) (by omega)
theorem nt4 {a b : Option D} {k c c1 : Int} (hc : c % 1000003 = c1) {h : Hh} : sSet 4 (eB opAdd (eB opAdd (eB opMulA (eB opMod (eN opInt [(eV 3)]) (eC (.int 1000003))) (eC (.int 48271))) (eB opMulA (eV 1) (eC (.int 69621)))) (eC (.int 11))) [a, some (.int k), b, some (.int c), none, none, none] h = .nx [a, some (.int k), b, some (.int c), some (.int (c1 * 48271 + k * 69621 + 11)), none, none] h := by
  simp [mulOk_r, hc]
theorem nt5 {a b c2 : Option D} {c sd : Int} (s1 : mulOk sd sd = true) {h : Hh} : sSet 5 (eB opMod (eN opInt [(eB opFdiv (eB opMulA (eV 4) (eV 4)) (eC (.int 7)))]) (eC (.int 1000000000039))) [a, b, c2, some (.int c), some (.int sd), none, none] h = .nx [a, b, c2, some (.int c), some (.int sd), some (.int (sd * sd / 7 % 1000000000039)), none] h := by
  simp [s1]
theorem nt6 {a b c2 : Option D} {c sd f : Int} {h : Hh} : sSet 6 (eB opMod (eN opInt [(eB opAdd (eB opFdiv (eB opMulA (eV 4) (eC (.int 16807))) (eC (.int 5))) (eV 5))]) (eC (.int 1000000000061))) [a, b, c2, some (.int c), some (.int sd), some (.int f), none] h = .nx [a, b, c2, some (.int c), some (.int sd), some (.int f), some (.int ((sd * 16807 / 5 + f) % 1000000000061))] h := by
  simp [mulOk_r]
theorem nt7 {a b : Option D} {c sd f g most : Int} (hm : 0 < most) {h : Hh} : ∃ r, 0 ≤ r ∧ r < most ∧ (sRet (eB opMod (eN opInt [(eB opAdd (eV 5) (eB opMulA (eC (.int 1000000000039)) (eV 6)))]) (eV 2))) [a, b, some (.int most), some (.int c), some (.int sd), some (.int f), some (.int g)] h = .rt (.int r) h :=
  ⟨(f + 1000000000039 * g) % most, Int.emod_nonneg _ (Int.ne_of_gt hm), Int.emod_lt_of_pos _ hm, by simp [mulOk_l, hm]⟩
theorem seq_nx {a b : S} {env e' : Ev} {h h' : Hh} (e : a env h = .nx e' h') : sSeq a b env h = b e' h' := by
  show (match a env h with | .nx e' h' => b e' h' | r => r) = _
  rw [e]
theorem num_tail {ns : List Int} {k : Nat} (hk : k ≤ 1000) {most c : Int} {h : Hh} (hm : 0 < most) : ∃ r, 0 ≤ r ∧ r < most ∧ (sSeq (sSet 4 (eB opAdd (eB opAdd (eB opMulA (eB opMod (eN opInt [(eV 3)]) (eC (.int 1000003))) (eC (.int 48271))) (eB opMulA (eV 1) (eC (.int 69621)))) (eC (.int 11))))
    (sSeq (sSet 5 (eB opMod (eN opInt [(eB opFdiv (eB opMulA (eV 4) (eV 4)) (eC (.int 7)))]) (eC (.int 1000000000039))))
    (sSeq (sSet 6 (eB opMod (eN opInt [(eB opAdd (eB opFdiv (eB opMulA (eV 4) (eC (.int 16807))) (eC (.int 5))) (eV 5))]) (eC (.int 1000000000061))))
    (sRet (eB opMod (eN opInt [(eB opAdd (eV 5) (eB opMulA (eC (.int 1000000000039)) (eV 6)))]) (eV 2)))))) [some (scD ns), some (.int (k : Int)), some (.int most), some (.int c), none, none, none] h = .rt (.int r) h := by
  obtain ⟨c1, hc1⟩ : ∃ c1, c % 1000003 = c1 := ⟨_, rfl⟩
  have b0 : 0 ≤ c1 := by rw [← hc1]; exact Int.emod_nonneg _ (by decide)
  have b1 : c1 < 1000003 := by rw [← hc1]; exact Int.emod_lt_of_pos _ (by decide)
  rw [seq_nx (nt4 hc1), seq_nx (nt5 (nt1 hk b0 b1 rfl)), seq_nx nt6]
  exact nt7 hm
theorem number_spec (ns : List Int) {k : Nat} (hk : k ≤ 1000) {most : Int} (hm : 0 < most) (h : Hh) : ∃ r, 0 ≤ r ∧ r < most ∧ m__law_number [scD ns, .int (k : Int), .int most] h = .ok (.int r) h := by
  obtain ⟨T, hT⟩ := pow18 h
  have fin : ∀ c : Int, (sIf (tBl (eB opGtX (eN opLen [(eV 0)]) (eC (.int 0)))) (sSet 3 (eN opInt [(eB opIx (eV 0) (eB opMod (eN opInt [(eV 1)]) (eN opLen [(eV 0)])))])) sSkip) [some (scD ns), some (.int (k : Int)), some (.int most), some (.int 0), none, none, none] h = .nx [some (scD ns), some (.int (k : Int)), some (.int most), some (.int c), none, none, none] h →
      ∃ r, 0 ≤ r ∧ r < most ∧ m__law_number [scD ns, .int (k : Int), .int most] h = .ok (.int r) h := by
    intro c e3
    have e4 := num_early (ns := ns) (k := k) (c := c) (e4 := none) (e5 := none) (e6 := none) hm hT
    by_cases q : k < ns.length ∧ T ≤ c
    · rw [if_pos q] at e4
      refine ⟨(c - T) % most, Int.emod_nonneg _ (by omega), Int.emod_lt_of_pos _ hm, ?_⟩
      simp [m__law_number, b__law_number, ↓e3, ↓e4, trR_ok0]
    · rw [if_neg q] at e4
      obtain ⟨r, r0, r1, e5⟩ := num_tail (ns := ns) (c := c) (h := h) hk hm
      refine ⟨r, r0, r1, ?_⟩
      simp [m__law_number, b__law_number, ↓e3, ↓e4, ↓e5, trR_ok0]
  by_cases h0 : ns = []
  · subst h0
    exact fin 0 (by simp [scD])
  · have hp : 0 < ns.length := List.length_pos_iff.mpr h0
    obtain ⟨j, hj⟩ : ∃ j, j = k % ns.length := ⟨_, rfl⟩
    have hjl : j < ns.length := by rw [hj]; exact Nat.mod_lt _ hp
    have hji : (k : Int) % (ns.length : Int) = (j : Int) := by rw [hj]; exact (Int.natCast_emod k ns.length).symm
    have ha : atI (ns.map D.int) (j : Int) = some (.int ns[j]) := by
      rw [atI_pos (by omega)]
      simp [hjl]
    exact fin ns[j] (by simp [scD, hp, hji, ha])
/-! ### rows -/
def digs : Int → List Int → List Int
  | _, [] => []
  | n, s :: ss => n % s :: digs (n / s) ss
theorem digs_len : ∀ (ss : List Int) (n : Int), (digs n ss).length = ss.length
  | [], _ => rfl
  | s :: ss, n => by simp [digs, digs_len ss]
def prodI : Int → List Int → Int
  | a, [] => a
  | a, s :: ss => prodI (a * s) ss
theorem prod_pos : ∀ (ss : List Int) (a : Int), 0 < a → (∀ s ∈ ss, 0 < s) → 0 < prodI a ss
  | [], a, h, _ => h
  | s :: ss, a, h, hs => prod_pos ss (a * s) (Int.mul_pos h (hs s (by simp))) fun x hx => hs x (by simp [hx])
theorem row_prod {h : Hh} {e0 e1 e2 e5 e6 : Option D} : ∀ (ss : List Int) (a : Int) (e4 : Option D), (∀ s ∈ ss, 0 < s ∧ s < 1073741824) → ∃ e4', forL (gtName 4) b__law_row_1 none (ss.map D.int) [e0, e1, e2, some (.int a), e4, e5, e6] h = .nx [e0, e1, e2, some (.int (prodI a ss)), e4', e5, e6] h
  | [], a, e4, _ => ⟨e4, by rw [List.map_nil, forL_nil (gd := none) trivial]; rfl⟩
  | s :: ss, a, e4, hs => by
    obtain ⟨e4', ih⟩ := row_prod (h := h) (e0 := e0) (e1 := e1) (e2 := e2) (e5 := e5) (e6 := e6) ss (a * s) (some (.int s)) fun x hx => hs x (by simp [hx])
    have hm : mulOk a s = true := mulOk_r (by have := hs s (by simp); omega) (by have := hs s (by simp); omega)
    refine ⟨e4', ?_⟩
    have st : b__law_row_1 [e0, e1, e2, some (.int a), some (.int s), e5, e6] h = .nx [e0, e1, e2, some (.int (a * s)), some (.int s), e5, e6] h := by simp [b__law_row_1, hm]
    rw [List.map_cons, forL_nx (gd := none) trivial rfl st, ih]
    rfl
theorem row_digs {h : Hh} {e0 e1 e2 e3 : Option D} : ∀ (ss : List Int) (n : Int) (acc : List Int) (e4 : Option D), (∀ s ∈ ss, 0 < s ∧ s < 1073741824) → acc.length + ss.length ≤ 1000 → ∃ e4' n', forL (gtName 4) b__law_row_2 none (ss.map D.int) [e0, e1, e2, e3, e4, some (.int n), some (.ref h.length)] (h ++ [.lst (acc.map D.int)]) = .nx [e0, e1, e2, e3, e4', some (.int n'), some (.ref h.length)] (h ++ [.lst ((acc ++ digs n ss).map D.int)])
  | [], n, acc, e4, _, _ => ⟨e4, n, by rw [List.map_nil, forL_nil (gd := none) trivial]; simp [digs]⟩
  | s :: ss, n, acc, e4, hs, hl => by
    rw [List.length_cons] at hl
    have hs0 := hs s (by simp)
    obtain ⟨e4', n', ih⟩ := row_digs (h := h) (e0 := e0) (e1 := e1) (e2 := e2) (e3 := e3) ss (n / s) (acc ++ [n % s]) (some (.int s)) (fun x hx => hs x (by simp [hx])) (by simp; omega)
    have hz : acc.length < sizeLine := by rw [sizeLine_eq]; omega
    refine ⟨e4', n', ?_⟩
    have st : b__law_row_2 [e0, e1, e2, e3, some (.int s), some (.int n), some (.ref h.length)] (h ++ [.lst (acc.map D.int)]) = .nx [e0, e1, e2, e3, some (.int s), some (.int (n / s)), some (.ref h.length)] (h ++ [.lst ((acc ++ [n % s]).map D.int)]) := by
      simp [b__law_row_2, hs0.1, hs0.2, hz]
    rw [List.map_cons, forL_nx (gd := none) trivial rfl st, ih]
    simp [digs]
theorem row_spec' (ns : List Int) {k : Nat} (hk : k ≤ 1000) {ss : List Int} (hs : ∀ s ∈ ss, 0 < s ∧ s < 1073741824) (hl : ss.length ≤ 900) (h : Hh) : ∃ r, 0 ≤ r ∧ m__law_row [scD ns, .int (k : Int), .fls (ss.map D.int)] h = .ok (.fls ((digs r ss).map D.int)) h := by
  obtain ⟨e4', lp⟩ := row_prod (h := h) (e0 := some (scD ns)) (e1 := some (.int (k : Int))) (e2 := some (.fls (ss.map D.int))) (e5 := none) (e6 := none) ss 1 none hs
  obtain ⟨r, r0, _, e1⟩ := number_spec ns hk (prod_pos ss 1 (by omega) fun s hs' => (hs s hs').1) h
  obtain ⟨e4'', n', lq⟩ := row_digs (h := h) (e0 := some (scD ns)) (e1 := some (.int (k : Int))) (e2 := some (.fls (ss.map D.int))) (e3 := some (.int (prodI 1 ss))) ss r [] e4' hs (by simp; omega)
  refine ⟨r, r0, ?_⟩
  have fz := fz1_old (ds := (digs r ss).map D.int) (h := h ++ [.lst ((digs r ss).map D.int)]) (n := h.length) (by simp)
  rw [hp_set1] at fz
  simp at lq
  simp [m__law_row, b__law_row, lp, e1, lq, fz, trR_app]
/-! ### labels -/
theorem label_turn {h : Hh} {l : List Nat} {k size n : Int} {e5 : Option D} (hl : l.length ≤ 100) : ∃ c n' e5', isLet c = true ∧ ((k = 0 ∨ k = size - 1) → c ≠ 45) ∧
    b__law_label_1 [some (.int n), some (.str "abcdefghijklmnopqrstuvwxyz0123456789-"), some (.int size), some (lD l), some (.int k), e5] h = .nx [some (.int n'), some (.str "abcdefghijklmnopqrstuvwxyz0123456789-"), some (.int size), some (lD (l ++ [c])), some (.int k), e5'] h := by
  have hz : (37 : Nat) ≤ sizeLine := by rw [sizeLine_eq]; omega
  have hl1 : l.length + 1 ≤ sizeLine := line4k (by omega)
  have key : ∀ m : Int, (m = 36 ∨ m = 37) → ((k = 0 ∨ k = size - 1) → m = 36) → ∃ c, isLet c = true ∧ ((k = 0 ∨ k = size - 1) → c ≠ 45) ∧ atI ("abcdefghijklmnopqrstuvwxyz0123456789-" : Str).cps.toList (n % m) = some c := by
    intro m hm hk
    have r0 : 0 ≤ n % m := Int.emod_nonneg _ (by omega)
    have r1 : n % m < m := Int.emod_lt_of_pos _ (by omega)
    obtain ⟨c, h1, h2, h3⟩ := sig_at (i := (n % m).toNat) (by omega)
    exact ⟨c, h2, fun z => h3 (by have := hk z; omega), by rw [atI_pos r0]; exact h1⟩
  by_cases q1 : k = 0
  · obtain ⟨c, h1, h2, ha⟩ := key 36 (.inl rfl) (fun _ => rfl)
    refine ⟨c, n / 36, some (.int 36), h1, h2, ?_⟩
    simp [b__law_label_1, lD, q1, sig_len, hz, ha, hl1]
  · by_cases q2 : k = size - 1
    · obtain ⟨c, h1, h2, ha⟩ := key 36 (.inl rfl) (fun _ => rfl)
      refine ⟨c, n / 36, some (.int 36), h1, h2, ?_⟩
      subst q2
      simp [b__law_label_1, lD, q1, sig_len, hz, ha, hl1]
    · obtain ⟨c, h1, h2, ha⟩ := key 37 (.inr rfl) (fun z => by omega)
      refine ⟨c, n / 37, some (.int 37), h1, h2, ?_⟩
      simp [b__law_label_1, lD, q1, q2, sig_len, hz, ha, hl1]
theorem label_loop {h : Hh} {size : Nat} (hs : size ≤ 12) : ∀ (n k : Nat) (l : List Nat) (m : Int) (e4 e5 : Option D), k + n = size → l.length = k → (∀ c ∈ l, isLet c = true) → l.head? ≠ some 45 → (k = size → l.getLast? ≠ some 45) →
    ∃ l' m' e4' e5', l'.length = size ∧ (∀ c ∈ l', isLet c = true) ∧ l'.head? ≠ some 45 ∧ l'.getLast? ≠ some 45 ∧
      forL (gtName 4) b__law_label_1 none (rngD (k : Int) n) [some (.int m), some (.str "abcdefghijklmnopqrstuvwxyz0123456789-"), some (.int (size : Int)), some (lD l), e4, e5] h = .nx [some (.int m'), some (.str "abcdefghijklmnopqrstuvwxyz0123456789-"), some (.int (size : Int)), some (lD l'), e4', e5'] h
  | 0, k, l, m, e4, e5, hk, hl, h1, h2, h3 => ⟨l, m, e4, e5, by omega, h1, h2, h3 (by omega), by rw [rngD_nil, forL_nil (gd := none) trivial]⟩
  | n + 1, k, l, m, e4, e5, hk, hl, h1, h2, h3 => by
    obtain ⟨c, m1, e5a, c1, c2, e⟩ := label_turn (h := h) (l := l) (k := (k : Int)) (size := (size : Int)) (n := m) (e5 := e5) (by omega)
    obtain ⟨l', m', e4', e5', r1, r2, r3, r4, r6⟩ := label_loop (h := h) hs n (k + 1) (l ++ [c]) m1 (some (.int (k : Int))) e5a (by omega) (by simp [hl]) (fun x hx => by
      rw [List.mem_append] at hx
      rcases hx with hx | hx
      · exact h1 x hx
      · simp at hx; subst hx; exact c1) (by
      cases l with
      | nil =>
        simp at hl
        have := c2 (.inl (by omega))
        simpa using this
      | cons x l => simpa using h2) (fun z => by
      have := c2 (.inr (by omega))
      simpa using this)
    refine ⟨l', m', e4', e5', r1, r2, r3, r4, ?_⟩
    rw [rngD_succ, forL_nx (gd := none) trivial rfl e]
    exact r6
theorem label_spec (n : Int) (h : Hh) : ∃ l, labL l = true ∧ m__law_label [.int n] h = .ok (lD l) h := by
  have a0 : 0 ≤ n % 12 := Int.emod_nonneg _ (by omega)
  have a1 : n % 12 < 12 := Int.emod_lt_of_pos _ (by omega)
  obtain ⟨size, hsz⟩ : ∃ size : Nat, (size : Int) = 1 + n % 12 := ⟨(1 + n % 12).toNat, by omega⟩
  obtain ⟨l', m', e4', e5', h1, h2, h3, h4, lp⟩ := label_loop (h := h) (size := size) (by omega) size 0 [] (n / 12) none none (by omega) rfl (by simp) (by simp) (by simp)
  have hin : Sm.inR (1 + n % 12) = true := inR_ok (by omega) (by omega)
  have hn : (1 + n % 12).toNat = size := by omega
  refine ⟨l', ?_, ?_⟩
  · simp only [labL, Bool.and_eq_true, decide_eq_true_eq, List.all_eq_true]
    refine ⟨⟨⟨⟨?_, by omega⟩, h2⟩, h3⟩, h4⟩
    cases l' with
    | nil => simp at h1; omega
    | cons _ _ => rfl
  · have z0 : ((0 : Nat) : Int) = 0 := rfl
    rw [hsz, z0] at lp
    simp only [lD] at lp ⊢
    simp [m__law_label, b__law_label, hin, hn, l_nil, lp, trR_ok0]
end Lk32
/-! k32: what is drawn: rules, pools, letters -/
namespace Lk32
open PySem L2 PyProof.Rows Sm SmPool
inductive Bds : List Int → List Int → Prop
  | nil : Bds [] []
  | cons {d s : Int} {ds ss : List Int} : 0 ≤ d → d < s → Bds ds ss → Bds (d :: ds) (s :: ss)
theorem digs_bds : ∀ (ss : List Int) (n : Int), (∀ s ∈ ss, 0 < s) → Bds (digs n ss) ss
  | [], _, _ => .nil
  | s :: ss, n, h => .cons (Int.emod_nonneg _ (Int.ne_of_gt (h s (by simp)))) (Int.emod_lt_of_pos _ (h s (by simp))) (digs_bds ss _ fun x hx => h x (by simp [hx]))
theorem row_spec3 (ns : List Int) {k : Nat} (hk : k ≤ 1000) {ss : List Int} (hs : ∀ s ∈ ss, 0 < s ∧ s < 1073741824) (hl : ss.length ≤ 900) (h : Hh) : ∃ ds, Bds ds ss ∧ m__law_row [scD ns, .int (k : Int), .fls (ss.map D.int)] h = .ok (.fls (ds.map D.int)) h := by
  obtain ⟨r, _, e⟩ := row_spec' ns hk hs hl h
  exact ⟨digs r ss, digs_bds ss r fun s hs' => (hs s hs').1, e⟩
theorem rules_spec (ns : List Int) (h : Hh) : ∃ (dl : Int) (d : Nat), Rl dl (d : Int) ∧ m__law_rules [scD ns] h = .ok (rlD dl (d : Int)) h := by
  obtain ⟨ds, hb, e⟩ := row_spec3 ns (k := 0) (by omega) (ss := [4, 3, 1001]) (by simp) (by simp) h
  rcases hb with _ | ⟨a0, a1, hb⟩
  rcases hb with _ | ⟨b0, b1, hb⟩
  rcases hb with _ | ⟨c0, c1, hb⟩
  cases hb
  rename_i a b c
  obtain ⟨d, hd⟩ : ∃ d : Nat, (d : Int) = 1 + b := ⟨(1 + b).toNat, by omega⟩
  have c4 : 0 ≤ c % 4 := Int.emod_nonneg _ (by omega)
  have c5 : c % 4 < 4 := Int.emod_lt_of_pos _ (by omega)
  simp at e
  have ha : a = 0 ∨ a = 1 ∨ a = 2 ∨ a = 3 := by omega
  have ix : ∀ (x y z : D), atI [x, y, z] (0 : Int) = some x ∧ atI [x, y, z] (1 : Int) = some y ∧ atI [x, y, z] (2 : Int) = some z := fun x y z => ⟨rfl, rfl, rfl⟩
  have ix4 : ∀ (x y z w : D), atI [x, y, z, w] (0 : Int) = some x ∧ atI [x, y, z, w] (1 : Int) = some y ∧ atI [x, y, z, w] (2 : Int) = some z ∧ atI [x, y, z, w] (3 : Int) = some w := fun x y z w => ⟨rfl, rfl, rfl, rfl⟩
  rcases ha with rfl | rfl | rfl | rfl
  · exact ⟨c, d, ⟨by omega, by omega, by omega, by omega⟩, by rw [hd]; simp [m__law_rules, b__law_rules, e, ix, ix4, rlD, trR_ok0]⟩
  · exact ⟨0, d, ⟨by omega, by omega, by omega, by omega⟩, by rw [hd]; simp [m__law_rules, b__law_rules, e, ix, ix4, rlD, trR_ok0]⟩
  · exact ⟨1000, d, ⟨by omega, by omega, by omega, by omega⟩, by rw [hd]; simp [m__law_rules, b__law_rules, e, ix, ix4, rlD, trR_ok0]⟩
  · exact ⟨c % 4, d, ⟨by omega, by omega, by omega, by omega⟩, by rw [hd]; simp [m__law_rules, b__law_rules, e, ix, ix4, rlD, trR_ok0]⟩
theorem base_spec (ns : List Int) {dl : Int} (d0 : 0 ≤ dl) (d1 : dl ≤ 1000) (h : Hh) : ∃ b : Int, 1 ≤ b ∧ b + 4 * dl + 2 ≤ 1000000 ∧ m__law_base [scD ns, .int dl] h = .ok (.int b) h := by
  obtain ⟨ds, hb, e⟩ := row_spec3 ns (k := 4) (by omega) (ss := [4, 990000]) (by simp) (by simp) h
  rcases hb with _ | ⟨a0, a1, hb⟩
  rcases hb with _ | ⟨b0, b1, hb⟩
  cases hb
  rename_i a b
  simp at e
  have hm : mulOk 4 dl = true := mulOk_r (by omega) (by omega)
  have ha : a = 0 ∨ a = 1 ∨ a = 2 ∨ a = 3 := by omega
  have ix : ∀ (x y : D), atI [x, y] (0 : Int) = some x ∧ atI [x, y] (1 : Int) = some y := fun x y => ⟨rfl, rfl⟩
  have ix4 : ∀ (x y z w : D), atI [x, y, z, w] (0 : Int) = some x ∧ atI [x, y, z, w] (1 : Int) = some y ∧ atI [x, y, z, w] (2 : Int) = some z ∧ atI [x, y, z, w] (3 : Int) = some w := fun x y z w => ⟨rfl, rfl, rfl, rfl⟩
  rcases ha with rfl | rfl | rfl | rfl
  · exact ⟨1 + b, by omega, by omega, by simp [m__law_base, b__law_base, e, ix, ix4, hm, trR_ok0]⟩
  · exact ⟨1 + b, by omega, by omega, by simp [m__law_base, b__law_base, e, ix, ix4, hm, trR_ok0]⟩
  · exact ⟨1, by omega, by omega, by simp [m__law_base, b__law_base, e, ix, ix4, hm, trR_ok0]⟩
  · exact ⟨1000000 - 4 * dl - 2, by omega, by omega, by simp [m__law_base, b__law_base, e, ix, ix4, hm, trR_ok0]⟩
/-- the two values of each part -/
structure Po where
  i : Bool → Int
  a : Bool → Int
  o : Bool → List (List Nat)
  n : Bool → List (List Nat)
  k : Bool → Str
def poD (P : Po) : D := .fls [.tup [.int (P.i false), .int (P.i true)], .tup [.int (P.a false), .int (P.a true)], .tup [labs (P.o false), labs (P.o true)], .tup [labs (P.n false), labs (P.n true)], .tup [.str (P.k false), .str (P.k true)]]
/-- any choice is a right letter -/
def Po.Good (P : Po) : Prop := ∀ (m : Int) (b1 b2 b3 b4 b5 : Bool), 0 ≤ m → m ≤ 1000000 → Lt.Good ⟨m, P.i b1, P.a b2, P.o b3, P.n b4, P.k b5⟩
theorem pools_spec (ns : List Int) (h : Hh) : ∃ P : Po, P.Good ∧ m__law_pools [scD ns] h = .ok (poD P) h := by
  obtain ⟨ds, hb, e⟩ := row_spec3 ns (k := 1) (by omega) (ss := [256, 256, 65536, 65536, 3, 3, 4, 4]) (by simp) (by simp) h
  rcases hb with _ | ⟨a0, a1, hb⟩
  rcases hb with _ | ⟨b0, b1, hb⟩
  rcases hb with _ | ⟨c0, c1, hb⟩
  rcases hb with _ | ⟨d0, d1, hb⟩
  rcases hb with _ | ⟨e0, e1, hb⟩
  rcases hb with _ | ⟨f0, f1, hb⟩
  rcases hb with _ | ⟨g0, g1, hb⟩
  rcases hb with _ | ⟨h0, h1, hb⟩
  cases hb
  rename_i i0 i1 x0 x1 q0 q1 k0 k1
  obtain ⟨T, hT, hTp⟩ : ∃ T : Int, opPow (.int 10) (.int 20) h = some (.int T, h) ∧ 0 < T := ⟨10 ^ 20, by simp [opPow], by decide⟩
  obtain ⟨r1, _, _, n1⟩ := number_spec ns (k := 2) (by omega) hTp h
  obtain ⟨r2, _, _, n2⟩ := number_spec ns (k := 3) (by omega) hTp h
  obtain ⟨f, lf, l1⟩ := label_spec r1 h
  obtain ⟨s, ls, l2⟩ := label_spec r2 h
  simp at e n1 n2
  have pick3 : ∀ q : Int, 0 ≤ q → q < 3 → ∃ o : List (List Nat), atI [D.tup [], .tup [lD f], .tup [lD s, lD f]] q = some (labs o) ∧ (o = [] ∨ o = [f] ∨ o = [s, f]) := by
    intro q h1 h2
    have : q = 0 ∨ q = 1 ∨ q = 2 := by omega
    rcases this with rfl | rfl | rfl
    · exact ⟨[], rfl, .inl rfl⟩
    · exact ⟨[f], rfl, .inr (.inl rfl)⟩
    · exact ⟨[s, f], rfl, .inr (.inr rfl)⟩
  have pick4 : ∀ q : Int, 0 ≤ q → q < 4 → ∃ x : Str, atI [D.str "addr", .str "alias", .str "serve", .str "text"] q = some (.str x) ∧ x ∈ KS := by
    intro q h1 h2
    have : q = 0 ∨ q = 1 ∨ q = 2 ∨ q = 3 := by omega
    rcases this with rfl | rfl | rfl | rfl
    · exact ⟨"addr", rfl, by simp [KS]⟩
    · exact ⟨"alias", rfl, by simp [KS]⟩
    · exact ⟨"serve", rfl, by simp [KS]⟩
    · exact ⟨"text", rfl, by simp [KS]⟩
  obtain ⟨o0, p0, ho0⟩ := pick3 q0 e0 e1
  obtain ⟨o1, p1, ho1⟩ := pick3 q1 f0 f1
  obtain ⟨y0, p2, hy0⟩ := pick4 k0 g0 g1
  obtain ⟨y1, p3, hy1⟩ := pick4 k1 h0 h1
  have la : labL [97] = true := by decide +kernel
  have lD97 : lD [97] = .str "a" := by
    unfold lD
    rw [show tx [97] = ("a" : Str) from by decide +kernel]
  refine ⟨⟨fun b => cond b i1 i0, fun b => cond b x1 x0, fun b => cond b o1 o0, fun b => cond b [s, f] [[97], s, f], fun b => cond b y1 y0⟩, ?_, ?_⟩
  · intro m c1' c2' c3' c4' c5' m0 m1
    have ho : ∀ b, cond b o1 o0 = [] ∨ cond b o1 o0 = [f] ∨ cond b o1 o0 = [s, f] := fun b => by cases b; exact ho0; exact ho1
    have hn : ∀ b, cond b [s, f] [[97], s, f] = [s, f] ∨ cond b [s, f] [[97], s, f] = [[97], s, f] := fun b => by cases b <;> simp
    refine ⟨m0, m1, ?_, ?_, ?_, ?_, ?_, ?_, ?_, ?_, ?_, ?_⟩
    · cases c1' <;> (show 0 ≤ _) <;> assumption
    · cases c1'
      · show i0 ≤ 255; omega
      · show i1 ≤ 255; omega
    · cases c2' <;> (show 0 ≤ _) <;> assumption
    · cases c2'
      · show x0 ≤ 65535; omega
      · show x1 ≤ 65535; omega
    · show (cond c3' o1 o0).length ≤ 6
      rcases ho c3' with z | z | z <;> rw [z] <;> simp
    · show ∀ x ∈ cond c3' o1 o0, labL x = true
      rcases ho c3' with z | z | z <;> rw [z] <;> simp [lf, ls]
    · show (cond c4' [s, f] [[97], s, f]).length ≤ 6
      rcases hn c4' with z | z <;> rw [z] <;> simp
    · show ∀ x ∈ cond c4' [s, f] [[97], s, f], labL x = true
      rcases hn c4' with z | z <;> rw [z] <;> simp [lf, ls, la]
    · show ∃ p, cond c4' [s, f] [[97], s, f] = p ++ cond c3' o1 o0
      rcases hn c4' with z | z <;> rcases ho c3' with w | w | w <;> rw [z, w]
      · exact ⟨[s, f], by simp⟩
      · exact ⟨[s], by simp⟩
      · exact ⟨[], by simp⟩
      · exact ⟨[[97], s, f], by simp⟩
      · exact ⟨[[97], s], by simp⟩
      · exact ⟨[[97]], by simp⟩
    · cases c5'
      · exact hy0
      · exact hy1
  · have ix8 : ∀ (x0 x1 x2 x3 x4 x5 x6 x7 : D), atI [x0, x1, x2, x3, x4, x5, x6, x7] (0 : Int) = some x0 ∧ atI [x0, x1, x2, x3, x4, x5, x6, x7] (1 : Int) = some x1 ∧ atI [x0, x1, x2, x3, x4, x5, x6, x7] (2 : Int) = some x2 ∧ atI [x0, x1, x2, x3, x4, x5, x6, x7] (3 : Int) = some x3 ∧ atI [x0, x1, x2, x3, x4, x5, x6, x7] (4 : Int) = some x4 ∧ atI [x0, x1, x2, x3, x4, x5, x6, x7] (5 : Int) = some x5 ∧ atI [x0, x1, x2, x3, x4, x5, x6, x7] (6 : Int) = some x6 ∧ atI [x0, x1, x2, x3, x4, x5, x6, x7] (7 : Int) = some x7 := fun _ _ _ _ _ _ _ _ => ⟨rfl, rfl, rfl, rfl, rfl, rfl, rfl, rfl⟩
    have hz : 3 + 2 ≤ sizeLine := line4k (by omega)
    have hz5 : (5 : Nat) ≤ sizeLine := line4k (by omega)
    have lab0 : ∀ (n : Nat) (l : List (List Nat)), los n (l.map lD) = true := fun n l => by simp [los_all, lD]
    have e97 := lD97
    simp only [labs, lD] at p0 p1 l1 l2 e97
    simp [-opPow_ii, m__law_pools, b__law_pools, poD, labs, lD, hT, n1, n2, l1, l2, e, ix8, p0, p1, p2, p3, hz5, e97, trR_ok0]
end Lk32
/-! k32: letters drawn -/
namespace Lk32
open PySem L2 PyProof.Rows Sm SmPool
def Po.lt (P : Po) (v : Int) (m : Int) : Lt := ⟨m, P.i (decide (v = 1)), P.a (decide (v = 2)), P.o (decide (v = 3)), P.n (decide (v = 4)), P.k (decide (v = 5))⟩
theorem letter_spec {P : Po} (g : P.Good) (v m : Int) (hm0 : 0 ≤ m) (hm1 : m ≤ 1000000) (h : Hh) : m__law_letter [poD P, .int v, .int m] h = .ok (ltD (P.lt v m)) h := by
  have gl : (P.lt v m).Good := g m _ _ _ _ _ hm0 hm1
  let f : Nat → D := fun k => ((P.lt v m).rest).getD k .non
  have b2 : ∀ (x y : D) (b : Bool), atI [x, y] (if b = true then (1 : Int) else 0) = some (cond b y x) := fun x y b => by cases b <;> rfl
  have c1 : ∀ (b : Bool), cond b (D.int (P.i true)) (.int (P.i false)) = .int (P.i b) := fun b => by cases b <;> rfl
  have c2 : ∀ (b : Bool), cond b (D.int (P.a true)) (.int (P.a false)) = .int (P.a b) := fun b => by cases b <;> rfl
  have c3 : ∀ (b : Bool), cond b (labs (P.o true)) (labs (P.o false)) = labs (P.o b) := fun b => by cases b <;> rfl
  have c4 : ∀ (b : Bool), cond b (labs (P.n true)) (labs (P.n false)) = labs (P.n b) := fun b => by cases b <;> rfl
  have c5 : ∀ (b : Bool), cond b (D.str (P.k true)) (.str (P.k false)) = .str (P.k b) := fun b => by cases b <;> rfl
  have ix5 : ∀ (x0 x1 x2 x3 x4 : D), atI [x0, x1, x2, x3, x4] (0 : Int) = some x0 ∧ atI [x0, x1, x2, x3, x4] (1 : Int) = some x1 ∧ atI [x0, x1, x2, x3, x4] (2 : Int) = some x2 ∧ atI [x0, x1, x2, x3, x4] (3 : Int) = some x3 ∧ atI [x0, x1, x2, x3, x4] (4 : Int) = some x4 := fun _ _ _ _ _ => ⟨rfl, rfl, rfl, rfl, rfl⟩
  have lc := fz_lcM (i := 4) (m := eB opIx (eB opIx (eV 0) (eV 4)) (eN opInt [(eB opEq (eV 1) (eB opAdd (eV 4) (eC (.int 1))))])) (env := [some (poD P), some (.int v), some (.int m), none, none]) (h := h) natD f (List.range 5) (fun k hk acc => by
    have hk' : k = 0 ∨ k = 1 ∨ k = 2 ∨ k = 3 ∨ k = 4 := by
      have : k < 5 := by simpa using hk
      omega
    rcases hk' with rfl | rfl | rfl | rfl | rfl
    · have e := b2 (.int (P.i false)) (.int (P.i true)) (decide (v = 1))
      rw [c1] at e
      simp [natD, poD, ix5, f, Lt.rest, Po.lt] at e ⊢
      simp [e]
    · have e := b2 (.int (P.a false)) (.int (P.a true)) (decide (v = 2))
      rw [c2] at e
      simp [natD, poD, ix5, f, Lt.rest, Po.lt] at e ⊢
      simp [e]
    · have e := b2 (labs (P.o false)) (labs (P.o true)) (decide (v = 3))
      rw [c3] at e
      simp [natD, poD, ix5, f, Lt.rest, Po.lt] at e ⊢
      simp [e]
    · have e := b2 (labs (P.n false)) (labs (P.n true)) (decide (v = 4))
      rw [c4] at e
      simp [natD, poD, ix5, f, Lt.rest, Po.lt] at e ⊢
      simp [e]
    · have e := b2 (.str (P.k false)) (.str (P.k true)) (decide (v = 5))
      rw [c5] at e
      simp [natD, poD, ix5, f, Lt.rest, Po.lt] at e ⊢
      simp [e]) (by simp; exact line4k (by omega)) (by
    have hr : (List.range 5).map f = (P.lt v m).rest := rfl
    rw [hr]
    rw [los_all, List.all_eq_true]
    exact fun d hd => tm_lo (gl.tmr d hd))
  have hr : (List.range 5).map f = (P.lt v m).rest := rfl
  have hx : List.map natD (List.range 5) = rngD 0 5 := (rngD_range _).symm
  rw [hr, hx] at lc
  have hi : Sm.inR (5 : Int) = true := by decide
  have hz : 1 + (P.lt v m).rest.length ≤ sizeLine := line4k (by simp [Lt.rest])
  simp [m__law_letter, b__law_letter, hi, lc, hz, trR_ok0, ltD, Po.lt]
  simp [Po.lt] at hz
  simp [hz, trR_ok0]
theorem letters_turn (ns : List Int) {P : Po} (g : P.Good) {at_ k : Nat} {b dl sl : Int} (hk : at_ + k ≤ 1000) (d0 : 0 ≤ dl) (d1 : dl ≤ 1000) (s0 : 0 < sl) (s1 : sl ≤ 5) (b0 : 1 ≤ b) (b1 : b + 4 * dl + 2 ≤ 1000000) {h : Hh} {ls : List Lt} (hl : ls.length ≤ 1000) {e2 e9 e10 : Option D} :
    ∃ (l : Lt) (e9' e10' : Option D), l.Good ∧ b__law_letters_1 [some (scD ns), some (.int (at_ : Int)), e2, some (poD P), some (.int b), some (.int dl), some (.int sl), some (.ref h.length), some (.int (k : Int)), e9, e10] (h ++ [.lst (ls.map ltD)]) =
      .nx [some (scD ns), some (.int (at_ : Int)), e2, some (poD P), some (.int b), some (.int dl), some (.int sl), some (.ref h.length), some (.int (k : Int)), e9', e10'] (h ++ [.lst ((ls ++ [l]).map ltD)]) := by
  obtain ⟨ds, hb, e⟩ := row_spec3 ns (k := at_ + k) hk (ss := [3, 5, sl, 4]) (by simp; omega) (by simp) (h ++ [.lst (ls.map ltD)])
  rcases hb with _ | ⟨a0, a1, hb⟩
  rcases hb with _ | ⟨c0, c1, hb⟩
  rcases hb with _ | ⟨x0, x1, hb⟩
  rcases hb with _ | ⟨y0, y1, hb⟩
  cases hb
  rename_i a c x y
  push_cast at e
  simp only [List.map_cons, List.map_nil] at e
  have hm : mulOk x dl = true := mulOk_r (by omega) (by omega)
  have xd : 0 ≤ x * dl := Int.mul_nonneg x0 d0
  have xd2 : x * dl ≤ 4 * dl := Int.mul_le_mul_of_nonneg_right (by omega) d0
  have ix4 : ∀ (x y z w : D), atI [x, y, z, w] (0 : Int) = some x ∧ atI [x, y, z, w] (1 : Int) = some y ∧ atI [x, y, z, w] (2 : Int) = some z ∧ atI [x, y, z, w] (3 : Int) = some w := fun x y z w => ⟨rfl, rfl, rfl, rfl⟩
  have hz : ls.length < sizeLine := by rw [sizeLine_eq]; omega
  obtain ⟨mo, hmo⟩ : ∃ mo, mo = b + x * dl + y - 1 := ⟨_, rfl⟩
  have m0 : 0 ≤ mo := by omega
  have m1 : mo ≤ 1000000 := by omega
  by_cases q : a = 2
  · subst q
    have e2' := letter_spec g (1 + c) mo m0 m1 (h ++ [.lst (ls.map ltD)])
    rw [hmo] at e2'
    refine ⟨P.lt (1 + c) mo, some (.fls [.int 2, .int c, .int x, .int y]), some (.int (1 + c)), g mo _ _ _ _ _ m0 m1, ?_⟩
    rw [hmo]
    simp [b__law_letters_1, e, ix4, hm, e2', hz]
  · have e2' := letter_spec g 0 mo m0 m1 (h ++ [.lst (ls.map ltD)])
    rw [hmo] at e2'
    refine ⟨P.lt 0 mo, some (.fls [.int a, .int c, .int x, .int y]), some (.int 0), g mo _ _ _ _ _ m0 m1, ?_⟩
    rw [hmo]
    simp [b__law_letters_1, e, ix4, hm, e2', hz, q]
theorem letters_loop (ns : List Int) {P : Po} (g : P.Good) {at_ : Nat} {b dl sl : Int} (d0 : 0 ≤ dl) (d1 : dl ≤ 1000) (s0 : 0 < sl) (s1 : sl ≤ 5) (b0 : 1 ≤ b) (b1 : b + 4 * dl + 2 ≤ 1000000) {h : Hh} {e2 : Option D} : ∀ (n k : Nat) (ls : List Lt) (e8 e9 e10 : Option D), at_ + k + n ≤ 1000 → (∀ l ∈ ls, l.Good) → ls.length = k →
    ∃ (ls' : List Lt) (e8' e9' e10' : Option D), (∀ l ∈ ls', l.Good) ∧ ls'.length = k + n ∧ forL (gtName 8) b__law_letters_1 none (rngD (k : Int) n) [some (scD ns), some (.int (at_ : Int)), e2, some (poD P), some (.int b), some (.int dl), some (.int sl), some (.ref h.length), e8, e9, e10] (h ++ [.lst (ls.map ltD)]) =
      .nx [some (scD ns), some (.int (at_ : Int)), e2, some (poD P), some (.int b), some (.int dl), some (.int sl), some (.ref h.length), e8', e9', e10'] (h ++ [.lst (ls'.map ltD)])
  | 0, k, ls, e8, e9, e10, _, hg, hl => ⟨ls, e8, e9, e10, hg, by omega, by rw [rngD_nil, forL_nil (gd := none) trivial]⟩
  | n + 1, k, ls, e8, e9, e10, hk, hg, hl => by
    obtain ⟨l, e9', e10', gl, t⟩ := letters_turn ns g (at_ := at_) (k := k) (by omega) d0 d1 s0 s1 b0 b1 (h := h) (ls := ls) (by omega) (e2 := e2) (e9 := e9) (e10 := e10)
    obtain ⟨ls', f8, f9, f10, i1, i2, ih⟩ := letters_loop ns g (at_ := at_) d0 d1 s0 s1 b0 b1 (h := h) (e2 := e2) n (k + 1) (ls ++ [l]) (some (.int (k : Int))) e9' e10' (by omega) (fun x hx => by
      rcases List.mem_append.mp hx with hx | hx
      · exact hg x hx
      · simp at hx; subst hx; exact gl) (by simp [hl])
    refine ⟨ls', f8, f9, f10, i1, by omega, ?_⟩
    rw [rngD_succ, forL_nx (gd := none) trivial rfl t]
    exact ih
theorem letters_spec' (ns : List Int) {P : Po} (g : P.Good) {at_ many : Nat} {b dl sl : Int} (ha : at_ + many ≤ 1000) (d0 : 0 ≤ dl) (d1 : dl ≤ 1000) (s0 : 0 < sl) (s1 : sl ≤ 5) (b0 : 1 ≤ b) (b1 : b + 4 * dl + 2 ≤ 1000000) (h : Hh) :
    ∃ ls : List Lt, (∀ l ∈ ls, l.Good) ∧ Srt ls ∧ ls.length = many ∧ m__law_letters [scD ns, .int (at_ : Int), .int (many : Int), poD P, .int b, .int dl, .int sl] h = .ok (ltsD ls) h := by
  have hr : Sm.inR (many : Int) = true := inR_ok (by omega) (by omega)
  obtain ⟨ls, f8, f9, f10, i1, i2, lp⟩ := letters_loop ns g (at_ := at_) d0 d1 s0 s1 b0 b1 (h := h) (e2 := some (.int (many : Int))) many 0 [] none none none (by omega) (by simp) rfl
  have ss := sort_spec i1 (n := h.length) (h := h ++ [.lst (ls.map ltD)]) (by simp)
  have gs : ∀ l ∈ sortL ls, l.Good := fun l hl => i1 l ((sortL_perm ls).mem_iff.mp hl)
  refine ⟨sortL ls, gs, sortL_srt ls, by rw [(sortL_perm ls).length_eq]; omega, ?_⟩
  have lo1 : los h.length ((sortL ls).map ltD) = true := by
    rw [los_all, List.all_eq_true]
    intro d hd
    obtain ⟨l, hl, rfl⟩ := List.mem_map.mp hd
    exact tm_lo (gs l hl).tml
  have z0 : ((0 : Nat) : Int) = 0 := rfl
  rw [z0] at lp
  simp at lp
  simp [m__law_letters, b__law_letters, hr, lp, ss, trR_app, lo1, ltsD]
end Lk32
/-! k32: the papers tried -/
namespace Lk32
open PySem L2 PyProof.Rows Sm SmPool
/-- a row of tame parts -/
def Tm (ds : List D) : Prop := (∀ d ∈ ds, tm 3 d = true) ∧ ds.length ≤ 100
theorem Tm.tup {ds : List D} (t : Tm ds) : tm 4 (.tup ds) = true := tm_mkT t.1 (by have := t.2; omega)
theorem Tm.fls {ds : List D} (t : Tm ds) : tm 4 (.fls ds) = true := tm_mkF t.1 (by have := t.2; omega)
theorem tak_mem {T : Mt.Tk} : ∀ d ∈ takD T, tm 3 d = true := fun d hd => by
  unfold takD at hd
  obtain ⟨o, _, rfl⟩ := List.mem_map.mp hd
  cases o <;> rfl
theorem cut_sub {xs : List D} (a b : Option Int) : (∀ d ∈ Sm.cutD xs a b, d ∈ xs) ∧ (Sm.cutD xs a b).length ≤ xs.length := by
  unfold Sm.cutD
  refine ⟨fun d hd => List.mem_of_mem_drop (List.mem_of_mem_take hd), ?_⟩
  rw [List.length_take, List.length_drop]
  omega
/-- all of them tame -/
def Ps (ps : List D) : Prop := (∀ p ∈ ps, tm 4 p = true) ∧ ps.length ≤ 100
theorem Ps.add {ps : List D} {p : D} {n : Nat} (a : (∀ p ∈ ps, tm 4 p = true) ∧ ps.length ≤ n) (h : tm 4 p = true) : (∀ q ∈ ps ++ [p], tm 4 q = true) ∧ (ps ++ [p]).length ≤ n + 1 := by
  refine ⟨fun q hq => ?_, by simp; exact a.2⟩
  rcases List.mem_append.mp hq with hq' | hq'
  · exact a.1 q hq'
  · obtain rfl := List.mem_singleton.mp hq'
    exact h
theorem z0 {e0 e1 e2 e3 e5 e6 e8 e9 : Option D} {x0 x1 x4 : D} {x2 x3 K : Int} {h : Hh} (hm : mulOk K x3 = true) : (eB opAdd (eB opIx (eV 4) (eC (.int 2))) (eB opMulA (eV 7) (eB opIx (eV 4) (eC (.int 3))))) [e0, e1, e2, e3, some (.fls [x0, x1, .int x2, .int x3, x4]), e5, e6, some (.int K), e8, e9] h = .ok (.int (x2 + K * x3)) h := by
  have ix5 : ∀ (x0 x1 x2 x3 x4 : D), atI [x0, x1, x2, x3, x4] (0 : Int) = some x0 ∧ atI [x0, x1, x2, x3, x4] (1 : Int) = some x1 ∧ atI [x0, x1, x2, x3, x4] (2 : Int) = some x2 ∧ atI [x0, x1, x2, x3, x4] (3 : Int) = some x3 ∧ atI [x0, x1, x2, x3, x4] (4 : Int) = some x4 := fun _ _ _ _ _ => ⟨rfl, rfl, rfl, rfl, rfl⟩
  simp [ix5, hm]
theorem z1 {a : M} {env : Ev} {v j : Int} {c : List Nat} {h : Hh} {b : M} (ha : a env h = .ok (.int v) h) (hb : b env h = .ok (.int (c.length : Int)) h) (hc : 0 < c.length) (hj : v % (c.length : Int) = j) : (eB opMod (eN opInt [a]) b) env h = .ok (.int j) h := by
  simp [ha, hb, hc, hj]
theorem z2 {e0 e2 e3 e4 e5 e6 e8 e9 : Option D} {K j : Int} {h : Hh} {c : List Nat} {v : Nat} {cs : List D} {i : M} (hc : atI cs K = some (.tup (c.map natD))) (hi : i [e0, some (.tup cs), e2, e3, e4, e5, e6, some (.int K), e8, e9] h = .ok (.int j) h) (hx : atI (c.map natD) j = some (natD v)) : (eB opIx (eB opIx (eV 1) (eV 7)) i) [e0, some (.tup cs), e2, e3, e4, e5, e6, some (.int K), e8, e9] h = .ok (natD v) h := by
  simp [hc, hi, hx]
theorem z3 {e0 e2 e3 e4 e5 e6 e8 e9 : Option D} {K : Int} {h : Hh} {c : List Nat} {cs : List D} (hc : atI cs K = some (.tup (c.map natD))) : (eN opLen [(eB opIx (eV 1) (eV 7))]) [e0, some (.tup cs), e2, e3, e4, e5, e6, some (.int K), e8, e9] h = .ok (.int (c.length : Int)) h := by
  simp [hc]
section
variable {cs : List (List Nat)}
theorem any_turn (hcs : ∀ c ∈ cs, c.length ≤ 24) (hl : cs.length ≤ 24) {h : Hh} {A : Mt.Tk} {k : Nat} (hk : k < cs.length) (hA : A.length ≤ 100) {x2 x3 x4 : Int} (b2 : 0 ≤ x2) (b3 : 0 ≤ x3) (b3' : x3 < 24) {e0 e2 e3 e5 e8 e9 : Option D} {x0 x1 : D} {p : List D} :
    ∃ o : Option Nat, b__law_papers_1 [e0, some (rowsD cs), e2, e3, some (.fls [x0, x1, .int x2, .int x3, .int x4]), e5, some (.ref (h.length + 1)), some (.int (k : Int)), e8, e9] (h ++ [.lst p, .lst (takD A)]) =
      .nx [e0, some (rowsD cs), e2, e3, some (.fls [x0, x1, .int x2, .int x3, .int x4]), e5, some (.ref (h.length + 1)), some (.int (k : Int)), e8, e9] (h ++ [.lst p, .lst (takD (A ++ [o]))]) := by
  have hc := atRows hk
  have ix5 : ∀ (x0 x1 x2 x3 x4 : D), atI [x0, x1, x2, x3, x4] (0 : Int) = some x0 ∧ atI [x0, x1, x2, x3, x4] (1 : Int) = some x1 ∧ atI [x0, x1, x2, x3, x4] (2 : Int) = some x2 ∧ atI [x0, x1, x2, x3, x4] (3 : Int) = some x3 ∧ atI [x0, x1, x2, x3, x4] (4 : Int) = some x4 := fun _ _ _ _ _ => ⟨rfl, rfl, rfl, rfl, rfl⟩
  have hz : (takD A).length < sizeLine := by simp [takD]; rw [sizeLine_eq]; omega
  have s2 : ∀ a b c : O, (h ++ [a, b]).set (h.length + 1) c = h ++ [a, c] := fun a b c => by
    rw [List.set_append_right _ _ (by omega)]
    simp
  have tk : ∀ o : Option Nat, takD (A ++ [o]) = takD A ++ [optD o] := fun o => by simp [takD]
  have hm : mulOk (k : Int) x3 = true := mulOk_r (by omega) (by omega)
  have hcm : (Mt.cn cs k) ∈ cs := by
    unfold Mt.cn
    rw [List.getD_eq_getElem?_getD, List.getElem?_eq_getElem hk]
    simp
  have hcl := hcs _ hcm
  generalize hcc : Mt.cn cs k = c at hc hcl
  have eq0 : opEq (rowD c) (.tup []) (h ++ [.lst p, .lst (takD A)]) = some (.bl (decide (c = [])), h ++ [.lst p, .lst (takD A)]) := by
    rw [opEq_ok _ (okD_mono (by omega) (tm_ok (tm_row (c := c) (by omega)))) (by rfl)]
    cases c <;> simp [rowD, eqd, eqds]
  simp only [rowsD] at hc ⊢
  generalize (k : Int) = K at hc hm ⊢
  by_cases c0 : c = []
  · refine ⟨none, ?_⟩
    subst c0
    simp at eq0
    simp [b__law_papers_1, hc, eq0, hz, s2, tk, optD]
  · have c0' : 0 < c.length := List.length_pos_iff.mpr c0
    simp [c0] at eq0
    obtain ⟨w, hw⟩ : ∃ w : Int, (K + x3) % 5 = w := ⟨_, rfl⟩
    by_cases q : x4 = 1 ∧ w = 0
    · refine ⟨none, ?_⟩
      have q2 := q.2
      have q1 := q.1
      subst q1
      rw [q2] at hw
      simp only [rowD] at hc eq0
      simp [b__law_papers_1, hc, eq0, ix5, hw, hz, s2, tk, optD]
    · obtain ⟨j, hj⟩ : ∃ j : Int, (x2 + K * x3) % (c.length : Int) = j := ⟨_, rfl⟩
      have j0 : 0 ≤ j := by rw [← hj]; exact Int.emod_nonneg _ (by omega)
      have j1 : j < c.length := by rw [← hj]; exact Int.emod_lt_of_pos _ (by omega)
      have hjn : j.toNat < c.length := by omega
      obtain ⟨v, hx⟩ : ∃ v : Nat, atI (c.map natD) j = some (natD v) := by
        refine ⟨c[j.toNat], ?_⟩
        rw [atI_pos j0]
        simp [hjn]
      refine ⟨some v, ?_⟩
      simp only [rowD] at hc eq0
      have fin := z2 (e0 := e0) (e2 := e2) (e3 := e3) (e4 := some (.fls [x0, x1, .int x2, .int x3, .int x4])) (e5 := e5) (e6 := some (.ref (h.length + 1))) (e8 := e8) (e9 := e9) (h := h ++ [.lst p, .lst (takD A)]) hc (z1 (z0 hm) (z3 hc) c0' hj) hx
      clear hj j0 j1 hjn hx hm
      by_cases q1 : x4 = 1
      · have q2 : ¬ w = 0 := fun z => q ⟨q1, z⟩
        subst q1
        simp [b__law_papers_1, hc, eq0, ix5, hw, q2, ↓fin, hz, s2, tk, optD]
      · simp [b__law_papers_1, hc, eq0, ix5, q1, ↓fin, hz, s2, tk, optD]
theorem any_loop (hcs : ∀ c ∈ cs, c.length ≤ 24) (hl : cs.length ≤ 24) {h : Hh} {x2 x3 x4 : Int} (b2 : 0 ≤ x2) (b3 : 0 ≤ x3) (b3' : x3 < 24) {e0 e2 e3 e5 e8 e9 : Option D} {x0 x1 : D} {p : List D} : ∀ (n k : Nat) (A : Mt.Tk) (e7 : Option D), k + n = cs.length → A.length = k →
    ∃ (A' : Mt.Tk) (e7' : Option D), A'.length = cs.length ∧ forL (gtName 7) b__law_papers_1 none (rngD (k : Int) n) [e0, some (rowsD cs), e2, e3, some (.fls [x0, x1, .int x2, .int x3, .int x4]), e5, some (.ref (h.length + 1)), e7, e8, e9] (h ++ [.lst p, .lst (takD A)]) =
      .nx [e0, some (rowsD cs), e2, e3, some (.fls [x0, x1, .int x2, .int x3, .int x4]), e5, some (.ref (h.length + 1)), e7', e8, e9] (h ++ [.lst p, .lst (takD A')])
  | 0, k, A, e7, hk, hA => ⟨A, e7, by omega, by rw [rngD_nil, forL_nil (gd := none) trivial]⟩
  | n + 1, k, A, e7, hk, hA => by
    obtain ⟨o, t⟩ := any_turn hcs hl (h := h) (A := A) (k := k) (by omega) (by omega) (x2 := x2) (x3 := x3) (x4 := x4) b2 b3 b3' (e0 := e0) (e2 := e2) (e3 := e3) (e5 := e5) (e8 := e8) (e9 := e9) (x0 := x0) (x1 := x1) (p := p)
    obtain ⟨A', e7', i1, ih⟩ := any_loop hcs hl (h := h) (x2 := x2) (x3 := x3) (x4 := x4) b2 b3 b3' (e0 := e0) (e2 := e2) (e3 := e3) (e5 := e5) (e8 := e8) (e9 := e9) (x0 := x0) (x1 := x1) (p := p) n (k + 1) (A ++ [o]) (some (.int (k : Int))) (by omega) (by simp [hA])
    refine ⟨A', e7', i1, ?_⟩
    rw [rngD_succ, forL_nx (gd := none) trivial rfl t]
    exact ih
end
end Lk32
/-! k32: the papers tried, all of them -/
namespace Lk32
open PySem L2 PyProof.Rows Sm SmPool
def vals (many : Int) : List D := (List.range 25).map natD ++ [.int many, .int (-1), .bl true, .bl false, .non, .str "0", .tup [.int 0], .fls [.int 0]]
theorem vals_tm (many : Int) : ∀ d ∈ vals many, tm 3 d = true := by
  intro d hd
  unfold vals at hd
  rcases List.mem_append.mp hd with hd | hd
  · obtain ⟨k, _, rfl⟩ := List.mem_map.mp hd
    rfl
  · simp only [List.mem_cons, List.not_mem_nil, or_false] at hd
    rcases hd with rfl | rfl | rfl | rfl | rfl | rfl | rfl | rfl
    · rfl
    · rfl
    · rfl
    · rfl
    · rfl
    · decide +kernel
    · decide +kernel
    · decide +kernel
theorem vals_at (many : Int) {x : Int} (h0 : 0 ≤ x) (h1 : x < 33) : ∃ v, tm 3 v = true ∧ atI (vals many) x = some v := by
  have hl : (vals many).length = 33 := by simp [vals]
  have hx : x.toNat < (vals many).length := by omega
  refine ⟨(vals many)[x.toNat], vals_tm many _ (List.getElem_mem _), ?_⟩
  rw [atI_pos h0, List.getElem?_eq_getElem hx]
/-- one part put in another's place -/
def swp (ds : List D) (j : Int) (v : D) : List D := Sm.cutD ds none (some j) ++ [v] ++ Sm.cutD ds (some (j + 1)) none
theorem swp_tm {ds : List D} (hd : ∀ d ∈ ds, tm 3 d = true) (hl : ds.length ≤ 24) {v : D} (hv : tm 3 v = true) (j : Int) : Tm (swp ds j v) := by
  have c1 := cut_sub (xs := ds) none (some j)
  have c2 := cut_sub (xs := ds) (some (j + 1)) none
  refine ⟨fun d h => ?_, by unfold swp; simp; omega⟩
  unfold swp at h
  rcases List.mem_append.mp h with h | h
  · rcases List.mem_append.mp h with h | h
    · exact hd d (c1.1 d h)
    · rw [List.mem_singleton.mp h]; exact hv
  · exact hd d (c2.1 d h)
section
variable {h : Hh} {T A : Mt.Tk} {e0 e1 e2 e3 e4 e6 e7 e8 e9 : Option D}
theorem app_t {p : List D} {q : O} {m : M} {d : D} (hp : p.length ≤ 100) {env : Ev} (h5 : env[5]? = some (some (.ref h.length))) (hm : m env (h ++ [.lst p, q]) = .ok d (h ++ [.lst p, q])) :
    sExpr (eMt opAppend (eV 5) [m]) env (h ++ [.lst p, q]) = .nx env (h ++ [.lst (p ++ [d]), q]) := by
  have hz : p.length < sizeLine := by rw [sizeLine_eq]; omega
  have e5 : eV 5 env (h ++ [.lst p, q]) = .ok (.ref h.length) (h ++ [.lst p, q]) := by
    unfold eV
    rw [h5]
  simp only [sExpr_eq, eMt_eq, e5]
  simp [hm, hz]
theorem swp1 {g : Hh} {j x1 : Int} {v : D} {x0 x2 x3 x4 : D} {vs : List D} (hl : T.length ≤ 24) (hv : atI vs x1 = some v) :
    (eB opAdd (eB opAdd (eSlF (eV 2) none (some (eV 9))) (eTup [(eB opIx (eV 8) (eB opIx (eV 4) (eC (.int 1))))])) (eSlF (eV 2) (some (eB opAdd (eV 9) (eC (.int 1)))) none)) [e0, e1, some (tellD T), e3, some (.fls [x0, .int x1, x2, x3, x4]), e2, e6, e7, some (.fls vs), some (.int j)] g = .ok (.tup (swp (takD T) j v)) g := by
  have ix5 : ∀ (x0 x1 x2 x3 x4 : D), atI [x0, x1, x2, x3, x4] (1 : Int) = some x1 := fun _ _ _ _ _ => rfl
  have c1 := (cut_sub (xs := takD T) none (some j)).2
  have c2 := (cut_sub (xs := takD T) (some (j + 1)) none).2
  have lt : (takD T).length = T.length := by simp [takD]
  have z1 : (Sm.cutD (takD T) none (some j)).length + 1 ≤ sizeLine := line4k (by omega)
  have z2 : (Sm.cutD (takD T) none (some j)).length + (1 + (Sm.cutD (takD T) (some (j + 1)) none).length) ≤ sizeLine := line4k (by omega)
  have z3 : (Sm.cutD (takD T) none (some j)).length + 1 + (Sm.cutD (takD T) (some (j + 1)) none).length ≤ sizeLine := line4k (by omega)
  simp [tellD, ix5, hv, z1, z2, z3, swp]
theorem swp2 {j x1 : Int} {v : D} {x0 x2 x3 x4 : D} {vs p : List D} (hl : A.length ≤ 24) (hv : atI vs x1 = some v) :
    (eN opTupleOf [(eB opAddF (eB opAddF (eSlF (eV 6) none (some (eV 9))) (eLstF [(eB opIx (eV 8) (eB opIx (eV 4) (eC (.int 1))))])) (eSlF (eV 6) (some (eB opAdd (eV 9) (eC (.int 1)))) none))]) [e0, e1, e2, e3, some (.fls [x0, .int x1, x2, x3, x4]), e6, some (.ref (h.length + 1)), e7, some (.fls vs), some (.int j)] (h ++ [.lst p, .lst (takD A)]) = .ok (.tup (swp (takD A) j v)) (h ++ [.lst p, .lst (takD A)]) := by
  have ix5 : ∀ (x0 x1 x2 x3 x4 : D), atI [x0, x1, x2, x3, x4] (1 : Int) = some x1 := fun _ _ _ _ _ => rfl
  have c1 := (cut_sub (xs := takD A) none (some j)).2
  have c2 := (cut_sub (xs := takD A) (some (j + 1)) none).2
  have lt : (takD A).length = A.length := by simp [takD]
  have z1 : (Sm.cutD (takD A) none (some j)).length + 1 ≤ sizeLine := line4k (by omega)
  have z2 : (Sm.cutD (takD A) none (some j)).length + (1 + (Sm.cutD (takD A) (some (j + 1)) none).length) ≤ sizeLine := line4k (by omega)
  have z3 : (Sm.cutD (takD A) none (some j)).length + 1 + (Sm.cutD (takD A) (some (j + 1)) none).length ≤ sizeLine := line4k (by omega)
  simp [ix5, hv, z1, z2, z3, swp]
theorem swp3 {g : Hh} {j x2 i : Int} {v : Nat} {x0 x1 x3 x4 : D} {cs : List (List Nat)} {c : List Nat} (hl : T.length ≤ 24) (hc : atI (cs.map rowD) j = some (rowD c)) (c0 : 0 < c.length) (hi : x2 % (c.length : Int) = i) (hv : atI (c.map natD) i = some (natD v)) :
    (eB opAdd (eB opAdd (eSlF (eV 2) none (some (eV 9))) (eTup [(eB opIx (eB opIx (eV 1) (eV 9)) (eB opMod (eN opInt [(eB opIx (eV 4) (eC (.int 2)))]) (eN opLen [(eB opIx (eV 1) (eV 9))])))])) (eSlF (eV 2) (some (eB opAdd (eV 9) (eC (.int 1)))) none)) [e0, some (rowsD cs), some (tellD T), e3, some (.fls [x0, x1, .int x2, x3, x4]), e2, e6, e7, e8, some (.int j)] g = .ok (.tup (swp (takD T) j (natD v))) g := by
  have ix5 : ∀ (x0 x1 x2 x3 x4 : D), atI [x0, x1, x2, x3, x4] (2 : Int) = some x2 := fun _ _ _ _ _ => rfl
  have c1 := (cut_sub (xs := takD T) none (some j)).2
  have c2 := (cut_sub (xs := takD T) (some (j + 1)) none).2
  have lt : (takD T).length = T.length := by simp [takD]
  have z1 : (Sm.cutD (takD T) none (some j)).length + 1 ≤ sizeLine := line4k (by omega)
  have z2 : (Sm.cutD (takD T) none (some j)).length + (1 + (Sm.cutD (takD T) (some (j + 1)) none).length) ≤ sizeLine := line4k (by omega)
  have z3 : (Sm.cutD (takD T) none (some j)).length + 1 + (Sm.cutD (takD T) (some (j + 1)) none).length ≤ sizeLine := line4k (by omega)
  simp only [rowD] at hc
  simp [tellD, rowsD, ix5, hc, c0, hi, hv, z1, z2, z3, swp]
end
end Lk32
/-! k32: _law_papers -/
namespace Lk32
open PySem L2 PyProof.Rows Sm SmPool
section
variable {cs : List (List Nat)} {T : Mt.Tk}
theorem papers_spec (ns : List Int) {many : Nat} (hcs : ∀ c ∈ cs, c.length ≤ 24) (hl : cs.length ≤ 24) (hT : T.length = cs.length) (h : Hh) :
    ∃ ps : List D, (∀ p ∈ ps, tm 4 p = true) ∧ ps.length ≤ 100 ∧ m__law_papers [scD ns, rowsD cs, tellD T, .int (many : Int)] h = .ok (.fls ps) h := by
  obtain ⟨ds, hb, e⟩ := row_spec3 ns (k := 56) (by omega) (ss := [24, 33, 24, 24, 2]) (by simp) (by simp) h
  rcases hb with _ | ⟨a0, a1, hb⟩
  rcases hb with _ | ⟨b0, b1, hb⟩
  rcases hb with _ | ⟨c0, c1, hb⟩
  rcases hb with _ | ⟨d0, d1, hb⟩
  rcases hb with _ | ⟨f0, f1, hb⟩
  cases hb
  rename_i x0 x1 x2 x3 x4
  simp at e
  have lt : (takD T).length = T.length := by simp [takD]
  -- the first seven
  obtain ⟨cm, hcm⟩ : ∃ cm, cm = Sm.cutD (takD T) none (some (-1)) := ⟨_, rfl⟩
  have cms := cut_sub (xs := takD T) none (some (-1))
  rw [← hcm] at cms
  obtain ⟨p0, hp0⟩ : ∃ p0 : List D, p0 = [tellD T, .tup (cs.map fun _ => .non), .fls (takD T), .tup (takD T ++ [.non]), .tup cm, .tup [], .non] := ⟨_, rfl⟩
  have tp0 : (∀ q ∈ p0, tm 4 q = true) ∧ p0.length ≤ 7 := by
    rw [hp0]
    refine ⟨fun q hq => ?_, by simp⟩
    simp only [List.mem_cons, List.not_mem_nil, or_false] at hq
    rcases hq with rfl | rfl | rfl | rfl | rfl | rfl | rfl
    · exact Tm.tup ⟨tak_mem, by omega⟩
    · exact Tm.tup ⟨fun d hd => by
        obtain ⟨_, _, rfl⟩ := List.mem_map.mp hd
        rfl, by simp; omega⟩
    · exact Tm.fls ⟨tak_mem, by omega⟩
    · exact Tm.tup ⟨fun d hd => by
        rcases List.mem_append.mp hd with hd | hd
        · exact tak_mem d hd
        · rw [List.mem_singleton.mp hd]; rfl, by simp; omega⟩
    · exact Tm.tup ⟨fun d hd => tak_mem d (cms.1 d hd), by omega⟩
    · rfl
    · rfl
  have lc := fz_lcM (i := 7) (m := eC .non) (env := [some (scD ns), some (rowsD cs), some (tellD T), some (.int (many : Int)), some (.fls [.int x0, .int x1, .int x2, .int x3, .int x4]), none, none, none, none, none]) (h := h) rowD (fun _ => D.non) cs (fun c _ acc => by simp) (line4k (by omega)) (by simp [los_all])
  have z1 : (takD T).length + 1 ≤ sizeLine := line4k (by omega)
  have s2 : sSet 5 (eLst [(eV 2), (eN opTupleOf [(eFz (eLc (mSeqS (eV 1)) (gtName 7) tYesM (eC .non) [7]))]), (eN opListF [(eV 2)]), (eB opAdd (eV 2) (eTup [(eC .non)])), (eSlF (eV 2) none (some (eU opNeg (eC (.int 1))))), (eTup []), (eC .non)]) [some (scD ns), some (rowsD cs), some (tellD T), some (.int (many : Int)), some (.fls [.int x0, .int x1, .int x2, .int x3, .int x4]), none, none, none, none, none] h =
      .nx [some (scD ns), some (rowsD cs), some (tellD T), some (.int (many : Int)), some (.fls [.int x0, .int x1, .int x2, .int x3, .int x4]), some (.ref h.length), none, none, none, none] (h ++ [.lst p0]) := by
    rw [hp0, hcm]
    simp only [rowsD, tellD] at lc ⊢
    simp [lc, z1]
  have s3 : sSet 6 (eLst []) [some (scD ns), some (rowsD cs), some (tellD T), some (.int (many : Int)), some (.fls [.int x0, .int x1, .int x2, .int x3, .int x4]), some (.ref h.length), none, none, none, none] (h ++ [.lst p0]) =
      .nx [some (scD ns), some (rowsD cs), some (tellD T), some (.int (many : Int)), some (.fls [.int x0, .int x1, .int x2, .int x3, .int x4]), some (.ref h.length), some (.ref (h.length + 1)), none, none, none] (h ++ [.lst p0, .lst []]) := by simp
  obtain ⟨A, e7, hA, lp⟩ := any_loop hcs hl (h := h) (x2 := x2) (x3 := x3) (x4 := x4) c0 d0 d1 (e0 := some (scD ns)) (e2 := some (tellD T)) (e3 := some (.int (many : Int))) (e5 := some (.ref h.length)) (e8 := none) (e9 := none) (x0 := .int x0) (x1 := .int x1) (p := p0) cs.length 0 [] none (by omega) rfl
  have hr : Sm.inR (cs.length : Int) = true := inR_ok (by omega) (by omega)
  have s4 : (sFor (mRng1 (eN opLen [(eV 1)])) (gtName 7) b__law_papers_1) [some (scD ns), some (rowsD cs), some (tellD T), some (.int (many : Int)), some (.fls [.int x0, .int x1, .int x2, .int x3, .int x4]), some (.ref h.length), some (.ref (h.length + 1)), none, none, none] (h ++ [.lst p0, .lst []]) =
      .nx [some (scD ns), some (rowsD cs), some (tellD T), some (.int (many : Int)), some (.fls [.int x0, .int x1, .int x2, .int x3, .int x4]), some (.ref h.length), some (.ref (h.length + 1)), e7, none, none] (h ++ [.lst p0, .lst (takD A)]) := by
    have zz : ((0 : Nat) : Int) = 0 := rfl
    have t0 : takD [] = [] := rfl
    rw [zz, t0] at lp
    simp only [rowsD] at lp ⊢
    simp [hr, lp]
  clear lp lc
  have lA : (takD A).length = A.length := by simp [takD]
  have s5 := app_t (h := h) (p := p0) (q := .lst (takD A)) (m := eN opTupleOf [(eV 6)]) (d := .tup (takD A)) (by have := tp0.2; omega) (env := [some (scD ns), some (rowsD cs), some (tellD T), some (.int (many : Int)), some (.fls [.int x0, .int x1, .int x2, .int x3, .int x4]), some (.ref h.length), some (.ref (h.length + 1)), e7, none, none]) rfl (by simp)
  have tp1 := Ps.add tp0 (Tm.tup ⟨tak_mem (T := A), by omega⟩)
  generalize p0 ++ [.tup (takD A)] = p1 at s5 tp1
  have lv := fz_lcM (i := 7) (m := eV 7) (env := [some (scD ns), some (rowsD cs), some (tellD T), some (.int (many : Int)), some (.fls [.int x0, .int x1, .int x2, .int x3, .int x4]), some (.ref h.length), some (.ref (h.length + 1)), e7, none, none]) (h := h ++ [.lst p1, .lst (takD A)]) natD natD (List.range 25) (fun k _ acc => by simp [natD]) (line4k (by simp)) (los_nat _ _)
  have hx : List.map natD (List.range 25) = rngD 0 25 := (rngD_range _).symm
  have s6 : sSet 8 (eB opAddF (eFz (eLc (mRng1 (eC (.int 25))) (gtName 7) tYesM (eV 7) [7])) (eLstF [(eV 3), (eU opNeg (eC (.int 1))), (eC (.bl true)), (eC (.bl false)), (eC .non), (eC (.str "0")), (eTup [(eC (.int 0))]), (eLstF [(eC (.int 0))])])) [some (scD ns), some (rowsD cs), some (tellD T), some (.int (many : Int)), some (.fls [.int x0, .int x1, .int x2, .int x3, .int x4]), some (.ref h.length), some (.ref (h.length + 1)), e7, none, none] (h ++ [.lst p1, .lst (takD A)]) =
      .nx [some (scD ns), some (rowsD cs), some (tellD T), some (.int (many : Int)), some (.fls [.int x0, .int x1, .int x2, .int x3, .int x4]), some (.ref h.length), some (.ref (h.length + 1)), e7, some (.fls (vals (many : Int))), none] (h ++ [.lst p1, .lst (takD A)]) := by
    have hN : (rngD 0 25).length = 25 := by rw [← hx]; simp
    have hz : (rngD 0 25).length + 8 ≤ sizeLine := line4k (by omega)
    have hv : vals (many : Int) = rngD 0 25 ++ [.int many, .int (-1), .bl true, .bl false, .non, .str "0", .tup [.int 0], .fls [.int 0]] := by
      unfold vals
      rw [hx]
    have hi : Sm.inR (25 : Int) = true := by decide
    rw [hx] at lv
    rw [hv]
    generalize h ++ [.lst p1, .lst (takD A)] = H at lv ⊢
    simp [lv, hi, hz]
  clear lv
  -- the papers near the least one
  have key : ∃ (p2 : List D) (e9 : Option D), (∀ p ∈ p2, tm 4 p = true) ∧ p2.length ≤ 100 ∧
      (sIf (tBl (eB opGtX (eN opLen [(eV 1)]) (eC (.int 0)))) (sSeq (sSet 9 (eB opMod (eN opInt [(eB opIx (eV 4) (eC (.int 0)))]) (eN opLen [(eV 1)])))
    (sSeq (sExpr (eMt opAppend (eV 5) [(eB opAdd (eB opAdd (eSlF (eV 2) none (some (eV 9))) (eTup [(eB opIx (eV 8) (eB opIx (eV 4) (eC (.int 1))))])) (eSlF (eV 2) (some (eB opAdd (eV 9) (eC (.int 1)))) none))]))
    (sSeq (sExpr (eMt opAppend (eV 5) [(eN opTupleOf [(eB opAddF (eB opAddF (eSlF (eV 6) none (some (eV 9))) (eLstF [(eB opIx (eV 8) (eB opIx (eV 4) (eC (.int 1))))])) (eSlF (eV 6) (some (eB opAdd (eV 9) (eC (.int 1)))) none))])]))
    (sIf (tBl (eB opNe (eB opIx (eV 1) (eV 9)) (eTup []))) (sExpr (eMt opAppend (eV 5) [(eB opAdd (eB opAdd (eSlF (eV 2) none (some (eV 9))) (eTup [(eB opIx (eB opIx (eV 1) (eV 9)) (eB opMod (eN opInt [(eB opIx (eV 4) (eC (.int 2)))]) (eN opLen [(eB opIx (eV 1) (eV 9))])))])) (eSlF (eV 2) (some (eB opAdd (eV 9) (eC (.int 1)))) none))])) sSkip)))) sSkip) [some (scD ns), some (rowsD cs), some (tellD T), some (.int (many : Int)), some (.fls [.int x0, .int x1, .int x2, .int x3, .int x4]), some (.ref h.length), some (.ref (h.length + 1)), e7, some (.fls (vals (many : Int))), none] (h ++ [.lst p1, .lst (takD A)]) =
      .nx [some (scD ns), some (rowsD cs), some (tellD T), some (.int (many : Int)), some (.fls [.int x0, .int x1, .int x2, .int x3, .int x4]), some (.ref h.length), some (.ref (h.length + 1)), e7, some (.fls (vals (many : Int))), e9] (h ++ [.lst p2, .lst (takD A)]) := by
    by_cases hpos : 0 < cs.length
    · obtain ⟨j, hj⟩ : ∃ j : Int, x0 % (cs.length : Int) = j := ⟨_, rfl⟩
      have j0 : 0 ≤ j := by rw [← hj]; exact Int.emod_nonneg _ (by omega)
      have j1 : j < cs.length := by rw [← hj]; exact Int.emod_lt_of_pos _ (by omega)
      obtain ⟨jn, hjn⟩ : ∃ jn : Nat, (jn : Int) = j := ⟨j.toNat, by omega⟩
      obtain ⟨c, hc, hcm⟩ : ∃ c, atI (cs.map rowD) j = some (rowD c) ∧ c ∈ cs := by
        have hjl : jn < cs.length := by omega
        refine ⟨Mt.cn cs jn, by rw [← hjn]; exact atRows hjl, ?_⟩
        unfold Mt.cn
        rw [List.getD_eq_getElem?_getD, List.getElem?_eq_getElem hjl]
        simp
      obtain ⟨v, tv, hv⟩ := vals_at (many : Int) b0 b1
      have t1 : sSet 9 (eB opMod (eN opInt [(eB opIx (eV 4) (eC (.int 0)))]) (eN opLen [(eV 1)])) [some (scD ns), some (rowsD cs), some (tellD T), some (.int (many : Int)), some (.fls [.int x0, .int x1, .int x2, .int x3, .int x4]), some (.ref h.length), some (.ref (h.length + 1)), e7, some (.fls (vals (many : Int))), none] (h ++ [.lst p1, .lst (takD A)]) =
          .nx [some (scD ns), some (rowsD cs), some (tellD T), some (.int (many : Int)), some (.fls [.int x0, .int x1, .int x2, .int x3, .int x4]), some (.ref h.length), some (.ref (h.length + 1)), e7, some (.fls (vals (many : Int))), some (.int j)] (h ++ [.lst p1, .lst (takD A)]) := by
        have ix5 : ∀ (x0 x1 x2 x3 x4 : D), atI [x0, x1, x2, x3, x4] (0 : Int) = some x0 := fun _ _ _ _ _ => rfl
        simp [rowsD, ix5, hpos, hj]
      have t2 := app_t (h := h) (p := p1) (q := .lst (takD A)) (d := .tup (swp (takD T) j v)) (by have := tp1.2; omega) (env := [some (scD ns), some (rowsD cs), some (tellD T), some (.int (many : Int)), some (.fls [.int x0, .int x1, .int x2, .int x3, .int x4]), some (.ref h.length), some (.ref (h.length + 1)), e7, some (.fls (vals (many : Int))), some (.int j)]) rfl (swp1 (T := T) (by omega) hv)
      have tp2 := Ps.add tp1 (swp_tm (ds := takD T) tak_mem (by omega) tv j).tup
      generalize p1 ++ [.tup (swp (takD T) j v)] = p2 at t2 tp2
      have t3 := app_t (h := h) (p := p2) (q := .lst (takD A)) (d := .tup (swp (takD A) j v)) (by have := tp2.2; omega) (env := [some (scD ns), some (rowsD cs), some (tellD T), some (.int (many : Int)), some (.fls [.int x0, .int x1, .int x2, .int x3, .int x4]), some (.ref h.length), some (.ref (h.length + 1)), e7, some (.fls (vals (many : Int))), some (.int j)]) rfl (swp2 (A := A) (by omega) hv)
      have tp3 := Ps.add tp2 (swp_tm (ds := takD A) tak_mem (by omega) tv j).tup
      generalize p2 ++ [.tup (swp (takD A) j v)] = p3 at t3 tp3
      have ne : opNe (rowD c) (.tup []) (h ++ [.lst p3, .lst (takD A)]) = some (.bl (!decide (c = [])), h ++ [.lst p3, .lst (takD A)]) := by
        rw [opNe_ok _ (okD_mono (by omega) (tm_ok (tm_row (c := c) (by have := hcs c hcm; omega)))) (by rfl)]
        cases c <;> simp [rowD, eqd, eqds]
      have hc' := hc
      simp only [rowD] at hc' ne
      have top : tBl (eB opGtX (eN opLen [(eV 1)]) (eC (.int 0))) [some (scD ns), some (rowsD cs), some (tellD T), some (.int (many : Int)), some (.fls [.int x0, .int x1, .int x2, .int x3, .int x4]), some (.ref h.length), some (.ref (h.length + 1)), e7, some (.fls (vals (many : Int))), none] (h ++ [.lst p1, .lst (takD A)]) = .ok true (h ++ [.lst p1, .lst (takD A)]) := by
        simp [rowsD, hpos]
      by_cases cz : c = []
      · refine ⟨p3, some (.int j), tp3.1, by have := tp3.2; omega, ?_⟩
        subst cz
        simp at ne
        have t4 : (sIf (tBl (eB opNe (eB opIx (eV 1) (eV 9)) (eTup []))) (sExpr (eMt opAppend (eV 5) [(eB opAdd (eB opAdd (eSlF (eV 2) none (some (eV 9))) (eTup [(eB opIx (eB opIx (eV 1) (eV 9)) (eB opMod (eN opInt [(eB opIx (eV 4) (eC (.int 2)))]) (eN opLen [(eB opIx (eV 1) (eV 9))])))])) (eSlF (eV 2) (some (eB opAdd (eV 9) (eC (.int 1)))) none))])) sSkip) [some (scD ns), some (rowsD cs), some (tellD T), some (.int (many : Int)), some (.fls [.int x0, .int x1, .int x2, .int x3, .int x4]), some (.ref h.length), some (.ref (h.length + 1)), e7, some (.fls (vals (many : Int))), some (.int j)] (h ++ [.lst p3, .lst (takD A)]) =
            .nx [some (scD ns), some (rowsD cs), some (tellD T), some (.int (many : Int)), some (.fls [.int x0, .int x1, .int x2, .int x3, .int x4]), some (.ref h.length), some (.ref (h.length + 1)), e7, some (.fls (vals (many : Int))), some (.int j)] (h ++ [.lst p3, .lst (takD A)]) := by
          simp [rowsD, hc', ne]
        have go : ∀ (a b : S) (env : Ev) (g : Hh), tBl (eB opGtX (eN opLen [(eV 1)]) (eC (.int 0))) env g = .ok true g → sIf (tBl (eB opGtX (eN opLen [(eV 1)]) (eC (.int 0)))) a b env g = a env g := fun a b env g hh => by
          simp only [sIf_eq, hh, sIf1_t]
        rw [go _ _ _ _ top, seq_nx t1, seq_nx t2, seq_nx t3, t4]
      · obtain ⟨i, hi⟩ : ∃ i : Int, x2 % (c.length : Int) = i := ⟨_, rfl⟩
        have cp : 0 < c.length := List.length_pos_iff.mpr cz
        have i0 : 0 ≤ i := by rw [← hi]; exact Int.emod_nonneg _ (by omega)
        have i1 : i < c.length := by rw [← hi]; exact Int.emod_lt_of_pos _ (by omega)
        have hin : i.toNat < c.length := by omega
        obtain ⟨w, hw⟩ : ∃ w : Nat, atI (c.map natD) i = some (natD w) := by
          refine ⟨c[i.toNat], ?_⟩
          rw [atI_pos i0]
          simp [hin]
        have t5 := app_t (h := h) (p := p3) (q := .lst (takD A)) (d := .tup (swp (takD T) j (natD w))) (by have := tp3.2; omega) (env := [some (scD ns), some (rowsD cs), some (tellD T), some (.int (many : Int)), some (.fls [.int x0, .int x1, .int x2, .int x3, .int x4]), some (.ref h.length), some (.ref (h.length + 1)), e7, some (.fls (vals (many : Int))), some (.int j)]) rfl (swp3 (T := T) (by omega) hc cp hi hw)
        have tp4 := Ps.add tp3 (swp_tm (ds := takD T) tak_mem (by omega) (v := natD w) rfl j).tup
        refine ⟨p3 ++ [.tup (swp (takD T) j (natD w))], some (.int j), tp4.1, by have := tp4.2; omega, ?_⟩
        simp [cz] at ne
        have tst : tBl (eB opNe (eB opIx (eV 1) (eV 9)) (eTup [])) [some (scD ns), some (rowsD cs), some (tellD T), some (.int (many : Int)), some (.fls [.int x0, .int x1, .int x2, .int x3, .int x4]), some (.ref h.length), some (.ref (h.length + 1)), e7, some (.fls (vals (many : Int))), some (.int j)] (h ++ [.lst p3, .lst (takD A)]) = .ok true (h ++ [.lst p3, .lst (takD A)]) := by
          simp [rowsD, hc', ne]
        have go : ∀ (t : MT) (a b : S) (env : Ev) (g : Hh), t env g = .ok true g → sIf t a b env g = a env g := fun t a b env g hh => by
          simp only [sIf_eq, hh, sIf1_t]
        rw [go _ _ _ _ _ top, seq_nx t1, seq_nx t2, seq_nx t3, go _ _ _ _ _ tst, t5]
    · have c0' : cs.length = 0 := by omega
      refine ⟨p1, none, tp1.1, by have := tp1.2; omega, ?_⟩
      simp [rowsD, c0']
  obtain ⟨p2, e9, tp2, lp2, s7⟩ := key
  refine ⟨p2, tp2, lp2, ?_⟩
  have fz := fz1_old (ds := p2) (h := h ++ [.lst p2, .lst (takD A)]) (n := h.length) (by simp)
  rw [hp_set2] at fz
  have s8 : sRet (eFz (eV 5)) [some (scD ns), some (rowsD cs), some (tellD T), some (.int (many : Int)), some (.fls [.int x0, .int x1, .int x2, .int x3, .int x4]), some (.ref h.length), some (.ref (h.length + 1)), e7, some (.fls (vals (many : Int))), e9] (h ++ [.lst p2, .lst (takD A)]) = .rt (.fls p2) (h ++ [.dead, .lst (takD A)]) := by
    simp [fz]
  have s1 : sSet 4 (eCall m__law_row [(eV 0), (eC (.int 56)), (eLstF [(eC (.int 24)), (eC (.int 33)), (eC (.int 24)), (eC (.int 24)), (eC (.int 2))])]) [some (scD ns), some (rowsD cs), some (tellD T), some (.int (many : Int)), none, none, none, none, none, none] h =
      .nx [some (scD ns), some (rowsD cs), some (tellD T), some (.int (many : Int)), some (.fls [.int x0, .int x1, .int x2, .int x3, .int x4]), none, none, none, none, none] h := by simp [e]
  have lo : los h.length p2 = true := by
    rw [los_all, List.all_eq_true]
    exact fun d hd => tm_lo (tp2 d hd)
  have body : b__law_papers [some (scD ns), some (rowsD cs), some (tellD T), some (.int (many : Int)), none, none, none, none, none, none] h = .rt (.fls p2) (h ++ [.dead, .lst (takD A)]) := by
    unfold b__law_papers
    rw [seq_nx s1, seq_nx s2, seq_nx s3, seq_nx s4, seq_nx s5, seq_nx s6, seq_nx s7, s8]
  have fin := trR_app h [.dead, .lst (takD A)] (.fls p2)
  simp [lo] at fin
  simp [m__law_papers, body, fin]
end
end Lk32
/-! k32: the law -/
namespace Lk32
open PySem L2 PyProof.Rows Sm SmPool
theorem sameL_iff {a b : Lt} : sameL a b = true ↔ a.i = b.i ∧ a.a = b.a ∧ a.o = b.o ∧ a.n = b.n ∧ a.k = b.k := by
  unfold sameL
  simp only [Bool.and_eq_true, decide_eq_true_eq]
def mAt (ls : List Lt) (x : Nat) : Int := match ls[x]? with
  | some l => l.m
  | none => 0
theorem mAt_of {ls : List Lt} {x : Nat} {l : Lt} (e : ls[x]? = some l) : mAt ls x = l.m := by simp [mAt, e]
theorem srt_m {ls : List Lt} (s : Srt ls) {q p : Nat} (h : q ≤ p) (hp : p < ls.length) : mAt ls q ≤ mAt ls p := by
  by_cases e : q = p
  · subst e
    exact Int.le_refl _
  · have := List.pairwise_iff_getElem.mp s.ms q p (by omega) hp (by omega)
    rw [mAt_of (List.getElem?_eq_getElem (by omega)), mAt_of (List.getElem?_eq_getElem hp)]
    exact this
section
variable {dl : Int} {d : Nat} {qs rs : List Lt}
def clr (qs rs : List Lt) (x q : Nat) : Prop := ∃ l r, qs[q]? = some l ∧ rs[x]? = some r ∧ sameL l r = true
theorem timed (i : In dl (d : Int) qs rs) : Mt.Timed (cands dl qs rs) qs.length (fun _ _ => True) (clr qs rs) (mAt qs) (mAt rs) (2 * dl) := by
  have cn : ∀ x, x < rs.length → ∃ r, rs[x]? = some r ∧ Mt.cn (cands dl qs rs) x = candRow dl qs r := fun x hx => by
    refine ⟨rs[x], List.getElem?_eq_getElem hx, ?_⟩
    unfold Mt.cn cands
    rw [List.getD_eq_getElem?_getD, List.getElem?_map, List.getElem?_eq_getElem hx]
    rfl
  refine ⟨fun x hx q => ?_, fun x y q p hx hy hq hp h1 h2 h3 => ?_, fun x => ?_, fun q p h hp => srt_m i.qs_ h hp, fun x y h hy => srt_m i.rs_ h (by rw [cands_len] at hy; exact hy)⟩
  · rw [cands_len] at hx
    obtain ⟨r, er, ec⟩ := cn x hx
    rw [ec]
    unfold candRow
    rw [List.mem_filter, List.mem_range]
    constructor
    · rintro ⟨h1, h2⟩
      have eq := List.getElem?_eq_getElem h1
      simp only [candP, eq, cand, Bool.and_eq_true, decide_eq_true_eq] at h2
      refine ⟨h1, ⟨_, _, eq, er, h2.1⟩, ?_, ?_⟩
      · rw [mAt_of eq, mAt_of er]; omega
      · rw [mAt_of eq, mAt_of er]; omega
    · rintro ⟨h1, ⟨l, r', e1, e2, h2⟩, h3, h4⟩
      rw [er] at e2
      cases e2
      rw [mAt_of e1, mAt_of er] at h3 h4
      refine ⟨h1, ?_⟩
      simp only [candP, e1, cand, Bool.and_eq_true, decide_eq_true_eq]
      exact ⟨h2, by omega, by omega⟩
  · obtain ⟨l1, r1, a1, a2, a3⟩ := h1
    obtain ⟨l2, r2, b1, b2, b3⟩ := h2
    obtain ⟨l3, r3, c1, c2, c3⟩ := h3
    rw [a1] at b1
    cases b1
    rw [b2] at c2
    cases c2
    rw [sameL_iff] at a3 b3 c3
    refine ⟨l3, r1, c1, a2, sameL_iff.mpr ⟨?_, ?_, ?_, ?_, ?_⟩⟩
    · rw [c3.1, ← b3.1, a3.1]
    · rw [c3.2.1, ← b3.2.1, a3.2.1]
    · rw [c3.2.2.1, ← b3.2.2.1, a3.2.2.1]
    · rw [c3.2.2.2.1, ← b3.2.2.2.1, a3.2.2.2.1]
    · rw [c3.2.2.2.2, ← b3.2.2.2.2, a3.2.2.2.2]
  · by_cases hx : x < rs.length
    · obtain ⟨r, _, ec⟩ := cn x hx
      rw [ec]
      unfold candRow
      exact List.Pairwise.sublist List.filter_sublist List.pairwise_lt_range
    · unfold Mt.cn cands
      rw [List.getD_eq_getElem?_getD, List.getElem?_map, List.getElem?_eq_none (by omega)]
      exact List.Pairwise.nil
theorem forged_eq (i : In dl (d : Int) qs rs) : (told (cands dl qs rs) d).count none = (gr (cands dl qs rs) d (-1) (-1) (cands dl qs rs).length).count none := by
  rw [gr_greedy]
  exact Mt.matched_greedy (timed i) 100 (by rw [cands_len]; have := i.rl; omega)
theorem cntE_tak (T : Mt.Tk) (q : Nat) : cntE (takD T) (natD q) = T.count (some q) := by
  unfold cntE takD
  rw [List.filter_map, List.length_map, List.count_eq_length_filter]
  congr 1
  apply List.filter_congr
  intro o _
  cases o with
  | none => simp [Function.comp, optD, natD, eqd]
  | some k =>
    by_cases z : k = q
    · subst z
      simp [Function.comp, optD, natD, eqd]
    · have h1 : (k == q) = false := by simpa using z
      have h2 : ((k : Int) == (q : Int)) = false := by
        rw [beq_eq_false_iff_ne]
        omega
      simp [Function.comp, optD, natD, eqd, h1, h2]
theorem told_right (i : In dl (d : Int) qs rs) : paperL (cands dl qs rs) d (tellD (told (cands dl qs rs) d)) = true := by
  obtain ⟨v, _⟩ := Mt.matched_ok (C := cands dl qs rs) (d := d) 100 (by rw [cands_len]; have := i.rl; omega)
  have hl : (takD (told (cands dl qs rs) d)).length = (cands dl qs rs).length := by
    unfold takD told
    rw [List.length_map, v.len]
  unfold tellD paperL
  dsimp only
  rw [hl]
  simp only [decide_true, Bool.true_and, List.all_eq_true, List.mem_range]
  intro k hk
  have hk2 : k < (told (cands dl qs rs) d).length := by unfold told; rw [v.len]; exact hk
  obtain ⟨o, eo⟩ : ∃ o, (told (cands dl qs rs) d)[k]? = some o := ⟨_, List.getElem?_eq_getElem hk2⟩
  have ex : (takD (told (cands dl qs rs) d)).getD k .non = optD o := by
    rw [List.getD_eq_getElem?_getD]
    unfold takD
    rw [List.getElem?_map, eo]
    rfl
  rw [ex]
  unfold okL
  cases o with
  | none => rfl
  | some q =>
    have h1 := v.cand k q eo
    have h2 := v.few q
    have h3 := cntE_tak (told (cands dl qs rs) d) q
    have h4 : okA (Mt.cn (cands dl qs rs) k) (natD q) = true := by
      simp only [okA, natD, decide_eq_true_eq, List.mem_map]
      exact ⟨q, h1, rfl⟩
    show (isNon (natD q) || (okA _ (natD q) && decide (cntE _ (natD q) ≤ d))) = true
    rw [h4, h3]
    unfold told
    simp [h2]
end
theorem sizes_spec (ns : List Int) (h : Hh) : ∃ x0 x1 x2 x3 x4 : Int, 0 ≤ x0 ∧ x0 < 7 ∧ 0 ≤ x1 ∧ x1 < 8 ∧ 0 ≤ x3 ∧ x3 < 25 ∧ 0 ≤ x4 ∧ x4 < 25 ∧ m__law_row [scD ns, .int 5, .fls [.int 7, .int 8, .int 6, .int 25, .int 25]] h = .ok (.fls [.int x0, .int x1, .int x2, .int x3, .int x4]) h := by
  obtain ⟨ds, hb, e⟩ := row_spec3 ns (k := 5) (by omega) (ss := [7, 8, 6, 25, 25]) (by simp) (by simp) h
  rcases hb with _ | ⟨a0, a1, hb⟩
  rcases hb with _ | ⟨b0, b1, hb⟩
  rcases hb with _ | ⟨c0, c1, hb⟩
  rcases hb with _ | ⟨d0, d1, hb⟩
  rcases hb with _ | ⟨f0, f1, hb⟩
  cases hb
  rename_i x0 x1 x2 x3 x4
  simp at e
  exact ⟨x0, x1, x2, x3, x4, a0, a1, b0, b1, d0, d1, f0, f1, e⟩
theorem main : ∀ ns : List Int, ns.length ≤ 63 → ∃ h', m_law [.fls (ns.map D.int)] [] = .ok (.bl true) h' := by
  intro ns _
  obtain ⟨dl, d, R, e1⟩ := rules_spec ns []
  obtain ⟨P, gP, e2⟩ := pools_spec ns []
  obtain ⟨b, b0, b1, e3⟩ := base_spec ns R.d0 R.d1 []
  obtain ⟨x0, x1, x2, x3, x4, a0, a1, a2, a3, a4, a5, a6, a7, e4⟩ := sizes_spec ns []
  have ix5 : ∀ (x0 x1 x2 x3 x4 : D), atI [x0, x1, x2, x3, x4] (0 : Int) = some x0 ∧ atI [x0, x1, x2, x3, x4] (1 : Int) = some x1 ∧ atI [x0, x1, x2, x3, x4] (2 : Int) = some x2 ∧ atI [x0, x1, x2, x3, x4] (3 : Int) = some x3 ∧ atI [x0, x1, x2, x3, x4] (4 : Int) = some x4 := fun _ _ _ _ _ => ⟨rfl, rfl, rfl, rfl, rfl⟩
  have ix2 : ∀ (x0 x1 : D), atI [x0, x1] (0 : Int) = some x0 ∧ atI [x0, x1] (1 : Int) = some x1 := fun _ _ => ⟨rfl, rfl⟩
  -- how many
  obtain ⟨m0, m1, hm0, hm1, cnt⟩ : ∃ m0 m1 : Nat, m0 ≤ 24 ∧ m1 ≤ 24 ∧ ∀ rest : S, sSeq (sSet 5 (eLstF [(eB opIx (eV 4) (eC (.int 0))), (eB opIx (eV 4) (eC (.int 1)))])) (sSeq (sIf (tBl (eB opEq (eB opIx (eV 4) (eC (.int 2))) (eC (.int 0)))) (sSet 5 (eLstF [(eB opIx (eV 4) (eC (.int 3))), (eB opIx (eV 4) (eC (.int 4)))])) sSkip) rest) [some (scD ns), some (rlD dl (d : Int)), some (poD P), some (.int b), some (.fls [.int x0, .int x1, .int x2, .int x3, .int x4]), none, none, none, none, none, none, none, none, none] [] =
      rest [some (scD ns), some (rlD dl (d : Int)), some (poD P), some (.int b), some (.fls [.int x0, .int x1, .int x2, .int x3, .int x4]), some (.fls [.int (m0 : Int), .int (m1 : Int)]), none, none, none, none, none, none, none, none] [] := by
    by_cases q : x2 = 0
    · obtain ⟨m0, h0⟩ : ∃ m : Nat, (m : Int) = x3 := ⟨x3.toNat, by omega⟩
      obtain ⟨m1, h1⟩ : ∃ m : Nat, (m : Int) = x4 := ⟨x4.toNat, by omega⟩
      refine ⟨m0, m1, by omega, by omega, fun rest => ?_⟩
      rw [h0, h1]
      simp [ix5, q]
    · obtain ⟨m0, h0⟩ : ∃ m : Nat, (m : Int) = x0 := ⟨x0.toNat, by omega⟩
      obtain ⟨m1, h1⟩ : ∃ m : Nat, (m : Int) = x1 := ⟨x1.toNat, by omega⟩
      refine ⟨m0, m1, by omega, by omega, fun rest => ?_⟩
      rw [h0, h1]
      simp [ix5, q]
  obtain ⟨qs, gq, sq, lq, e5⟩ := letters_spec' ns gP (at_ := 8) (many := m0) (sl := 3) (by omega) R.d0 R.d1 (by omega) (by omega) b0 b1 []
  obtain ⟨rs, gr', sr, lr, e6⟩ := letters_spec' ns gP (at_ := 32) (many := m1) (sl := 5) (by omega) R.d0 R.d1 (by omega) (by omega) b0 b1 []
  have I : In dl (d : Int) qs rs := ⟨R, gq, gr', sq, sr, by omega, by omega⟩
  obtain ⟨cs, hcs⟩ : ∃ cs, cs = cands dl qs rs := ⟨_, rfl⟩
  have cl : cs.length = rs.length := by rw [hcs, cands_len]
  have cl24 : cs.length ≤ 24 := by rw [cl]; exact I.rl
  have cc : ∀ c ∈ cs, c.length ≤ 24 := fun c hc => by
    rw [hcs] at hc
    unfold cands at hc
    obtain ⟨r, _, rfl⟩ := List.mem_map.mp hc
    have := candRow_len dl qs r
    have := I.ql
    omega
  have e7 := law_cands_spec I []
  have e8 := cands_spec I []
  have e9 := are_rows_spec cl24 cc []
  have e10 := greedy_spec (cs := cs) (many := m0) (d := d) (lo := -1) (tk := -1) (fun x q hq => by rw [hcs] at hq; have := cands_lt dl qs rs x q hq; omega) (by omega) (by omega) []
  have e11 := attribute_spec I []
  have hto : (told (cands dl qs rs) d).length = cs.length := by
    obtain ⟨v, _⟩ := Mt.matched_ok (C := cands dl qs rs) (d := d) 100 (by rw [← hcs]; omega)
    unfold told
    rw [v.len, hcs]
  obtain ⟨G, hG⟩ : ∃ G, G = gr cs d (-1) (-1) cs.length := ⟨_, rfl⟩
  have hGl : G.length = cs.length := by rw [hG, gr_len]
  have e12 := law_paper_spec (cs := cs) (d := d) cl24 (p := tellD (told (cands dl qs rs) d)) (Tm.tup ⟨tak_mem, by simp [takD]; omega⟩) []
  have e13 := told_right I
  have e14 := law_forged_spec (told (cands dl qs rs) d) (by omega) []
  have e15 := law_forged_spec G (by omega) []
  have e16 := least_forged_spec I (by omega) []
  have e17 := forged_eq I
  rw [← hcs] at e7 e8 e11 e12 e13 e14 e16 e17
  rw [← hG] at e10 e17
  rw [e13] at e12
  rw [e17] at e14 e16
  obtain ⟨ps, tps, lps, e18⟩ := papers_spec (cs := cs) (T := G) ns (many := m0) cc cl24 hGl []
  have tall : ∀ p ∈ tellD (told cs d) :: ps, tm 4 p = true := fun p hp => by
    rcases List.mem_cons.mp hp with rfl | hp
    · rw [← hcs] at hto
      exact Tm.tup ⟨tak_mem, by simp [takD]; omega⟩
    · exact tps p hp
  have loop : ∀ (l : List D) (e12 e13 : Option D) (ev : List (Option D)) , (∀ p ∈ l, tm 4 p = true) → ∃ e12' e13', forL (gtName 12) b_law_1 none l [some (scD ns), some (rlD dl (d : Int)), some (poD P), some (.int b), some (.fls [.int x0, .int x1, .int x2, .int x3, .int x4]), some (.fls [.int (m0 : Int), .int (m1 : Int)]), some (ltsD qs), some (ltsD rs), some (rowsD cs), some (tellD G), some (tellD (told cs d)), some (.int (G.count none : Nat)), e12, e13] [] =
      .nx [some (scD ns), some (rlD dl (d : Int)), some (poD P), some (.int b), some (.fls [.int x0, .int x1, .int x2, .int x3, .int x4]), some (.fls [.int (m0 : Int), .int (m1 : Int)]), some (ltsD qs), some (ltsD rs), some (rowsD cs), some (tellD G), some (tellD (told cs d)), some (.int (G.count none : Nat)), e12', e13'] [] := by
    intro l
    induction l with
    | nil => intro e12 e13 _ _; exact ⟨e12, e13, by rw [forL_nil (gd := none) trivial]⟩
    | cons p l ih =>
      intro e12 e13 ev hp
      obtain ⟨f12, f13, ih⟩ := ih (some p) (some (.bl (paperL cs d p))) ev (fun q hq => hp q (by simp [hq]))
      have k1 := attr_spec I (hp p (by simp)) []
      have k2 := law_paper_spec (cs := cs) (d := d) cl24 (hp p (by simp)) []
      rw [← hcs] at k1
      refine ⟨f12, f13, ?_⟩
      have st : b_law_1 [some (scD ns), some (rlD dl (d : Int)), some (poD P), some (.int b), some (.fls [.int x0, .int x1, .int x2, .int x3, .int x4]), some (.fls [.int (m0 : Int), .int (m1 : Int)]), some (ltsD qs), some (ltsD rs), some (rowsD cs), some (tellD G), some (tellD (told cs d)), some (.int (G.count none : Nat)), some p, e13] [] =
          .nx [some (scD ns), some (rlD dl (d : Int)), some (poD P), some (.int b), some (.fls [.int x0, .int x1, .int x2, .int x3, .int x4]), some (.fls [.int (m0 : Int), .int (m1 : Int)]), some (ltsD qs), some (ltsD rs), some (rowsD cs), some (tellD G), some (tellD (told cs d)), some (.int (G.count none : Nat)), some p, some (.bl (paperL cs d p))] [] := by
        generalize paperL cs d p = v at k1 k2
        simp only [rlD] at k1 k2 ⊢
        cases v <;> simp [b_law_1, k1, k2, ix2]
      rw [forL_nx (gd := none) trivial rfl st]
      exact ih
  obtain ⟨f12, f13, lp⟩ := loop (tellD (told cs d) :: ps) none none [] tall
  have hzz : 1 + ps.length ≤ sizeLine := line4k (by omega)
  refine ⟨[], ?_⟩
  generalize told cs d = TT at *
  generalize G.count none = N at *
  have e5' : m__law_letters [scD ns, .int 8, .int (m0 : Int), poD P, .int b, .int dl, .int 3] [] = .ok (ltsD qs) [] := e5
  have e6' : m__law_letters [scD ns, .int 32, .int (m1 : Int), poD P, .int b, .int dl, .int 5] [] = .ok (ltsD rs) [] := e6
  show m_law [scD ns] [] = _
  simp only [rlD] at *
  simp [m_law, b_law, e1, e2, e3, e4, ↓cnt, ix2, e5', e6', e7, e8, e9, e10, e11, e12, e14, e15, e16, e18, lp, hzz, trR_ok0]
end Lk32
/-! Mc: as Mt, each question with its own number of uses; what a least paper looks like on the sets of another one. -/
namespace Mc
open Mt (Tk cn Timed find_first)
section
variable (C : List (List Nat)) (d : Nat → Nat)
structure Vld (T : Tk) : Prop where
  len : T.length = C.length
  cand : ∀ x q, T[x]? = some (some q) → q ∈ cn C x
  few : ∀ q, T.count (some q) ≤ d q
def Closed (T : Tk) (U : Nat → Prop) : Prop := ∀ x, U x → x < C.length → ∀ q ∈ cn C x, d q ≤ T.count (some q) ∧ ∀ y, T[y]? = some (some q) → U y
def Cert (T : Tk) : Prop := ∀ x, T[x]? = some none → ∃ U : Nat → Prop, U x ∧ Closed C d T U
end
theorem of_vld {C : List (List Nat)} {d : Nat} {T : Tk} (v : Mt.Vld C d T) : Vld C (fun _ => d) T := ⟨v.len, v.cand, v.few⟩
theorem of_cert {C : List (List Nat)} {d : Nat} {T : Tk} (v : Mt.Cert C d T) : Cert C (fun _ => d) T := v
/-! ### counting -/
section
variable {n m : Nat}
/-- how many below n -/
def cnt (n : Nat) (p : Nat → Bool) : Nat := ((List.range n).filter p).length
theorem cnt_succ (p : Nat → Bool) : cnt (n + 1) p = cnt n p + if p n = true then 1 else 0 := by
  unfold cnt
  rw [List.range_succ, List.filter_append, List.length_append]
  congr 1
  cases h : p n <;> simp [h]
theorem cnt_mono {p q : Nat → Bool} (h : ∀ x, x < n → p x = true → q x = true) : cnt n p ≤ cnt n q := by
  induction n with
  | zero => exact Nat.le_refl _
  | succ n ih =>
    rw [cnt_succ, cnt_succ]
    have h1 := ih fun x hx => h x (by omega)
    have h2 := h n (by omega)
    cases hp : p n with
    | false => simp; omega
    | true => simp [h2 hp]; omega
theorem cnt_congr {p q : Nat → Bool} (h : ∀ x, x < n → p x = q x) : cnt n p = cnt n q :=
  Nat.le_antisymm (cnt_mono fun x hx e => by rw [← h x hx]; exact e) (cnt_mono fun x hx e => by rw [h x hx]; exact e)
theorem cnt_split (p q : Nat → Bool) : cnt n p = cnt n (fun x => p x && q x) + cnt n (fun x => p x && !q x) := by
  induction n with
  | zero => rfl
  | succ n ih =>
    rw [cnt_succ, cnt_succ, cnt_succ, ih]
    cases p n <;> cases q n <;> simp <;> omega
def sumB (m : Nat) (f : Nat → Nat) : Nat := ((List.range m).map f).sum
theorem sumB_succ (f : Nat → Nat) : sumB (m + 1) f = sumB m f + f m := by
  unfold sumB
  rw [List.range_succ, List.map_append, List.sum_append]
  simp
theorem sumB_le {f g : Nat → Nat} (h : ∀ q, q < m → f q ≤ g q) : sumB m f ≤ sumB m g := by
  induction m with
  | zero => exact Nat.le_refl _
  | succ m ih =>
    rw [sumB_succ, sumB_succ]
    have := ih fun q hq => h q (by omega)
    have := h m (by omega)
    omega
theorem sumB_add (f g : Nat → Nat) : sumB m (fun q => f q + g q) = sumB m f + sumB m g := by
  induction m with
  | zero => rfl
  | succ m ih => rw [sumB_succ, sumB_succ, sumB_succ, ih]; omega
theorem sumB_zero : sumB m (fun _ => 0) = 0 := by
  induction m with
  | zero => rfl
  | succ m ih => rw [sumB_succ, ih]
theorem sumB_one {k : Nat} (p : Nat → Bool) : sumB m (fun q => if q = k ∧ p q = true then 1 else 0) = if k < m ∧ p k = true then 1 else 0 := by
  induction m with
  | zero => simp [sumB]
  | succ m ih =>
    rw [sumB_succ, ih]
    by_cases e : m = k
    · subst e
      simp
    · have : (k < m + 1) ↔ k < m := by omega
      simp [e, this]
/-- those that took one of the questions that p tells -/
theorem cnt_sum (g : Nat → Option Nat) (p : Nat → Bool) (u : Nat → Bool) (hb : ∀ x q, x < n → g x = some q → q < m) :
    cnt n (fun x => u x && (match g x with | some q => p q | none => false)) = sumB m (fun q => if p q = true then cnt n (fun x => u x && decide (g x = some q)) else 0) := by
  induction n with
  | zero =>
    have : (fun q => if p q = true then cnt 0 (fun x => u x && decide (g x = some q)) else 0) = fun _ => 0 := by
      funext q
      split <;> rfl
    rw [this, sumB_zero]
    rfl
  | succ n ih =>
    rw [cnt_succ, ih fun x q hx => hb x q (by omega)]
    have e : (fun q => if p q = true then cnt (n + 1) (fun x => u x && decide (g x = some q)) else 0) =
        fun q => (if p q = true then cnt n (fun x => u x && decide (g x = some q)) else 0) + (if p q = true ∧ (u n && decide (g n = some q)) = true then 1 else 0) := by
      funext q
      rw [cnt_succ]
      cases hp : p q <;> simp
    rw [e, sumB_add]
    congr 1
    cases hg : g n with
    | none =>
      have : (fun q => if p q = true ∧ (u n && decide ((none : Option Nat) = some q)) = true then 1 else 0) = fun _ => 0 := by
        funext q
        simp
      rw [this, sumB_zero]
      simp
    | some k =>
      have hk := hb n k (by omega) hg
      cases hu : u n with
      | false =>
        have : (fun q => if p q = true ∧ (false && decide (some k = some q)) = true then 1 else 0) = fun _ => 0 := by
          funext q
          simp
        rw [this, sumB_zero]
        simp
      | true =>
        have : (fun q => if p q = true ∧ (true && decide (some k = some q)) = true then 1 else 0) = fun q => if q = k ∧ p q = true then 1 else 0 := by
          funext q
          by_cases e : q = k
          · subst e
            simp
          · have : ¬ k = q := fun z => e z.symm
            simp [e, this]
        rw [this, sumB_one]
        simp [hk]
theorem count_cntN (o : Option Nat) : ∀ (n : Nat) (T : Tk), T.length = n → T.count o = cnt n (fun x => decide (T[x]? = some o))
  | 0, T, h => by
    have : T = [] := List.eq_nil_of_length_eq_zero h
    subst this
    rfl
  | n + 1, T, h => by
    have hne : T ≠ [] := fun e => by rw [e] at h; simp at h
    have e := List.dropLast_concat_getLast hne
    have hl : T.dropLast.length = n := by rw [List.length_dropLast, h]; rfl
    have ih := count_cntN o n T.dropLast hl
    have hc : T.count o = T.dropLast.count o + (if T.getLast hne = o then 1 else 0) := by
      conv => lhs; rw [← e]
      rw [List.count_append]
      congr 1
      by_cases q : T.getLast hne = o <;> simp [q]
    rw [hc, ih, cnt_succ]
    congr 1
    · refine cnt_congr fun x hx => ?_
      conv => rhs; rw [← e]
      rw [List.getElem?_append_left (by omega)]
    · have : T[n]? = some (T.getLast hne) := by
        conv => lhs; rw [← e]
        rw [List.getElem?_append_right (by omega), hl, Nat.sub_self]
        rfl
      rw [this]
      by_cases q : T.getLast hne = o <;> simp [q]
theorem count_cnt {T : Tk} (o : Option Nat) : T.count o = cnt T.length (fun x => decide (T[x]? = some o)) := count_cntN o T.length T rfl
end
/-! ### a paper with such sets is least -/
section
variable {C : List (List Nat)} {d : Nat → Nat}
open Classical in
theorem least {T P : Tk} (vT : Vld C d T) (cT : Cert C d T) (vP : Vld C d P) : T.count none ≤ P.count none := by
  obtain ⟨m, hm⟩ : ∃ m, ∀ x, x < C.length → ∀ q ∈ cn C x, q < m := by
    have : ∀ (n : Nat), ∃ m, ∀ x, x < n → ∀ q ∈ cn C x, q < m := by
      intro n
      induction n with
      | zero => exact ⟨0, fun x hx => absurd hx (Nat.not_lt_zero _)⟩
      | succ n ih =>
        obtain ⟨m, h⟩ := ih
        have : ∀ l : List Nat, ∃ k, ∀ q ∈ l, q < k := by
          intro l
          induction l with
          | nil => exact ⟨0, fun q hq => by simp at hq⟩
          | cons a l ih =>
            obtain ⟨k, hk⟩ := ih
            refine ⟨max k (a + 1), fun q hq => ?_⟩
            rcases List.mem_cons.mp hq with rfl | hq
            · omega
            · have := hk q hq
              omega
        obtain ⟨k, hk⟩ := this (cn C n)
        refine ⟨max m k, fun x hx q hq => ?_⟩
        by_cases e : x = n
        · subst e
          have := hk q hq
          omega
        · have := h x (by omega) q hq
          omega
    exact this C.length
  let U : Nat → Prop := fun x => ∃ V : Nat → Prop, V x ∧ Closed C d T V
  have cU : Closed C d T U := fun x ⟨V, hx, hV⟩ hl q hq => by
    obtain ⟨h1, h2⟩ := hV x hx hl q hq
    exact ⟨h1, fun y hy => ⟨V, h2 y hy, hV⟩⟩
  let u : Nat → Bool := fun x => decide (U x)
  let p : Nat → Bool := fun q => decide (∃ x, U x ∧ x < C.length ∧ q ∈ cn C x)
  let gT : Nat → Option Nat := fun x => T.getD x none
  let gP : Nat → Option Nat := fun x => P.getD x none
  have aT : ∀ x, x < C.length → T[x]? = some (gT x) := fun x hx => by
    have : x < T.length := by rw [vT.len]; exact hx
    simp [gT, this]
  have aP : ∀ x, x < C.length → P[x]? = some (gP x) := fun x hx => by
    have : x < P.length := by rw [vP.len]; exact hx
    simp [gP, this]
  have bT : ∀ x q, x < C.length → gT x = some q → q < m := fun x q hx e => hm x hx q (vT.cand x q (by rw [aT x hx, e]))
  have bP : ∀ x q, x < C.length → gP x = some q → q < m := fun x q hx e => hm x hx q (vP.cand x q (by rw [aP x hx, e]))
  have sT := cnt_sum (n := C.length) gT p u bT
  have sP := cnt_sum (n := C.length) gP p u bP
  have hle : cnt C.length (fun x => u x && (match gP x with | some q => p q | none => false)) ≤ cnt C.length (fun x => u x && (match gT x with | some q => p q | none => false)) := by
    rw [sT, sP]
    refine sumB_le fun q hq => ?_
    cases hp : p q with
    | false => simp
    | true =>
      simp only [if_true]
      have hp' : ∃ x, U x ∧ x < C.length ∧ q ∈ cn C x := by simpa [p] using hp
      obtain ⟨x, hx, hl, hq'⟩ := hp'
      obtain ⟨f1, f2⟩ := cU x hx hl q hq'
      have g1 : cnt C.length (fun x => u x && decide (gP x = some q)) ≤ P.count (some q) := by
        rw [count_cnt, vP.len]
        refine cnt_mono fun y hy e => ?_
        rw [Bool.and_eq_true, decide_eq_true_eq] at e
        rw [aP y hy]
        simp only [decide_eq_true_eq] at e
        simp [e.2]
      have g2 : T.count (some q) ≤ cnt C.length (fun x => u x && decide (gT x = some q)) := by
        rw [count_cnt, vT.len]
        refine cnt_mono fun y hy e => ?_
        rw [decide_eq_true_eq] at e
        have : U y := f2 y e
        rw [aT y hy] at e
        simp [u, this, Option.some.inj e]
      have := vP.few q
      omega
  have wT : ∀ x, x < C.length → u x = true → (match gT x with | some q => p q | none => false) = (gT x).isSome := fun x hx hu => by
    cases e : gT x with
    | none => rfl
    | some q =>
      have hu' : U x := by simpa [u] using hu
      have : q ∈ cn C x := vT.cand x q (by rw [aT x hx, e])
      simp [p]
      exact ⟨x, hu', hx, this⟩
  have wP : ∀ x, x < C.length → u x = true → (match gP x with | some q => p q | none => false) = (gP x).isSome := fun x hx hu => by
    cases e : gP x with
    | none => rfl
    | some q =>
      have hu' : U x := by simpa [u] using hu
      have : q ∈ cn C x := vP.cand x q (by rw [aP x hx, e])
      simp [p]
      exact ⟨x, hu', hx, this⟩
  have eT : cnt C.length (fun x => u x && (match gT x with | some q => p q | none => false)) = cnt C.length (fun x => u x && (gT x).isSome) := cnt_congr fun x hx => by
    cases hu : u x with
    | false => rfl
    | true => rw [wT x hx hu]
  have eP : cnt C.length (fun x => u x && (match gP x with | some q => p q | none => false)) = cnt C.length (fun x => u x && (gP x).isSome) := cnt_congr fun x hx => by
    cases hu : u x with
    | false => rfl
    | true => rw [wP x hx hu]
  rw [eT, eP] at hle
  have c1 := cnt_split (n := C.length) u (fun x => (gT x).isSome)
  have c2 := cnt_split (n := C.length) u (fun x => (gP x).isSome)
  have n1 : T.count none ≤ cnt C.length (fun x => u x && !(gT x).isSome) := by
    rw [count_cnt, vT.len]
    refine cnt_mono fun x hx e => ?_
    rw [decide_eq_true_eq] at e
    obtain ⟨V, h1, h2⟩ := cT x e
    have hU : U x := ⟨V, h1, h2⟩
    rw [aT x hx] at e
    simp [u, hU, Option.some.inj e]
  have n2 : cnt C.length (fun x => u x && !(gP x).isSome) ≤ P.count none := by
    rw [count_cnt, vP.len]
    refine cnt_mono fun x hx e => ?_
    rw [Bool.and_eq_true] at e
    rw [aP x hx]
    cases h : gP x with
    | none => simp
    | some _ => rw [h] at e; simp at e
  omega
theorem least_eq {T P : Tk} (vT : Vld C d T) (cT : Cert C d T) (vP : Vld C d P) (cP : Cert C d P) : T.count none = P.count none := Nat.le_antisymm (least vT cT vP) (least vP cP vT)
end
section
variable (C : List (List Nat)) (d : Nat → Nat)
def pick (T : Tk) (l : List Nat) : Option Nat := l.find? fun q => decide (T.count (some q) < d q)
def greedy : Nat → Tk
  | 0 => []
  | n + 1 => greedy n ++ [pick d (greedy n) (cn C n)]
end
/-- what candidates are: questions of the same class, in a window of time; both in order of time -/
structure Timed (C : List (List Nat)) (nq : Nat) (clq clr : Nat → Nat → Prop) (tq tr : Nat → Int) (w : Int) : Prop where
  mem : ∀ x, x < C.length → ∀ q, q ∈ cn C x ↔ (q < nq ∧ clr x q ∧ tq q ≤ tr x ∧ tr x ≤ tq q + w)
  same : ∀ x y q p, x < C.length → y < C.length → q < nq → p < nq → clr x q → clr y q → clr y p → clr x p
  inc : ∀ x, (cn C x).Pairwise (· < ·)
  tqm : ∀ q p, q ≤ p → p < nq → tq q ≤ tq p
  trm : ∀ x y, x ≤ y → y < C.length → tr x ≤ tr y
section
variable {C : List (List Nat)} {nq : Nat} {d : Nat → Nat} {clq clr : Nat → Nat → Prop} {tq tr : Nat → Int} {w : Int}
theorem greedy_len : ∀ n, (greedy C d n).length = n
  | 0 => rfl
  | n + 1 => by simp [greedy, greedy_len n]
theorem greedy_at {x n : Nat} (h : x < n) : (greedy C d n)[x]? = some (pick d (greedy C d x) (cn C x)) := by
  induction n with
  | zero => omega
  | succ n ih =>
    by_cases e : x = n
    · subst e
      rw [greedy, List.getElem?_append_right (by rw [greedy_len]; exact Nat.le_refl _), greedy_len, Nat.sub_self]
      rfl
    · rw [greedy, List.getElem?_append_left (by rw [greedy_len]; omega)]
      exact ih (by omega)
theorem greedy_count {x n : Nat} (h : x ≤ n) (o : Option Nat) : (greedy C d x).count o ≤ (greedy C d n).count o := by
  induction n with
  | zero =>
    have : x = 0 := by omega
    subst this
    exact Nat.le_refl _
  | succ n ih =>
    by_cases e : x = n + 1
    · subst e
      exact Nat.le_refl _
    · rw [greedy, List.count_append]
      have := ih (by omega)
      omega
theorem greedy_few (q : Nat) : ∀ n, (greedy C d n).count (some q) ≤ d q
  | 0 => Nat.zero_le _
  | n + 1 => by
    have ih := greedy_few q n
    rw [greedy, List.count_append]
    by_cases e : pick d (greedy C d n) (cn C n) = some q
    · have h := List.find?_some e
      simp at h
      rw [e]
      simp
      omega
    · have : [pick d (greedy C d n) (cn C n)].count (some q) = 0 := by
        rw [List.count_eq_zero]
        simp
        exact fun z => e z.symm
      omega
theorem greedy_vld : Vld C d (greedy C d C.length) := by
  refine ⟨greedy_len _, fun x q e => ?_, fun q => greedy_few q _⟩
  have hx : x < C.length := by
    have := (List.getElem?_eq_some_iff.mp e).1
    rw [greedy_len] at this
    exact this
  rw [greedy_at hx] at e
  exact List.mem_of_find?_eq_some (Option.some.inj e)
theorem find_first {p : Nat → Bool} : ∀ {l : List Nat} {q s : Nat}, l.Pairwise (· < ·) → l.find? p = some q → s ∈ l → s < q → p s = false
  | [], _, _, _, e, _, _ => by simp at e
  | a :: l, q, s, h, e, hs, hlt => by
    rw [List.pairwise_cons] at h
    rw [List.find?_cons] at e
    cases hp : p a with
    | true =>
      rw [hp] at e
      cases e
      rcases List.mem_cons.mp hs with rfl | hs
      · omega
      · have := h.1 s hs
        omega
    | false =>
      rw [hp] at e
      rcases List.mem_cons.mp hs with rfl | hs
      · exact hp
      · exact find_first h.2 e hs hlt
theorem greedy_cert (H : Timed C nq clq clr tq tr w) : Cert C d (greedy C d C.length) := by
  intro x e
  have hx : x < C.length := by
    have := (List.getElem?_eq_some_iff.mp e).1
    rw [greedy_len] at this
    exact this
  rw [greedy_at hx] at e
  have hnone := Option.some.inj e
  unfold pick at hnone
  rw [List.find?_eq_none] at hnone
  have fx : ∀ q ∈ cn C x, d q ≤ (greedy C d x).count (some q) := fun q hq => by
    have := hnone q hq
    simpa using this
  let P : Nat → Prop := fun a => ∀ q, a ≤ q → q < nq → clr x q → tq q ≤ tr x → d q ≤ (greedy C d x).count (some q)
  let S : Nat → Prop := fun q => q < nq ∧ clr x q ∧ tq q ≤ tr x ∧ P q
  have sp : ∀ q, S q → d q ≤ (greedy C d x).count (some q) := fun q h => h.2.2.2 q (Nat.le_refl _) h.1 h.2.1 h.2.2.1
  refine ⟨fun y => y = x ∨ ∃ q, (greedy C d C.length)[y]? = some (some q) ∧ S q, .inl rfl, fun y hy hyl p hp => ?_⟩
  have fin : S p → d p ≤ (greedy C d C.length).count (some p) ∧ ∀ z, (greedy C d C.length)[z]? = some (some p) → z = x ∨ ∃ q, (greedy C d C.length)[z]? = some (some q) ∧ S q := fun h =>
    ⟨Nat.le_trans (sp p h) (greedy_count (by omega) _), fun z hz => .inr ⟨p, hz, h⟩⟩
  apply fin
  obtain ⟨p1, p2, p3, p4⟩ := (H.mem y hyl p).mp hp
  rcases hy with rfl | ⟨q, hq, s1, s2, s3, s4⟩
  · refine ⟨p1, p2, p3, fun q h1 h2 h3 h4 => ?_⟩
    have := H.tqm p q h1 h2
    exact fx q ((H.mem y hyl q).mpr ⟨h2, h3, h4, by omega⟩)
  · rw [greedy_at hyl] at hq
    have hpick := Option.some.inj hq
    have hqc : q ∈ cn C y := List.mem_of_find?_eq_some hpick
    obtain ⟨q1, q2, q3, q4⟩ := (H.mem y hyl q).mp hqc
    have hyx : y < x := by
      have h1 := List.find?_some hpick
      simp at h1
      have h2 := sp q ⟨s1, s2, s3, s4⟩
      by_cases z : y < x
      · exact z
      · have := greedy_count (C := C) (d := d) (x := x) (n := y) (by omega) (some q)
        omega
    have ht := H.trm y x (by omega) hx
    have hcx : clr x p := H.same x y q p hx hyl s1 p1 s2 q2 p2
    refine ⟨p1, hcx, by omega, fun s h1 h2 h3 h4 => ?_⟩
    by_cases hsq : q ≤ s
    · exact s4 s hsq h2 h3 h4
    · have t1 := H.tqm p s h1 h2
      have t2 := H.tqm s q (by omega) s1
      have hcy : clr y s := H.same y x q s hyl hx s1 h2 q2 s2 h3
      have hsc : s ∈ cn C y := (H.mem y hyl s).mpr ⟨h2, hcy, by omega, by omega⟩
      have := find_first (H.inc y) hpick hsc (by omega)
      simp at this
      exact Nat.le_trans this (greedy_count (by omega) _)
end
theorem sumB_eq {m : Nat} {f g : Nat → Nat} (h : ∀ q, q < m → f q ≤ g q) (e : sumB m f = sumB m g) : ∀ q, q < m → f q = g q := by
  induction m with
  | zero => intro q hq; omega
  | succ m ih =>
    rw [sumB_succ, sumB_succ] at e
    have h1 := sumB_le fun q (hq : q < m) => h q (by omega)
    have h2 := h m (by omega)
    intro q hq
    by_cases z : q = m
    · subst z
      omega
    · exact ih (fun q hq => h q (by omega)) (by omega) q (by omega)
theorem cnt_eq_all {n : Nat} {p q : Nat → Bool} (h : ∀ x, x < n → p x = true → q x = true) (e : cnt n p = cnt n q) : ∀ x, x < n → q x = true → p x = true := by
  induction n with
  | zero => intro x hx; omega
  | succ n ih =>
    rw [cnt_succ, cnt_succ] at e
    have h1 := cnt_mono fun x (hx : x < n) => h x (by omega)
    have h2 := h n (by omega)
    intro x hx hq
    by_cases z : x = n
    · subst z
      cases hp : p x with
      | true => rfl
      | false =>
        rw [hp, hq] at e
        simp at e
        omega
    · refine ih (fun x hx => h x (by omega)) ?_ x (by omega) hq
      cases hp : p n with
      | true =>
        rw [hp, h2 hp] at e
        simpa using e
      | false =>
        rw [hp] at e
        simp at e
        omega
section
variable {C : List (List Nat)} {d : Nat → Nat}
open Classical in
theorem slack {T P : Tk} (vT : Vld C d T) (cT : Cert C d T) (vP : Vld C d P) (he : P.count none = T.count none) : ∃ U : Nat → Prop, (∀ x, P[x]? = some none → U x) ∧ ∀ x, U x → x < C.length → ∀ q ∈ cn C x, P.count (some q) = d q ∧ ∀ y, P[y]? = some (some q) → U y := by
  obtain ⟨m, hm⟩ : ∃ m, ∀ x, x < C.length → ∀ q ∈ cn C x, q < m := by
    have : ∀ (n : Nat), ∃ m, ∀ x, x < n → ∀ q ∈ cn C x, q < m := by
      intro n
      induction n with
      | zero => exact ⟨0, fun x hx => absurd hx (Nat.not_lt_zero _)⟩
      | succ n ih =>
        obtain ⟨m, h⟩ := ih
        have : ∀ l : List Nat, ∃ k, ∀ q ∈ l, q < k := by
          intro l
          induction l with
          | nil => exact ⟨0, fun q hq => by simp at hq⟩
          | cons a l ih =>
            obtain ⟨k, hk⟩ := ih
            refine ⟨max k (a + 1), fun q hq => ?_⟩
            rcases List.mem_cons.mp hq with rfl | hq
            · omega
            · have := hk q hq
              omega
        obtain ⟨k, hk⟩ := this (cn C n)
        refine ⟨max m k, fun x hx q hq => ?_⟩
        by_cases e : x = n
        · subst e
          have := hk q hq
          omega
        · have := h x (by omega) q hq
          omega
    exact this C.length
  let U : Nat → Prop := fun x => ∃ V : Nat → Prop, V x ∧ Closed C d T V
  have cU : Closed C d T U := fun x ⟨V, hx, hV⟩ hl q hq => by
    obtain ⟨h1, h2⟩ := hV x hx hl q hq
    exact ⟨h1, fun y hy => ⟨V, h2 y hy, hV⟩⟩
  let u : Nat → Bool := fun x => decide (U x)
  let p : Nat → Bool := fun q => decide (∃ x, U x ∧ x < C.length ∧ q ∈ cn C x)
  let gT : Nat → Option Nat := fun x => T.getD x none
  let gP : Nat → Option Nat := fun x => P.getD x none
  have aT : ∀ x, x < C.length → T[x]? = some (gT x) := fun x hx => by
    have : x < T.length := by rw [vT.len]; exact hx
    simp [gT, this]
  have aP : ∀ x, x < C.length → P[x]? = some (gP x) := fun x hx => by
    have : x < P.length := by rw [vP.len]; exact hx
    simp [gP, this]
  have bT : ∀ x q, x < C.length → gT x = some q → q < m := fun x q hx e => hm x hx q (vT.cand x q (by rw [aT x hx, e]))
  have bP : ∀ x q, x < C.length → gP x = some q → q < m := fun x q hx e => hm x hx q (vP.cand x q (by rw [aP x hx, e]))
  have sT := cnt_sum (n := C.length) gT p u bT
  have sP := cnt_sum (n := C.length) gP p u bP
  have hterm : ∀ q, q < m → (if p q = true then cnt C.length (fun x => u x && decide (gP x = some q)) else 0) ≤ (if p q = true then cnt C.length (fun x => u x && decide (gT x = some q)) else 0) := by
    intro q hq
    cases hp : p q with
    | false => simp
    | true =>
      simp only [if_true]
      have hp' : ∃ x, U x ∧ x < C.length ∧ q ∈ cn C x := by simpa [p] using hp
      obtain ⟨x, hx, hl, hq'⟩ := hp'
      obtain ⟨f1, f2⟩ := cU x hx hl q hq'
      have g1 : cnt C.length (fun x => u x && decide (gP x = some q)) ≤ P.count (some q) := by
        rw [count_cnt, vP.len]
        refine cnt_mono fun y hy e => ?_
        rw [Bool.and_eq_true, decide_eq_true_eq] at e
        rw [aP y hy]
        simp only [decide_eq_true_eq] at e
        simp [e.2]
      have g2 : T.count (some q) ≤ cnt C.length (fun x => u x && decide (gT x = some q)) := by
        rw [count_cnt, vT.len]
        refine cnt_mono fun y hy e => ?_
        rw [decide_eq_true_eq] at e
        have : U y := f2 y e
        rw [aT y hy] at e
        simp [u, this, Option.some.inj e]
      have := vP.few q
      omega
  have hle : cnt C.length (fun x => u x && (match gP x with | some q => p q | none => false)) ≤ cnt C.length (fun x => u x && (match gT x with | some q => p q | none => false)) := by
    rw [sT, sP]
    exact sumB_le hterm
  have wT : ∀ x, x < C.length → u x = true → (match gT x with | some q => p q | none => false) = (gT x).isSome := fun x hx hu => by
    cases e : gT x with
    | none => rfl
    | some q =>
      have hu' : U x := by simpa [u] using hu
      have : q ∈ cn C x := vT.cand x q (by rw [aT x hx, e])
      simp [p]
      exact ⟨x, hu', hx, this⟩
  have wP : ∀ x, x < C.length → u x = true → (match gP x with | some q => p q | none => false) = (gP x).isSome := fun x hx hu => by
    cases e : gP x with
    | none => rfl
    | some q =>
      have hu' : U x := by simpa [u] using hu
      have : q ∈ cn C x := vP.cand x q (by rw [aP x hx, e])
      simp [p]
      exact ⟨x, hu', hx, this⟩
  have eT : cnt C.length (fun x => u x && (match gT x with | some q => p q | none => false)) = cnt C.length (fun x => u x && (gT x).isSome) := cnt_congr fun x hx => by
    cases hu : u x with
    | false => rfl
    | true => rw [wT x hx hu]
  have eP : cnt C.length (fun x => u x && (match gP x with | some q => p q | none => false)) = cnt C.length (fun x => u x && (gP x).isSome) := cnt_congr fun x hx => by
    cases hu : u x with
    | false => rfl
    | true => rw [wP x hx hu]
  have hle0 := hle
  rw [eT, eP] at hle
  have c1 := cnt_split (n := C.length) u (fun x => (gT x).isSome)
  have c2 := cnt_split (n := C.length) u (fun x => (gP x).isSome)
  have n1 : T.count none ≤ cnt C.length (fun x => u x && !(gT x).isSome) := by
    rw [count_cnt, vT.len]
    refine cnt_mono fun x hx e => ?_
    rw [decide_eq_true_eq] at e
    obtain ⟨V, h1, h2⟩ := cT x e
    have hU : U x := ⟨V, h1, h2⟩
    rw [aT x hx] at e
    simp [u, hU, Option.some.inj e]
  have n2 : cnt C.length (fun x => u x && !(gP x).isSome) ≤ P.count none := by
    rw [count_cnt, vP.len]
    refine cnt_mono fun x hx e => ?_
    rw [Bool.and_eq_true] at e
    rw [aP x hx]
    cases h : gP x with
    | none => simp
    | some _ => rw [h] at e; simp at e
  have q1 : cnt C.length (fun x => u x && !(gP x).isSome) = P.count none := by omega
  have q2 : cnt C.length (fun x => u x && (gP x).isSome) = cnt C.length (fun x => u x && (gT x).isSome) := by omega
  rw [← eP, ← eT, sT, sP] at q2
  have q3 := sumB_eq hterm q2
  refine ⟨U, fun x hx => ?_, fun x hx hl q hq => ?_⟩
  · have hxl : x < C.length := by
      rw [← vP.len]
      exact (List.getElem?_eq_some_iff.mp hx).1
    have hc : cnt C.length (fun x => u x && !(gP x).isSome) = cnt C.length (fun x => decide (P[x]? = some none)) := by
      rw [q1, count_cnt, vP.len]
    have := cnt_eq_all (fun y hy e => by
      rw [Bool.and_eq_true] at e
      rw [aP y hy]
      cases h : gP y with
      | none => simp
      | some _ => rw [h] at e; simp at e) hc x hxl (by simpa using hx)
    rw [Bool.and_eq_true] at this
    simpa [u] using this.1
  · have hpq : p q = true := by
      simp only [p, decide_eq_true_eq]
      exact ⟨x, hx, hl, hq⟩
    have hqm := hm x hl q hq
    have q4 := q3 q hqm
    rw [if_pos hpq, if_pos hpq] at q4
    obtain ⟨f1, f2⟩ := cU x hx hl q hq
    have g1 : cnt C.length (fun x => u x && decide (gP x = some q)) ≤ P.count (some q) := by
      rw [count_cnt, vP.len]
      refine cnt_mono fun y hy e => ?_
      rw [Bool.and_eq_true, decide_eq_true_eq] at e
      rw [aP y hy]
      simp [e.2]
    have g2 : T.count (some q) ≤ cnt C.length (fun x => u x && decide (gT x = some q)) := by
      rw [count_cnt, vT.len]
      refine cnt_mono fun y hy e => ?_
      rw [decide_eq_true_eq] at e
      have : U y := f2 y e
      rw [aT y hy] at e
      simp [u, this, Option.some.inj e]
    have g3 := vP.few q
    refine ⟨by omega, fun y hy => ?_⟩
    have hyl : y < C.length := by
      rw [← vP.len]
      exact (List.getElem?_eq_some_iff.mp hy).1
    have hc : cnt C.length (fun x => u x && decide (gP x = some q)) = cnt C.length (fun x => decide (P[x]? = some (some q))) := by
      have : P.count (some q) = cnt C.length (fun x => decide (P[x]? = some (some q))) := by rw [count_cnt, vP.len]
      omega
    have := cnt_eq_all (fun z hz e => by
      rw [Bool.and_eq_true, decide_eq_true_eq] at e
      rw [aP z hz]
      simp [e.2]) hc y hyl (by simpa using hy)
    rw [Bool.and_eq_true] at this
    simpa [u] using this.1
end
end Mc
/-! Mc2: the crowd: who can be left out of a least paper. -/
namespace Mc
open Mt (Tk cn)
section
variable {C : List (List Nat)} {d : Nat → Nat} {T G : Tk} {k : Nat}
/-- reached from those who are left out, by candidates and their holders -/
inductive Rch (C : List (List Nat)) (T : Tk) : Nat → Prop
  | root {x : Nat} : T[x]? = some none → Rch C T x
  | step {x y q : Nat} : Rch C T x → x < C.length → q ∈ cn C x → T[y]? = some (some q) → Rch C T y
theorem rch_in (c : Cert C d T) {x : Nat} (h : Rch C T x) : ∃ V : Nat → Prop, V x ∧ Closed C d T V := by
  induction h with
  | root e => exact c _ e
  | step _ hl hq e ih =>
    obtain ⟨V, h1, h2⟩ := ih
    exact ⟨V, (h2 _ h1 hl _ hq).2 _ e, h2⟩
theorem rch_closed (c : Cert C d T) : Closed C d T (Rch C T) := fun x hx hl q hq => by
  obtain ⟨V, h1, h2⟩ := rch_in c hx
  exact ⟨(h2 x h1 hl q hq).1, fun y hy => .step hx hl hq hy⟩
/-- the candidates without those of k -/
def drp (C : List (List Nat)) (k : Nat) : List (List Nat) := C.set k []
theorem drp_len : (drp C k).length = C.length := by simp [drp]
theorem drp_cn (x : Nat) : cn (drp C k) x = if x = k then [] else cn C x := by
  unfold cn drp
  rw [List.getD_eq_getElem?_getD, List.getD_eq_getElem?_getD]
  by_cases h : x = k
  · subst h
    rw [if_pos rfl]
    by_cases hl : x < C.length
    · rw [List.getElem?_set_self hl]
      rfl
    · rw [List.getElem?_eq_none (by simp; omega)]
      rfl
  · rw [if_neg h, List.getElem?_set_ne (fun e => h e.symm)]
theorem drp_sub {x q : Nat} (h : q ∈ cn (drp C k) x) : x ≠ k ∧ q ∈ cn C x := by
  rw [drp_cn] at h
  split at h
  · simp at h
  · exact ⟨by assumption, h⟩
theorem vld_up (v : Vld (drp C k) d G) : Vld C d G := ⟨by rw [v.len, drp_len], fun x q e => (drp_sub (v.cand x q e)).2, v.few⟩
theorem vld_set (v : Vld C d T) : Vld (drp C k) d (T.set k none) := by
  refine ⟨by rw [List.length_set, v.len, drp_len], fun x q e => ?_, fun q => ?_⟩
  · by_cases h : x = k
    · subst h
      by_cases hl : x < T.length
      · rw [List.getElem?_set_self hl] at e
        cases e
      · rw [List.getElem?_eq_none (by simp; omega)] at e
        cases e
    · rw [List.getElem?_set_ne (fun z => h z.symm)] at e
      rw [drp_cn, if_neg h]
      exact v.cand x q e
  · by_cases hl : k < T.length
    · rw [List.count_set hl]
      have := v.few q
      simp
      omega
    · rw [List.set_eq_of_length_le (by omega)]
      exact v.few q
theorem cnt_set_none {q : Nat} (hk : T[k]? = some (some q)) : (T.set k none).count none = T.count none + 1 := by
  obtain ⟨hl, e⟩ := List.getElem?_eq_some_iff.mp hk
  rw [List.count_set hl, e]
  simp
theorem cnt_set_q {q : Nat} (hk : T[k]? = some (some q)) : (T.set k none).count (some q) + 1 = T.count (some q) := by
  obtain ⟨hl, e⟩ := List.getElem?_eq_some_iff.mp hk
  rw [List.count_set hl, e]
  have : 0 < T.count (some q) := List.count_pos_iff.mpr (List.mem_of_getElem? hk)
  simp
  omega
theorem cnt_set_p {q p : Nat} (hk : T[k]? = some (some q)) (h : p ≠ q) : (T.set k none).count (some p) = T.count (some p) := by
  obtain ⟨hl, e⟩ := List.getElem?_eq_some_iff.mp hk
  rw [List.count_set hl, e]
  have : ¬ q = p := fun z => h z.symm
  simp [this]
/-- one of the crowd can be left out -/
theorem crowd_in (v : Vld C d T) (c : Cert C d T) (vG : Vld (drp C k) d G) (cG : Cert (drp C k) d G) (hk : Rch C T k) : G.count none = T.count none := by
  have h1 := least v c (vld_up vG)
  cases e : T[k]? with
  | none =>
    have := (Rch.rec (motive := fun x _ => T[x]? ≠ none) (fun e => by rw [e]; simp) (fun _ _ _ e _ => by rw [e]; simp) hk)
    exact absurd e this
  | some o =>
    cases o with
    | none =>
      have vT : Vld (drp C k) d T := by
        have := vld_set (k := k) v
        have e2 : T.set k none = T := by
          obtain ⟨hl, ee⟩ := List.getElem?_eq_some_iff.mp e
          rw [← ee, List.set_getElem_self]
        rwa [e2] at this
      exact Nat.le_antisymm (least vG cG vT) h1
    | some qk =>
      have vT' := vld_set (k := k) v
      have h2 := least vG cG vT'
      rw [cnt_set_none e] at h2
      by_cases hh : G.count none = T.count none
      · exact hh
      · have he : (T.set k none).count none = G.count none := by rw [cnt_set_none e]; omega
        obtain ⟨U, u1, u2⟩ := slack vG cG vT' he
        have key : ∀ x, Rch C T x → U x ∧ x ≠ k := by
          intro x hx
          induction hx with
          | @root x ex =>
            have hne : x ≠ k := fun z => by
              subst z
              rw [e] at ex
              cases ex
            exact ⟨u1 x (by rw [List.getElem?_set_ne hne.symm]; exact ex), hne⟩
          | @step x y q hx hl hq ey ih =>
            obtain ⟨i1, i2⟩ := ih
            obtain ⟨f1, f2⟩ := u2 x i1 (by rw [drp_len]; exact hl) q (by rw [drp_cn, if_neg i2]; exact hq)
            have hne : y ≠ k := fun z => by
              subst z
              rw [e] at ey
              cases ey
              have := cnt_set_q e
              have := v.few qk
              omega
            exact ⟨f2 y (by rw [List.getElem?_set_ne hne.symm]; exact ey), hne⟩
        exact absurd rfl (key k hk).2
/-- nobody else -/
theorem crowd_out (v : Vld C d T) (c : Cert C d T) (vG : Vld (drp C k) d G) (cG : Cert (drp C k) d G) (hl : k < C.length) (hk : ¬ Rch C T k) : G.count none = T.count none + 1 := by
  have hkl : k < T.length := by rw [v.len]; exact hl
  obtain ⟨o, e⟩ : ∃ o, T[k]? = some o := ⟨_, List.getElem?_eq_getElem hkl⟩
  cases o with
  | none => exact absurd (.root e) hk
  | some qk =>
    rw [← cnt_set_none e]
    refine (least_eq (vld_set v) ?_ vG cG).symm
    intro x ex
    by_cases hx : x = k
    · refine ⟨fun y => y = k, hx, fun y hy _ q hq => ?_⟩
      rw [drp_cn, if_pos hy] at hq
      simp at hq
    · rw [List.getElem?_set_ne (fun z => hx z.symm)] at ex
      refine ⟨Rch C T, .root ex, fun y hy hyl q hq => ?_⟩
      obtain ⟨n1, n2⟩ := drp_sub hq
      rw [drp_len] at hyl
      obtain ⟨f1, f2⟩ := rch_closed c y hy hyl q n2
      have hqk : q ≠ qk := fun z => by
        subst z
        exact hk (f2 k e)
      refine ⟨by rw [cnt_set_p e hqk]; exact f1, fun z hz => ?_⟩
      by_cases hzk : z = k
      · subst hzk
        rw [List.getElem?_set_self hkl] at hz
        cases hz
      · rw [List.getElem?_set_ne (fun w => hzk w.symm)] at hz
        exact f2 z hz
end
end Mc
/-! Mc3: one left out or given a question beforehand. -/
namespace Mc
open Mt (Tk cn Timed)
section
variable {C : List (List Nat)} {d : Nat → Nat} {T G P : Tk} {k q0 nq : Nat} {clq clr : Nat → Nat → Prop} {tq tr : Nat → Int} {w : Int}
theorem timed_drp (H : Timed C nq clq clr tq tr w) : Timed (drp C k) nq clq (fun x q => x ≠ k ∧ clr x q) tq tr w := by
  refine ⟨fun x hx q => ?_, fun x y q p hx hy hq hp h1 h2 h3 => ?_, fun x => ?_, H.tqm, fun x y h hy => H.trm x y h (by rw [drp_len] at hy; exact hy)⟩
  · rw [drp_len] at hx
    rw [drp_cn]
    by_cases h : x = k
    · rw [if_pos h]
      simp [h]
    · rw [if_neg h, H.mem x hx q]
      simp [h]
  · rw [drp_len] at hx hy
    exact ⟨h1.1, H.same x y q p hx hy hq hp h1.2 h2.2 h3.2⟩
  · rw [drp_cn]
    split
    · exact List.Pairwise.nil
    · exact H.inc x
/-- one use of q0 less -/
def less (d : Nat → Nat) (q0 : Nat) (q : Nat) : Nat := if q = q0 then d q - 1 else d q
theorem less_le (q : Nat) : less d q0 q ≤ d q := by unfold less; split <;> omega
theorem open_kept (v : Vld C d T) (c : Cert C d T) (vP : Vld (drp C k) d P) (cP : Cert (drp C k) d P) (hk : Rch C T k) (hl : k < C.length) (hq : q0 ∈ cn C k) (h0 : 0 < d q0) (vG : Vld (drp C k) (less d q0) G) (cG : Cert (drp C k) (less d q0) G) :
    G.count none = T.count none + 1 := by
  have hGl : G.length = C.length := by rw [vG.len, drp_len]
  have hPl : P.length = C.length := by rw [vP.len, drp_len]
  have hkG : k < G.length := by omega
  have hGk : G[k]? = some none := by
    obtain ⟨o, e⟩ : ∃ o, G[k]? = some o := ⟨_, List.getElem?_eq_getElem hkG⟩
    cases o with
    | none => exact e
    | some q => exact absurd rfl (drp_sub (vG.cand k q e)).1
  have gk : G[k] = none := by
    rw [List.getElem?_eq_getElem hkG] at hGk
    exact Option.some.inj hGk
  -- from below
  have vS : Vld C d (G.set k (some q0)) := by
    refine ⟨by rw [List.length_set, hGl], fun x q e => ?_, fun q => ?_⟩
    · by_cases h : x = k
      · subst h
        rw [List.getElem?_set_self hkG] at e
        cases e
        exact hq
      · rw [List.getElem?_set_ne (fun z => h z.symm)] at e
        exact (drp_sub (vG.cand x q e)).2
    · rw [List.count_set hkG, gk]
      have := vG.few q
      by_cases z : q0 = q
      · subst z
        have e1 : less d q0 q0 = d q0 - 1 := by simp [less]
        rw [e1] at this
        simp
        omega
      · have e1 : less d q0 q = d q := by
          unfold less
          rw [if_neg (fun w => z w.symm)]
        rw [e1] at this
        simp [z]
        exact this
  have cS : (G.set k (some q0)).count none + 1 = G.count none := by
    rw [List.count_set hkG, gk]
    have : 0 < G.count none := List.count_pos_iff.mpr (List.mem_of_getElem? hGk)
    simp
    omega
  have low := least v c vS
  -- from above
  have hP := crowd_in v c vP cP hk
  by_cases hh : P.count (some q0) ≤ d q0 - 1
  · have vP' : Vld (drp C k) (less d q0) P := ⟨vP.len, vP.cand, fun q => by
      unfold less
      split
      · rename_i z
        subst z
        exact hh
      · exact vP.few q⟩
    have := least vG cG vP'
    omega
  · have hpos : 0 < P.count (some q0) := by omega
    obtain ⟨y, hy, ey⟩ := List.getElem_of_mem (List.count_pos_iff.mp hpos)
    have ey' : P[y]? = some (some q0) := by rw [List.getElem?_eq_getElem hy, ey]
    have vP' : Vld (drp C k) (less d q0) (P.set y none) := by
      refine ⟨by rw [List.length_set]; exact vP.len, fun x q e => ?_, fun q => ?_⟩
      · by_cases h : x = y
        · subst h
          rw [List.getElem?_set_self hy] at e
          cases e
        · rw [List.getElem?_set_ne (fun z => h z.symm)] at e
          exact vP.cand x q e
      · by_cases z : q = q0
        · subst z
          have := cnt_set_q ey'
          have := vP.few q
          simp [less]
          omega
        · rw [cnt_set_p ey' z]
          simp [less, z]
          exact vP.few q
    have := least vG cG vP'
    rw [cnt_set_none ey'] at this
    omega
end
end Mc
/-! Mc4: the crowd found by a walk in breadth. -/
namespace Mc
open Mt (Tk cn holders mem_holders holders_nd nodup_len)
section
variable (C : List (List Nat)) (T : Tk)
def addH (F : List Nat) (q : Nat) : List Nat := F ++ (holders T q).filter fun y => decide (y ∉ F)
def cb : Nat → Nat → List Nat → List Nat
  | 0, _, F => F
  | f + 1, at_, F => match F[at_]? with
    | none => F
    | some x => cb f (at_ + 1) ((cn C x).foldl (addH T) F)
def unm : List Nat := (List.range T.length).filter fun x => decide (T[x]? = some none)
end
section
variable {C : List (List Nat)} {T : Tk}
/-- what holds of the found ones -/
structure Fd (C : List (List Nat)) (T : Tk) (F : List Nat) : Prop where
  nd : F.Nodup
  lt : ∀ x ∈ F, x < T.length
  rc : ∀ x ∈ F, Rch C T x
theorem mem_addH {F : List Nat} {q y : Nat} : y ∈ addH T F q ↔ y ∈ F ∨ T[y]? = some (some q) := by
  unfold addH
  rw [List.mem_append, List.mem_filter, mem_holders, decide_eq_true_eq]
  constructor
  · rintro (h | h)
    · exact .inl h
    · exact .inr h.1
  · rintro (h | h)
    · exact .inl h
    · by_cases hF : y ∈ F
      · exact .inl hF
      · exact .inr ⟨h, hF⟩
theorem addH_fd {F : List Nat} {q x : Nat} (f : Fd C T F) (hx : x ∈ F) (hl : x < C.length) (hq : q ∈ cn C x) : Fd C T (addH T F q) := by
  refine ⟨?_, fun y hy => ?_, fun y hy => ?_⟩
  · unfold addH
    rw [List.nodup_append]
    refine ⟨f.nd, List.Nodup.sublist List.filter_sublist (holders_nd T q), fun a ha b hb e => ?_⟩
    rw [List.mem_filter, decide_eq_true_eq] at hb
    exact hb.2 (e ▸ ha)
  · rcases mem_addH.mp hy with h | h
    · exact f.lt y h
    · exact (List.getElem?_eq_some_iff.mp h).1
  · rcases mem_addH.mp hy with h | h
    · exact f.rc y h
    · exact .step (f.rc x hx) hl hq h
theorem fold_fd {x : Nat} (hl : x < C.length) : ∀ (qs F : List Nat), Fd C T F → x ∈ F → (∀ q ∈ qs, q ∈ cn C x) →
    Fd C T (qs.foldl (addH T) F) ∧ (∃ H, qs.foldl (addH T) F = F ++ H) ∧ ∀ q ∈ qs, ∀ y, T[y]? = some (some q) → y ∈ qs.foldl (addH T) F
  | [], F, f, _, _ => ⟨f, ⟨[], by simp⟩, fun q hq => by simp at hq⟩
  | q :: qs, F, f, hx, hq => by
    have f1 := addH_fd f hx hl (hq q (by simp))
    have hx1 : x ∈ addH T F q := mem_addH.mpr (.inl hx)
    obtain ⟨i1, ⟨H, i2⟩, i3⟩ := fold_fd hl qs (addH T F q) f1 hx1 fun q' h => hq q' (by simp [h])
    rw [List.foldl_cons]
    refine ⟨i1, ⟨(holders T q).filter (fun y => decide (y ∉ F)) ++ H, by rw [i2]; unfold addH; rw [List.append_assoc]⟩, fun q' h y hy => ?_⟩
    rcases List.mem_cons.mp h with rfl | h
    · rw [i2]
      exact List.mem_append_left _ (mem_addH.mpr (.inr hy))
    · exact i3 q' h y hy
theorem cb_ok (hT : T.length = C.length) : ∀ (f at_ : Nat) (F : List Nat), Fd C T F → at_ ≤ F.length → (∀ i x, i < at_ → F[i]? = some x → ∀ q ∈ cn C x, ∀ y, T[y]? = some (some q) → y ∈ F) → C.length < f + at_ →
    Fd C T (cb C T f at_ F) ∧ (∀ x ∈ F, x ∈ cb C T f at_ F) ∧ ∀ x ∈ cb C T f at_ F, ∀ q ∈ cn C x, ∀ y, T[y]? = some (some q) → y ∈ cb C T f at_ F
  | 0, at_, F, fd, hat, _, hf => by
    have := nodup_len fd.nd fd.lt
    omega
  | f + 1, at_, F, fd, hat, hd, hf => by
    unfold cb
    cases e : F[at_]? with
    | none =>
      rw [List.getElem?_eq_none_iff] at e
      dsimp only
      refine ⟨fd, fun x h => h, fun x hx => ?_⟩
      obtain ⟨i, hi, ei⟩ := List.getElem_of_mem hx
      exact hd i x (by omega) (by rw [List.getElem?_eq_getElem hi, ei])
    | some x =>
      have hx : x ∈ F := List.mem_of_getElem? e
      have hlt := (List.getElem?_eq_some_iff.mp e).1
      have hxl : x < C.length := by rw [← hT]; exact fd.lt x hx
      obtain ⟨i1, ⟨H, i2⟩, i3⟩ := fold_fd hxl (cn C x) F fd hx fun q h => h
      dsimp only
      rw [i2] at i1 i3 ⊢
      obtain ⟨j1, j2, j3⟩ := cb_ok hT f (at_ + 1) (F ++ H) i1 (by rw [List.length_append]; omega) (fun i z hi hz => by
        rw [List.getElem?_append_left (by omega)] at hz
        by_cases h : i = at_
        · subst h
          rw [e] at hz
          cases hz
          exact i3
        · exact fun q hq y hy => List.mem_append_left _ (hd i z (by omega) hz q hq y hy)) (by omega)
      exact ⟨j1, fun z hz => j2 z (List.mem_append_left _ hz), j3⟩
theorem unm_fd : Fd C T (unm T) := by
  refine ⟨List.Nodup.sublist List.filter_sublist List.nodup_range, fun x hx => ?_, fun x hx => ?_⟩
  · unfold unm at hx
    rw [List.mem_filter, List.mem_range] at hx
    exact hx.1
  · unfold unm at hx
    rw [List.mem_filter, decide_eq_true_eq] at hx
    exact .root hx.2
/-- the found ones are the crowd -/
theorem crowd_mem (hT : T.length = C.length) {f : Nat} (hf : C.length < f) (x : Nat) : x ∈ cb C T f 0 (unm T) ↔ Rch C T x := by
  obtain ⟨h1, h2, h3⟩ := cb_ok (C := C) hT f 0 (unm T) unm_fd (Nat.zero_le _) (fun i x h => absurd h (Nat.not_lt_zero _)) (by omega)
  refine ⟨fun h => h1.rc x h, fun h => ?_⟩
  induction h with
  | @root x e =>
    refine h2 x ?_
    unfold unm
    rw [List.mem_filter, List.mem_range, decide_eq_true_eq]
    exact ⟨(List.getElem?_eq_some_iff.mp e).1, e⟩
  | step _ _ hq e ih => exact h3 _ ih _ hq _ e
theorem crowd_fd (hT : T.length = C.length) {f : Nat} (hf : C.length < f) : Fd C T (cb C T f 0 (unm T)) :=
  (cb_ok (C := C) hT f 0 (unm T) unm_fd (Nat.zero_le _) (fun i x h => absurd h (Nat.not_lt_zero _)) (by omega)).1
end
end Mc
/-! the law law_k34_whole_standings: mirrors and derivations, printed by gen.py -/
namespace Lk34
open PySem L2 PyProof.Rows Sm
def mth (st : Stmt) (i : Nat) : Stmt := (match st with
  | .ClassDef (body := b) .. => b
  | _ => []).getD i (.Pass ⟨0, 0, 0, 0⟩)
def mtab (c c2 : Nat) : Option Bool := if c < 2 ∧ c2 < 2 then some (decide (c2 = c)) else none
theorem mtab_one (c : Nat) : ∀ c2, mtab c c2 = some true → c2 = c := fun c2 h => by
  unfold mtab at h
  split at h
  · simpa using h
  · cases h
structure Tx (K : PySem.W.Frag) (mg : Str → Option Value) : Prop where
  z_bool : mg "bool" = none
  z_int : mg "int" = none
  z_isinstance : mg "isinstance" = none
  z_len : mg "len" = none
  z_range : mg "range" = none
  z_sorted : mg "sorted" = none
  z_str : mg "str" = none
  z_tuple : mg "tuple" = none
  c_KINDS : TupC K mg "KINDS" ["addr", "alias", "serve", "text"]
  c_LETTERS : ∃ u, mg "LETTERS" = some (.str "abcdefghijklmnopqrstuvwxyz0123456789-" u)
  c_MOST_ADDRESS : ∃ u, mg "MOST_ADDRESS" = some (.int 65535 u)
  c_MOST_DELAY : ∃ u, mg "MOST_DELAY" = some (.int 1000 u)
  c_MOST_DOUBLES : ∃ u, mg "MOST_DOUBLES" = some (.int 3 u)
  c_MOST_LABEL : ∃ u, mg "MOST_LABEL" = some (.int 12 u)
  c_MOST_LABELS : ∃ u, mg "MOST_LABELS" = some (.int 6 u)
  c_MOST_LETTERS : ∃ u, mg "MOST_LETTERS" = some (.int 24 u)
  c_MOST_MOMENT : ∃ u, mg "MOST_MOMENT" = some (.int 1000000 u)
noncomputable def b_is_label_1 : S := (sIf (tBl (eB opNin (eV 1) (eC (.str "abcdefghijklmnopqrstuvwxyz0123456789-")))) (sRet (eC (.bl false))) sSkip)
noncomputable def b_is_label : S := (sSeq (sIf (tOrM (tNotM (tTru (eU (opIsi .str) (eV 0)))) (tOrM (tBl (eB opEq (eV 0) (eC (.str "")))) (tBl (eB opGtX (eN opLen [(eV 0)]) (eC (.int 12)))))) (sRet (eC (.bl false))) sSkip)
    (sSeq (sFor (mSeqS (eV 0)) (gtName 1) b_is_label_1)
    (sRet (eAnd (eB opNe (eB opIx (eV 0) (eC (.int 0))) (eC (.str "-"))) (eB opNe (eB opIx (eV 0) (eU opNeg (eC (.int 1)))) (eC (.str "-")))))))
noncomputable def m_is_label : Fm := fnT 2 b_is_label
noncomputable def b_is_name_1 : S := (sIf (tNotM (tTru (eCall m_is_label [(eV 1)]))) (sRet (eC (.bl false))) sSkip)
noncomputable def b_is_name : S := (sSeq (sIf (tOrM (tNotM (tTru (eU (opIsi .tuple) (eV 0)))) (tBl (eB opGtX (eN opLen [(eV 0)]) (eC (.int 6))))) (sRet (eC (.bl false))) sSkip)
    (sSeq (sFor (mSeqS (eV 0)) (gtName 1) b_is_name_1)
    (sRet (eC (.bl true)))))
noncomputable def m_is_name : Fm := fnT 2 b_is_name
noncomputable def b_lies_under : S := (sRet (eAnd (eB opGeX (eN opLen [(eV 0)]) (eN opLen [(eV 1)])) (eB opEq (eSlF (eV 0) (some (eB opSub (eN opLen [(eV 0)]) (eN opLen [(eV 1)]))) none) (eV 1))))
noncomputable def m_lies_under : Fm := fnT 2 b_lies_under
noncomputable def b_is_integer : S := (sRet (eAnd (eU (opIsi .int) (eV 0)) (eNot (eU (opIsi .bool) (eV 0)))))
noncomputable def m_is_integer : Fm := fnT 1 b_is_integer
noncomputable def b_is_between : S := (sRet (eAnd (eCall m_is_integer [(eV 0)]) (eAnd (eB opLeX (eV 1) (eV 0)) (eB opLeX (eV 0) (eV 2)))))
noncomputable def m_is_between : Fm := fnT 3 b_is_between
noncomputable def b_is_letter : S := (sSeq (sIf (tOrM (tNotM (tTru (eU (opIsi .tuple) (eV 0)))) (tBl (eB opNe (eN opLen [(eV 0)]) (eC (.int 6))))) (sRet (eC (.bl false))) sSkip)
    (sSeq (sUnp (gtTup [1, 2, 3, 4, 5, 6]) (eV 0))
    (sSeq (sIf (tOrM (tNotM (tTru (eCall m_is_between [(eV 1), (eC (.int 0)), (eC (.int 1000000))]))) (tNotM (tTru (eCall m_is_between [(eV 2), (eC (.int 0)), (eC (.int 255))])))) (sRet (eC (.bl false))) sSkip)
    (sSeq (sIf (tOrM (tNotM (tTru (eCall m_is_between [(eV 3), (eC (.int 0)), (eC (.int 65535))]))) (tOrM (tNotM (tTru (eCall m_is_name [(eV 4)]))) (tNotM (tTru (eCall m_is_name [(eV 5)]))))) (sRet (eC (.bl false))) sSkip)
    (sRet (eAnd (eCall m_lies_under [(eV 5), (eV 4)]) (eB opIn (eV 6) (eC (.tup (List.map D.str ["addr", "alias", "serve", "text"]))))))))))
noncomputable def m_is_letter : Fm := fnT 7 b_is_letter
noncomputable def b_letter_order : S := (sRet (eTup [(eB opIx (eV 0) (eC (.int 0))), (eB opIx (eV 0) (eC (.int 1))), (eB opIx (eV 0) (eC (.int 2))), (eU opRevX (eB opIx (eV 0) (eC (.int 3)))), (eU opRevX (eB opIx (eV 0) (eC (.int 4)))), (eB opIx (eV 0) (eC (.int 5)))]))
noncomputable def m_letter_order : Fm := fnT 1 b_letter_order
noncomputable def b_are_letters_1 : S := (sSeq (sIf (tNotM (tTru (eCall m_is_letter [(eB opIx (eV 0) (eV 1))]))) (sRet (eC (.bl false))) sSkip)
    (sIf (tAndM (tBl (eB opGtX (eV 1) (eC (.int 0)))) (tBl (eB opLtX (eCall m_letter_order [(eB opIx (eV 0) (eV 1))]) (eCall m_letter_order [(eB opIx (eV 0) (eB opSub (eV 1) (eC (.int 1))))])))) (sRet (eC (.bl false))) sSkip))
noncomputable def b_are_letters : S := (sSeq (sIf (tNotM (tTru (eU (opIsi .tuple) (eV 0)))) (sRet (eC (.bl false))) sSkip)
    (sSeq (sFor (mRng1 (eN opLen [(eV 0)])) (gtName 1) b_are_letters_1)
    (sRet (eC (.bl true)))))
noncomputable def m_are_letters : Fm := fnT 2 b_are_letters
noncomputable def b_check_wire : S := (sSeq (sIf (tOrM (tNotM (tTru (eU (opIsi .tuple) (eV 0)))) (tBl (eB opNe (eN opLen [(eV 0)]) (eC (.int 2))))) (sRaise 0 [(eV 0), (eC (.str "shape"))]) sSkip)
    (sSeq (sIf (tNotM (tTru (eCall m_is_between [(eB opIx (eV 0) (eC (.int 0))), (eC (.int 0)), (eC (.int 1000))]))) (sRaise 0 [(eV 0), (eC (.str "delay"))]) sSkip)
    (sIf (tNotM (tTru (eCall m_is_between [(eB opIx (eV 0) (eC (.int 1))), (eC (.int 1)), (eC (.int 3))]))) (sRaise 0 [(eV 0), (eC (.str "doubles"))]) sSkip)))
noncomputable def m_check_wire : Fm := fnT 1 b_check_wire
noncomputable def b_check_row : S := (sSeq (sIf (tAndM (tTru (eU (opIsi .tuple) (eV 0))) (tBl (eB opGtX (eN opLen [(eV 0)]) (eC (.int 24))))) (sRaise 1 [(eV 1), (eN opLen [(eV 0)])]) sSkip)
    (sIf (tNotM (tTru (eCall m_are_letters [(eV 0)]))) (sRaise 0 [(eV 0), (eV 1)]) sSkip))
noncomputable def m_check_row : Fm := fnT 2 b_check_row
noncomputable def b_check_letters : S := (sSeq (sExpr (eCall m_check_wire [(eV 0)]))
    (sSeq (sExpr (eCall m_check_row [(eV 1), (eC (.str "questions"))]))
    (sExpr (eCall m_check_row [(eV 2), (eC (.str "replies"))]))))
noncomputable def m_check_letters : Fm := fnT 3 b_check_letters
noncomputable def b_is_candidate : S := (sRet (eAnd (eB opEq (eSlF (eV 1) (some (eC (.int 1))) none) (eSlF (eV 2) (some (eC (.int 1))) none)) (eCall m_is_between [(eB opSub (eB opIx (eV 2) (eC (.int 0))) (eB opIx (eV 1) (eC (.int 0)))), (eC (.int 0)), (eB opMulA (eC (.int 2)) (eB opIx (eV 0) (eC (.int 0))))])))
noncomputable def m_is_candidate : Fm := fnT 3 b_is_candidate
noncomputable def b_candidates_of_1 : S := (sExpr (eMt opAppend (eV 3) [(eN opTupleOf [(eFz (eLc (mRng1 (eN opLen [(eV 1)])) (gtName 5) (tTru (eCall m_is_candidate [(eV 0), (eB opIx (eV 1) (eV 5)), (eV 4)])) (eV 5) [5]))])]))
noncomputable def b_candidates_of : S := (sSeq (sExpr (eCall m_check_letters [(eV 0), (eV 1), (eV 2)]))
    (sSeq (sSet 3 (eLst []))
    (sSeq (sFor (mSeqS (eV 2)) (gtName 4) b_candidates_of_1)
    (sRet (eN opTupleOf [(eV 3)])))))
noncomputable def m_candidates_of : Fm := fnT 6 b_candidates_of
noncomputable def b_Matcher___init__ : S := (sSeq (sFld 2 0 (eV 0) (eV 1))
    (sSeq (sFld 2 1 (eV 0) (eV 2))
    (sSeq (sFld 2 2 (eV 0) (eLc (mSeqS (eV 1)) (gtName 3) tYesM (eC .non) [3]))
    (sFld 2 3 (eV 0) eDK))))
noncomputable def m_Matcher___init__ : Fm := fnT 4 b_Matcher___init__
noncomputable def b_Matcher_replies_of : S := (sRet (eFz (eLc (mRng1 (eN opLen [(eU (opFld 2 2) (eV 0))])) (gtName 2) (tBl (eB opEq (eB opIx (eU (opFld 2 2) (eV 0)) (eV 2)) (eV 1))) (eV 2) [2])))
noncomputable def m_Matcher_replies_of : Fm := fnT 3 b_Matcher_replies_of
noncomputable def b_Matcher_turn_over_1 : S := (sSeq (sSet 3 (eB opGetD (eU (opFld 2 3) (eV 0)) (eV 1)))
    (sSeq (sSet 4 (eB opIx (eU (opFld 2 2) (eV 0)) (eV 3)))
    (sSeq (sSetIx (eU (opFld 2 2) (eV 0)) (eV 3) (eV 1))
    (sSet 1 (eIf (tBl (eB opEq (eV 3) (eV 2))) (eC .non) (eV 4))))))
noncomputable def b_Matcher_turn_over : S := (sWhile 100000 (tBl (eU opNotN (eV 1))) b_Matcher_turn_over_1)
noncomputable def m_Matcher_turn_over : Fm := fnT 5 b_Matcher_turn_over
noncomputable def b_Matcher_grow_2 : S := (sIf (tBl (eB opNinDe (eV 4) (eU (opFld 2 3) (eV 0)))) (sSeq (sSetIx (eU (opFld 2 3) (eV 0)) (eV 4) (eB opIx (eV 2) (eV 3)))
    (sSeq (sSet 5 (eMeth 2 m_Matcher_replies_of (eV 0) [(eV 4)]))
    (sSeq (sIf (tBl (eB opLtX (eN opLen [(eV 5)]) (eU (opFld 2 1) (eV 0)))) (sSeq (sExpr (eMeth 2 m_Matcher_turn_over (eV 0) [(eV 4), (eV 1)]))
    (sRet (eFz (eV 2)))) sSkip)
    (sTr (sExpr (eMt opExtend (eV 2) [(eLc (mSeqS (eV 5)) (gtName 6) (tBl (eB opNin (eV 6) (eV 2))) (eV 6) [6])])))))) sSkip)
noncomputable def b_Matcher_grow_1 : S := (sSeq (sFor (mSeqS (eB opIx (eU (opFld 2 0) (eV 0)) (eB opIx (eV 2) (eV 3)))) (gtName 4) b_Matcher_grow_2)
    (sAug opIAddI 3 (eC (.int 1))))
noncomputable def b_Matcher_grow : S := (sSeq (sFld 2 3 (eV 0) eDK)
    (sSeq (sSet 2 (eLst [(eV 1)]))
    (sSeq (sSet 3 (eC (.int 0)))
    (sSeq (sWhile 100000 (tBl (eB opLtX (eV 3) (eN opLen [(eV 2)]))) b_Matcher_grow_1)
    (sRet (eFz (eV 2)))))))
noncomputable def m_Matcher_grow : Fm := fnT 7 b_Matcher_grow
noncomputable def b_match_1 : S := (sExpr (eMeth 2 m_Matcher_grow (eV 2) [(eV 3)]))
noncomputable def b_match : S := (sSeq (sSet 2 (eMake 2 4 m_Matcher___init__ [(eV 0), (eV 1)]))
    (sSeq (sFor (mRng1 (eN opLen [(eV 0)])) (gtName 3) b_match_1)
    (sRet (eV 2))))
noncomputable def m_match : Fm := fnT 4 b_match
noncomputable def b_attribute : S := (sRet (eN opTupleOf [(eU (opFld 2 2) (eCall m_match [(eCall m_candidates_of [(eV 0), (eV 1), (eV 2)]), (eB opIx (eV 0) (eC (.int 1)))]))]))
noncomputable def m_attribute : Fm := fnT 3 b_attribute
noncomputable def b_least_forged : S := (sRet (eN opLen [(eFz (eLc (mSeqS (eCall m_attribute [(eV 0), (eV 1), (eV 2)])) (gtName 3) (tBl (eU opIsN (eV 3))) (eV 3) [3]))]))
noncomputable def m_least_forged : Fm := fnT 4 b_least_forged
noncomputable def b_is_attribution_1 : S := (sIf (tBl (eU opNotN (eB opIx (eV 3) (eV 5)))) (sSeq (sIf (tOrM (tNotM (tTru (eCall m_is_between [(eB opIx (eV 3) (eV 5)), (eC (.int 0)), (eB opSub (eN opLen [(eV 1)]) (eC (.int 1)))]))) (tBl (eB opNin (eB opIx (eV 3) (eV 5)) (eB opIx (eV 4) (eV 5))))) (sRet (eC (.bl false))) sSkip)
    (sIf (tBl (eB opGtX (eN opLen [(eFz (eLc (mSeqS (eSlF (eV 3) none (some (eB opAdd (eV 5) (eC (.int 1)))))) (gtName 6) (tBl (eB opEq (eV 6) (eB opIx (eV 3) (eV 5)))) (eV 6) [6]))]) (eB opIx (eV 0) (eC (.int 1))))) (sRet (eC (.bl false))) sSkip)) sSkip)
noncomputable def b_is_attribution : S := (sSeq (sSet 4 (eCall m_candidates_of [(eV 0), (eV 1), (eV 2)]))
    (sSeq (sIf (tOrM (tNotM (tTru (eU (opIsi .tuple) (eV 3)))) (tBl (eB opNe (eN opLen [(eV 3)]) (eN opLen [(eV 2)])))) (sRet (eC (.bl false))) sSkip)
    (sSeq (sFor (mRng1 (eN opLen [(eV 3)])) (gtName 5) b_is_attribution_1)
    (sRet (eC (.bl true))))))
noncomputable def m_is_attribution : Fm := fnT 7 b_is_attribution
noncomputable def b_crowd_of_2 : S := (sTr (sExpr (eMt opExtend (eV 5) [(eLc (mSeqS (eMeth 2 m_Matcher_replies_of (eV 4) [(eV 7)])) (gtName 9) (tBl (eB opNin (eV 9) (eV 5))) (eV 9) [9])])))
noncomputable def b_crowd_of_1 : S := (sSeq (sFor (mSeqS (eB opIx (eV 3) (eB opIx (eV 5) (eV 6)))) (gtName 7) b_crowd_of_2)
    (sAug opIAddI 6 (eC (.int 1))))
noncomputable def b_crowd_of : S := (sSeq (sSet 3 (eCall m_candidates_of [(eV 0), (eV 1), (eV 2)]))
    (sSeq (sSet 4 (eCall m_match [(eV 3), (eB opIx (eV 0) (eC (.int 1)))]))
    (sSeq (sSet 5 (eLc (mRng1 (eN opLen [(eV 3)])) (gtName 8) (tBl (eU opIsN (eB opIx (eU (opFld 2 2) (eV 4)) (eV 8)))) (eV 8) [8]))
    (sSeq (sSet 6 (eC (.int 0)))
    (sSeq (sWhile 100000 (tBl (eB opLtX (eV 6) (eN opLen [(eV 5)]))) b_crowd_of_1)
    (sRet (eN opTupleOf [(eN opSortedF [(eV 5)])])))))))
noncomputable def m_crowd_of : Fm := fnT 10 b_crowd_of
noncomputable def b_standing_of : S := (sSeq (sExpr (eCall m_check_letters [(eV 0), (eV 1), (eV 2)]))
    (sSeq (sIf (tNotM (tTru (eCall m_is_between [(eV 3), (eC (.int 0)), (eB opSub (eN opLen [(eV 2)]) (eC (.int 1)))]))) (sRaise 0 [(eV 3), (eC (.str "index"))]) sSkip)
    (sSeq (sIf (tBl (eB opEq (eB opIx (eCall m_candidates_of [(eV 0), (eV 1), (eV 2)]) (eV 3)) (eTup []))) (sRet (eC (.str "forged"))) sSkip)
    (sSeq (sIf (tBl (eB opIn (eV 3) (eCall m_crowd_of [(eV 0), (eV 1), (eV 2)]))) (sRet (eC (.str "open"))) sSkip)
    (sRet (eC (.str "genuine")))))))
noncomputable def m_standing_of : Fm := fnT 4 b_standing_of
noncomputable def b__law_number : S := (sSeq (sSet 3 (eC (.int 0)))
    (sSeq (sIf (tBl (eB opGtX (eN opLen [(eV 0)]) (eC (.int 0)))) (sSet 3 (eN opInt [(eB opIx (eV 0) (eB opMod (eN opInt [(eV 1)]) (eN opLen [(eV 0)])))])) sSkip)
    (sSeq (sIf (tAndM (tBl (eB opLtX (eV 1) (eN opLen [(eV 0)]))) (tBl (eB opGeX (eV 3) (eB opPow (eC (.int 10)) (eC (.int 18)))))) (sRet (eB opMod (eN opInt [(eB opSub (eV 3) (eB opPow (eC (.int 10)) (eC (.int 18))))]) (eV 2))) sSkip)
    (sSeq (sSet 4 (eB opAdd (eB opAdd (eB opMulA (eB opMod (eN opInt [(eV 3)]) (eC (.int 1000003))) (eC (.int 48271))) (eB opMulA (eV 1) (eC (.int 69621)))) (eC (.int 11))))
    (sSeq (sSet 5 (eB opMod (eN opInt [(eB opFdiv (eB opMulA (eV 4) (eV 4)) (eC (.int 7)))]) (eC (.int 1000000000039))))
    (sSeq (sSet 6 (eB opMod (eN opInt [(eB opAdd (eB opFdiv (eB opMulA (eV 4) (eC (.int 16807))) (eC (.int 5))) (eV 5))]) (eC (.int 1000000000061))))
    (sRet (eB opMod (eN opInt [(eB opAdd (eV 5) (eB opMulA (eC (.int 1000000000039)) (eV 6)))]) (eV 2)))))))))
noncomputable def m__law_number : Fm := fnT 7 b__law_number
noncomputable def b__law_row_1 : S := (sSet 3 (eB opMulA (eV 3) (eV 4)))
noncomputable def b__law_row_2 : S := (sSeq (sExpr (eMt opAppend (eV 6) [(eB opMod (eN opInt [(eV 5)]) (eV 4))]))
    (sSet 5 (eB opFdiv (eN opInt [(eV 5)]) (eV 4))))
noncomputable def b__law_row : S := (sSeq (sSet 3 (eC (.int 1)))
    (sSeq (sFor (mSeqS (eV 2)) (gtName 4) b__law_row_1)
    (sSeq (sSet 5 (eCall m__law_number [(eV 0), (eV 1), (eV 3)]))
    (sSeq (sSet 6 (eLst []))
    (sSeq (sFor (mSeqS (eV 2)) (gtName 4) b__law_row_2)
    (sRet (eFz (eV 6))))))))
noncomputable def m__law_row : Fm := fnT 7 b__law_row
noncomputable def b__law_label_1 : S := (sSeq (sSet 5 (eC (.int 37)))
    (sSeq (sIf (tOrM (tBl (eB opEq (eV 4) (eC (.int 0)))) (tBl (eB opEq (eV 4) (eB opSub (eV 2) (eC (.int 1)))))) (sSet 5 (eC (.int 36))) sSkip)
    (sSeq (sSet 3 (eB opAdd (eV 3) (eB opIx (eV 1) (eB opMod (eN opInt [(eV 0)]) (eV 5)))))
    (sSet 0 (eB opFdiv (eN opInt [(eV 0)]) (eV 5))))))
noncomputable def b__law_label : S := (sSeq (sSet 1 (eC (.str "abcdefghijklmnopqrstuvwxyz0123456789-")))
    (sSeq (sSet 2 (eB opAdd (eC (.int 1)) (eB opMod (eN opInt [(eV 0)]) (eC (.int 12)))))
    (sSeq (sSet 0 (eB opFdiv (eN opInt [(eV 0)]) (eC (.int 12))))
    (sSeq (sSet 3 (eC (.str "")))
    (sSeq (sFor (mRng1 (eV 2)) (gtName 4) b__law_label_1)
    (sRet (eV 3)))))))
noncomputable def m__law_label : Fm := fnT 6 b__law_label
noncomputable def b__law_key : S := (sRet (eTup [(eB opIx (eV 0) (eC (.int 0))), (eB opIx (eV 0) (eC (.int 1))), (eB opIx (eV 0) (eC (.int 2))), (eU opRevX (eB opIx (eV 0) (eC (.int 3)))), (eU opRevX (eB opIx (eV 0) (eC (.int 4)))), (eB opIx (eV 0) (eC (.int 5)))]))
noncomputable def m__law_key : Fm := fnT 1 b__law_key
noncomputable def b__law_rules : S := (sSeq (sSet 1 (eCall m__law_row [(eV 0), (eC (.int 0)), (eLstF [(eC (.int 4)), (eC (.int 3)), (eC (.int 1001))])]))
    (sRet (eTup [(eB opIx (eLstF [(eB opIx (eV 1) (eC (.int 2))), (eC (.int 0)), (eC (.int 1000)), (eB opMod (eN opInt [(eB opIx (eV 1) (eC (.int 2)))]) (eC (.int 4)))]) (eB opIx (eV 1) (eC (.int 0)))), (eB opAdd (eC (.int 1)) (eB opIx (eV 1) (eC (.int 1))))])))
noncomputable def m__law_rules : Fm := fnT 2 b__law_rules
noncomputable def b__law_pools : S := (sSeq (sSet 1 (eCall m__law_row [(eV 0), (eC (.int 1)), (eLstF [(eC (.int 256)), (eC (.int 256)), (eC (.int 65536)), (eC (.int 65536)), (eC (.int 3)), (eC (.int 3)), (eC (.int 4)), (eC (.int 4))])]))
    (sSeq (sSet 2 (eCall m__law_label [(eCall m__law_number [(eV 0), (eC (.int 2)), (eB opPow (eC (.int 10)) (eC (.int 20)))])]))
    (sSeq (sSet 3 (eCall m__law_label [(eCall m__law_number [(eV 0), (eC (.int 3)), (eB opPow (eC (.int 10)) (eC (.int 20)))])]))
    (sSeq (sSet 4 (eLstF [(eTup []), (eTup [(eV 2)]), (eTup [(eV 3), (eV 2)])]))
    (sSeq (sSet 5 (eLstF [(eC (.str "addr")), (eC (.str "alias")), (eC (.str "serve")), (eC (.str "text"))]))
    (sSeq (sSet 6 (eTup [(eTup [(eC (.str "a")), (eV 3), (eV 2)]), (eTup [(eV 3), (eV 2)])]))
    (sSeq (sSet 7 (eLstF [(eTup [(eB opIx (eV 1) (eC (.int 0))), (eB opIx (eV 1) (eC (.int 1)))]), (eTup [(eB opIx (eV 1) (eC (.int 2))), (eB opIx (eV 1) (eC (.int 3)))]), (eTup [(eB opIx (eV 4) (eB opIx (eV 1) (eC (.int 4)))), (eB opIx (eV 4) (eB opIx (eV 1) (eC (.int 5))))])]))
    (sRet (eB opAddF (eV 7) (eLstF [(eV 6), (eTup [(eB opIx (eV 5) (eB opIx (eV 1) (eC (.int 6)))), (eB opIx (eV 5) (eB opIx (eV 1) (eC (.int 7))))])]))))))))))
noncomputable def m__law_pools : Fm := fnT 8 b__law_pools
noncomputable def b__law_base : S := (sSeq (sSet 2 (eCall m__law_row [(eV 0), (eC (.int 4)), (eLstF [(eC (.int 4)), (eC (.int 990000))])]))
    (sRet (eB opIx (eLstF [(eB opAdd (eC (.int 1)) (eB opIx (eV 2) (eC (.int 1)))), (eB opAdd (eC (.int 1)) (eB opIx (eV 2) (eC (.int 1)))), (eC (.int 1)), (eB opSub (eB opSub (eC (.int 1000000)) (eB opMulA (eC (.int 4)) (eV 1))) (eC (.int 2)))]) (eB opIx (eV 2) (eC (.int 0))))))
noncomputable def m__law_base : Fm := fnT 3 b__law_base
noncomputable def b__law_letter : S := (sSeq (sSet 3 (eFz (eLc (mRng1 (eC (.int 5))) (gtName 4) tYesM (eB opIx (eB opIx (eV 0) (eV 4)) (eN opInt [(eB opEq (eV 1) (eB opAdd (eV 4) (eC (.int 1))))])) [4])))
    (sRet (eB opAdd (eTup [(eV 2)]) (eN opTupleOf [(eV 3)]))))
noncomputable def m__law_letter : Fm := fnT 5 b__law_letter
noncomputable def b__law_letters_1 : S := (sSeq (sSet 9 (eCall m__law_row [(eV 0), (eB opAddF (eV 1) (eV 8)), (eLstF [(eC (.int 3)), (eC (.int 5)), (eV 6), (eC (.int 4))])]))
    (sSeq (sSet 10 (eC (.int 0)))
    (sSeq (sIf (tBl (eB opEq (eB opIx (eV 9) (eC (.int 0))) (eC (.int 2)))) (sSet 10 (eB opAdd (eC (.int 1)) (eB opIx (eV 9) (eC (.int 1))))) sSkip)
    (sExpr (eMt opAppend (eV 7) [(eCall m__law_letter [(eV 3), (eV 10), (eB opSub (eB opAdd (eB opAdd (eV 4) (eB opMulA (eB opIx (eV 9) (eC (.int 2))) (eV 5))) (eB opIx (eV 9) (eC (.int 3)))) (eC (.int 1)))])])))))
noncomputable def b__law_letters : S := (sSeq (sSet 7 (eLst []))
    (sSeq (sFor (mRng1 (eV 2)) (gtName 8) b__law_letters_1)
    (sRet (eN opTupleOf [(eU (opSortK m__law_key) (eV 7))]))))
noncomputable def m__law_letters : Fm := fnT 11 b__law_letters
noncomputable def b__law_candidates_2 : S := (sSeq (sSet 7 (eB opSub (eB opIx (eV 4) (eC (.int 0))) (eB opIx (eB opIx (eV 1) (eV 6)) (eC (.int 0)))))
    (sIf (tAndM (tBl (eB opEq (eSlF (eB opIx (eV 1) (eV 6)) (some (eC (.int 1))) none) (eSlF (eV 4) (some (eC (.int 1))) none))) (tAndM (tBl (eB opLeX (eC (.int 0)) (eV 7))) (tBl (eB opLeX (eV 7) (eB opMulA (eC (.int 2)) (eB opIx (eV 0) (eC (.int 0)))))))) (sExpr (eMt opAppend (eV 5) [(eV 6)])) sSkip))
noncomputable def b__law_candidates_1 : S := (sSeq (sSet 5 (eLst []))
    (sSeq (sFor (mRng1 (eN opLen [(eV 1)])) (gtName 6) b__law_candidates_2)
    (sExpr (eMt opAppend (eV 3) [(eN opTupleOf [(eV 5)])]))))
noncomputable def b__law_candidates : S := (sSeq (sSet 3 (eLst []))
    (sSeq (sFor (mSeqS (eV 2)) (gtName 4) b__law_candidates_1)
    (sRet (eN opTupleOf [(eV 3)]))))
noncomputable def m__law_candidates : Fm := fnT 8 b__law_candidates
noncomputable def b__law_greedy_2 : S := (sIf (tAndM (tBl (eU opIsN (eV 8))) (tBl (eB opLtX (eB opIx (eV 5) (eV 9)) (eV 1)))) (sSet 8 (eV 9)) sSkip)
noncomputable def b__law_greedy_1 : S := (sSeq (sSet 8 (eC .non))
    (sSeq (sIf (tBl (eB opNe (eV 7) (eV 3))) (sFor (mSeqS (eB opIx (eV 0) (eV 7))) (gtName 9) b__law_greedy_2) sSkip)
    (sSeq (sIf (tBl (eU opNotN (eV 8))) (sSetIx (eV 5) (eV 8) (eB opAdd (eB opIx (eV 5) (eV 8)) (eC (.int 1)))) sSkip)
    (sExpr (eMt opAppend (eV 6) [(eV 8)])))))
noncomputable def b__law_greedy : S := (sSeq (sSet 5 (eLc (mRng1 (eV 2)) (gtName 7) tYesM (eN opInt [(eB opEq (eV 7) (eV 4))]) [7]))
    (sSeq (sSet 6 (eLst []))
    (sSeq (sFor (mRng1 (eN opLen [(eV 0)])) (gtName 7) b__law_greedy_1)
    (sRet (eN opTupleOf [(eV 6)])))))
noncomputable def m__law_greedy : Fm := fnT 10 b__law_greedy
noncomputable def b__law_forged : S := (sRet (eN opLen [(eFz (eLc (mSeqS (eV 0)) (gtName 1) (tBl (eU opIsN (eV 1))) (eV 1) [1]))]))
noncomputable def m__law_forged : Fm := fnT 2 b__law_forged
noncomputable def b__law_asked : S := (sSeq (sIf (tBl (eB opLeX (eV 1) (eC (.int 8)))) (sRet (eFz (eLc (mRng1 (eV 1)) (gtName 3) tYesM (eV 3) [3]))) sSkip)
    (sSeq (sSet 2 (eCall m__law_row [(eV 0), (eC (.int 56)), (eLstF [(eC (.int 24)), (eC (.int 24))])]))
    (sRet (eFz (eLc (mRng1 (eC (.int 5))) (gtName 3) tYesM (eB opMod (eN opInt [(eB opAdd (eB opIx (eV 2) (eC (.int 0))) (eB opMulA (eV 3) (eB opAdd (eC (.int 1)) (eB opIx (eV 2) (eC (.int 1))))))]) (eV 1)) [3])))))
noncomputable def m__law_asked : Fm := fnT 4 b__law_asked
noncomputable def b__law_refuses_index : S := (sSeq (sTryX (sExpr (eCall m_standing_of [(eV 0), (eV 1), (eV 2), (eV 3)])) (mtab 0) 4 (fun fs => eAnd ((fun fs => eB opEq ((eFd 0) fs) ((fun _ => (eV 3)) fs)) fs) ((fun fs => eB opEq ((eFd 1) fs) ((fun _ => (eC (.str "index"))) fs)) fs)))
    (sRet (eC (.bl false))))
noncomputable def m__law_refuses_index : Fm := fnT 5 b__law_refuses_index
noncomputable def b__law_is_open : S := (sSeq (sSet 6 (eCall m__law_greedy [(eV 3), (eB opIx (eV 0) (eC (.int 1))), (eN opLen [(eV 1)]), (eV 4), (eU opNeg (eC (.int 1)))]))
    (sSeq (sSet 7 (eCall m__law_greedy [(eV 3), (eB opIx (eV 0) (eC (.int 1))), (eN opLen [(eV 1)]), (eV 4), (eB opIx (eB opIx (eV 3) (eV 4)) (eC (.int 0)))]))
    (sSeq (sSet 7 (eB opAdd (eB opAdd (eSlF (eV 7) none (some (eV 4))) (eTup [(eB opIx (eB opIx (eV 3) (eV 4)) (eC (.int 0)))])) (eSlF (eV 7) (some (eB opAdd (eV 4) (eC (.int 1)))) none)))
    (sSeq (sIf (tOrM (tBl (eB opNe (eCall m__law_forged [(eV 6)]) (eV 5))) (tBl (eB opNe (eCall m__law_forged [(eV 7)]) (eV 5)))) (sRet (eC (.bl false))) sSkip)
    (sSeq (sIf (tBl (eB opNotB (eCall m_is_attribution [(eV 0), (eV 1), (eV 2), (eV 6)]) (eC (.bl true)))) (sRet (eC (.bl false))) sSkip)
    (sRet (eB opIsB (eCall m_is_attribution [(eV 0), (eV 1), (eV 2), (eV 7)]) (eC (.bl true)))))))))
noncomputable def m__law_is_open : Fm := fnT 8 b__law_is_open
noncomputable def b_law_1 : S := (sSeq (sSet 13 (eCall m_standing_of [(eV 1), (eV 6), (eV 7), (eV 11)]))
    (sSeq (sIf (tNotM (tTru (eU (opIsi .str) (eV 13)))) (sRet (eC (.bl false))) sSkip)
    (sIf (tBl (eB opEq (eB opIx (eV 8) (eV 11)) (eTup []))) (sIf (tOrM (tBl (eB opNe (eV 13) (eC (.str "forged")))) (tBl (eU opNotN (eB opIx (eV 10) (eV 11))))) (sRet (eC (.bl false))) sSkip) (sIf (tBl (eB opEq (eCall m__law_forged [(eCall m__law_greedy [(eV 8), (eB opIx (eV 1) (eC (.int 1))), (eB opIx (eV 5) (eC (.int 0))), (eV 11), (eU opNeg (eC (.int 1)))])]) (eV 9))) (sIf (tOrM (tBl (eB opNe (eV 13) (eC (.str "open")))) (tNotM (tTru (eCall m__law_is_open [(eV 1), (eV 6), (eV 7), (eV 8), (eV 11), (eV 9)])))) (sRet (eC (.bl false))) sSkip) (sIf (tOrM (tBl (eB opNe (eV 13) (eC (.str "genuine")))) (tBl (eU opIsN (eB opIx (eV 10) (eV 11))))) (sRet (eC (.bl false))) sSkip)))))
noncomputable def b_law : S := (sSeq (sSet 1 (eCall m__law_rules [(eV 0)]))
    (sSeq (sSet 2 (eCall m__law_pools [(eV 0)]))
    (sSeq (sSet 3 (eCall m__law_base [(eV 0), (eB opIx (eV 1) (eC (.int 0)))]))
    (sSeq (sSet 4 (eCall m__law_row [(eV 0), (eC (.int 5)), (eLstF [(eC (.int 7)), (eC (.int 9)), (eC (.int 10)), (eC (.int 25)), (eC (.int 25))])]))
    (sSeq (sSet 5 (eLstF [(eB opIx (eV 4) (eC (.int 0))), (eB opIx (eV 4) (eC (.int 1)))]))
    (sSeq (sIf (tBl (eB opEq (eB opIx (eV 4) (eC (.int 2))) (eC (.int 0)))) (sSet 5 (eLstF [(eB opIx (eV 4) (eC (.int 3))), (eB opIx (eV 4) (eC (.int 4)))])) sSkip)
    (sSeq (sSet 6 (eCall m__law_letters [(eV 0), (eC (.int 8)), (eB opIx (eV 5) (eC (.int 0))), (eV 2), (eV 3), (eB opIx (eV 1) (eC (.int 0))), (eC (.int 3))]))
    (sSeq (sSet 7 (eCall m__law_letters [(eV 0), (eC (.int 32)), (eB opIx (eV 5) (eC (.int 1))), (eV 2), (eV 3), (eB opIx (eV 1) (eC (.int 0))), (eC (.int 5))]))
    (sSeq (sSet 8 (eCall m__law_candidates [(eV 1), (eV 6), (eV 7)]))
    (sSeq (sSet 9 (eCall m__law_forged [(eCall m__law_greedy [(eV 8), (eB opIx (eV 1) (eC (.int 1))), (eB opIx (eV 5) (eC (.int 0))), (eU opNeg (eC (.int 1))), (eU opNeg (eC (.int 1)))])]))
    (sSeq (sIf (tBl (eB opNe (eCall m_least_forged [(eV 1), (eV 6), (eV 7)]) (eV 9))) (sRet (eC (.bl false))) sSkip)
    (sSeq (sSet 10 (eCall m_attribute [(eV 1), (eV 6), (eV 7)]))
    (sSeq (sIf (tOrM (tNotM (tTru (eU (opIsi .tuple) (eV 10)))) (tBl (eB opNe (eN opLen [(eV 10)]) (eB opIx (eV 5) (eC (.int 1)))))) (sRet (eC (.bl false))) sSkip)
    (sSeq (sFor (mSeqS (eCall m__law_asked [(eV 0), (eB opIx (eV 5) (eC (.int 1)))])) (gtName 11) b_law_1)
    (sSeq (sSet 12 (eB opIx (eLstF [(eB opIx (eV 5) (eC (.int 1))), (eU opNeg (eC (.int 1))), (eC (.bl true)), (eC .non), (eC (.str "0")), (eTup [(eC (.int 0))]), (eC (.bl false)), (eLstF [(eC (.int 0))])]) (eCall m__law_number [(eV 0), (eC (.int 57)), (eC (.int 8))])))
    (sRet (eCall m__law_refuses_index [(eV 1), (eV 6), (eV 7), (eV 12)])))))))))))))))))
noncomputable def m_law : Fm := fnT 14 b_law
end Lk34
namespace Lk34
open PySem L2 PyProof.Rows Sm
def top (i : Nat) : Stmt := PySem.Challenge.pw_surely_k34_whole_standings.main.body.getD i (.Pass ⟨0, 0, 0, 0⟩)
abbrev s_is_label : Stmt := top 14
abbrev s_is_name : Stmt := top 15
abbrev s_lies_under : Stmt := top 16
abbrev s_is_integer : Stmt := top 18
abbrev s_is_between : Stmt := top 19
abbrev s_is_letter : Stmt := top 21
abbrev s_letter_order : Stmt := top 22
abbrev s_are_letters : Stmt := top 23
abbrev s_check_wire : Stmt := top 24
abbrev s_check_row : Stmt := top 25
abbrev s_check_letters : Stmt := top 26
abbrev s_is_candidate : Stmt := top 27
abbrev s_candidates_of : Stmt := top 28
abbrev s_Matcher___init__ : Stmt := mth (top 30) 0
abbrev s_Matcher_replies_of : Stmt := mth (top 30) 1
abbrev s_Matcher_turn_over : Stmt := mth (top 30) 2
abbrev s_Matcher_grow : Stmt := mth (top 30) 3
abbrev s_match : Stmt := top 31
abbrev s_attribute : Stmt := top 32
abbrev s_least_forged : Stmt := top 33
abbrev s_is_attribution : Stmt := top 34
abbrev s_crowd_of : Stmt := top 36
abbrev s_standing_of : Stmt := top 37
abbrev s__law_number : Stmt := top 39
abbrev s__law_row : Stmt := top 40
abbrev s__law_label : Stmt := top 41
abbrev s__law_key : Stmt := top 42
abbrev s__law_rules : Stmt := top 43
abbrev s__law_pools : Stmt := top 44
abbrev s__law_base : Stmt := top 45
abbrev s__law_letter : Stmt := top 46
abbrev s__law_letters : Stmt := top 47
abbrev s__law_candidates : Stmt := top 48
abbrev s__law_greedy : Stmt := top 49
abbrev s__law_forged : Stmt := top 50
abbrev s__law_asked : Stmt := top 51
abbrev s__law_refuses_index : Stmt := top 52
abbrev s__law_is_open : Stmt := top 53
abbrev s_law : Stmt := top 54
section
variable {P : Program} {w : World} {K : PySem.W.Frag} {mg : Str → Option Value} {base : Heap} {G : Cl}
structure Errs (P : Program) (w : World) (K : PySem.W.Frag) (mg : Str → Option Value) (base : Heap) (G : Cl) : Prop where
  m_BadRules : mg "BadRules" = some (.ref (G.at_ 0))
  E_BadRules : ErrOk P w K mg base G 1 "BadRules" 0
  N_BadRules : G.nm 0 = (["value", "field"] : List Str)
  X_BadRules : XfC K (G.at_ 0)
  F_BadRules_value : PySem.W.findIn K (.ref (G.at_ 0)) "value" = some none
  F_BadRules_field : PySem.W.findIn K (.ref (G.at_ 0)) "field" = some none
  m_TooMany : mg "TooMany" = some (.ref (G.at_ 1))
  E_TooMany : ErrOk P w K mg base G 1 "TooMany" 1
  N_TooMany : G.nm 1 = (["what", "count"] : List Str)
  X_TooMany : XfC K (G.at_ 1)
  F_TooMany_what : PySem.W.findIn K (.ref (G.at_ 1)) "what" = some none
  F_TooMany_count : PySem.W.findIn K (.ref (G.at_ 1)) "count" = some none
  T_Matcher : ClOk K G 2
  N_Matcher : G.nm 2 = (["candidates", "doubles", "taken", "came"] : List Str)
  M : ∀ c c2 b, mtab c c2 = some b → PySem.W.exmOne K (.ref (G.at_ c2)) (.ref (G.at_ c)) = some b
theorem sc_is_label : FnScope ["value", "sign"] ["value"] (defScope s_is_label) := ⟨rfl, rfl, rfl, by decide +kernel, rfl, by decide +kernel, by decide +kernel⟩
theorem d_is_label {f : Addr} {fd : FuncData} (F : Fun K "is_label" "is_label" s_is_label f fd) (T : Tx K mg) (Z : Errs P w K mg base G)  : FnOk P w K mg base (L2.CX P w) 1 f fd ["value"] (spM K G 1 m_is_label) :=
  fn_okT (N := ["value", "sign"]) (ps := ["value"]) (k := 0) (n := 2) (np := 1) (body := b_is_label) rfl rfl F sc_is_label fun cdv A outer s H E c => by
    exact (ss_cons (s_if (st_w (sw_or (st_not (st_truth (se_isi .str (se_var 0) (se_ty (by rfl) T.z_str bt_str) (by rfl) T.z_isinstance))) (sw_or (st_eq c.hu (se_var 0) se_str) (sw_or1 (st_gtX c.hu (se_callB call_lenAll im_len (by rfl) T.z_len bt_len (sa_cons (se_var 0) sa_nil)) (se_globI' (by rfl) T.c_MOST_LABEL)))))) (ss_one (s_ret se_bl)) ss_nil)
    (ss_cons (s_for c.po c.hc (pi_seqS (se_var 0)) io_seqS (pg_name (i := 1) c.nd rfl (by first | exact Or.inl rfl | exact Or.inr rfl)) tg_name (ss_one (s_if (st_nin c.hu (se_var 1) (se_globS' (by rfl) T.c_LETTERS)) (ss_one (s_ret se_bl)) ss_nil)))
    (ss_one (s_ret (se_and (se_ne c.hu (se_ix (se_var 0) se_int) se_str) (se_one (se_ne c.hu (se_ix (se_var 0) (se_neg se_int)) se_str)))))))
theorem sc_is_name : FnScope ["value", "label"] ["value"] (defScope s_is_name) := ⟨rfl, rfl, rfl, by decide +kernel, rfl, by decide +kernel, by decide +kernel⟩
theorem d_is_name {f : Addr} {fd : FuncData} (F : Fun K "is_name" "is_name" s_is_name f fd) (T : Tx K mg) (Z : Errs P w K mg base G) (O_is_label : Ok P w K mg base G 1 "is_label" ["value"] m_is_label) : FnOk P w K mg base (L2.CX P w) 2 f fd ["value"] (spM K G 1 m_is_name) :=
  fn_okT (N := ["value", "label"]) (ps := ["value"]) (k := 1) (n := 2) (np := 1) (body := b_is_name) rfl rfl F sc_is_name fun cdv A outer s H E c => by
    exact (ss_cons (s_if (st_w (sw_or (st_not (st_truth (se_isi .tuple (se_var 0) (se_ty (by rfl) T.z_tuple bt_tuple) (by rfl) T.z_isinstance))) (sw_or1 (st_gtX c.hu (se_callB call_lenAll im_len (by rfl) T.z_len bt_len (sa_cons (se_var 0) sa_nil)) (se_globI' (by rfl) T.c_MOST_LABELS))))) (ss_one (s_ret se_bl)) ss_nil)
    (ss_cons (s_for c.po c.hc (pi_seqS (se_var 0)) io_seqS (pg_name (i := 1) c.nd rfl (by first | exact Or.inl rfl | exact Or.inr rfl)) tg_name (ss_one (s_if (st_not (st_truth (se_call c O_is_label (by decide) (by rfl) (sa_cons (se_var 1) sa_nil)))) (ss_one (s_ret se_bl)) ss_nil)))
    (ss_one (s_ret se_bl))))
theorem sc_lies_under : FnScope ["owner", "top"] ["owner", "top"] (defScope s_lies_under) := ⟨rfl, rfl, rfl, by decide +kernel, rfl, by decide +kernel, by decide +kernel⟩
theorem d_lies_under {f : Addr} {fd : FuncData} (F : Fun K "lies_under" "lies_under" s_lies_under f fd) (T : Tx K mg) (Z : Errs P w K mg base G)  : FnOk P w K mg base (L2.CX P w) 1 f fd ["owner", "top"] (spM K G 2 m_lies_under) :=
  fn_okT (N := ["owner", "top"]) (ps := ["owner", "top"]) (k := 0) (n := 2) (np := 2) (body := b_lies_under) rfl rfl F sc_lies_under fun cdv A outer s H E c => by
    exact (ss_one (s_ret (se_and (se_geX c.hu (se_callB call_lenAll im_len (by rfl) T.z_len bt_len (sa_cons (se_var 0) sa_nil)) (se_callB call_lenAll im_len (by rfl) T.z_len bt_len (sa_cons (se_var 1) sa_nil))) (se_one (se_eq c.hu (se_slF (se_var 0) (so_some (se_sub (se_callB call_lenAll im_len (by rfl) T.z_len bt_len (sa_cons (se_var 0) sa_nil)) (se_callB call_lenAll im_len (by rfl) T.z_len bt_len (sa_cons (se_var 1) sa_nil)))) so_none) (se_var 1))))))
theorem sc_is_integer : FnScope ["value"] ["value"] (defScope s_is_integer) := ⟨rfl, rfl, rfl, by decide +kernel, rfl, by decide +kernel, by decide +kernel⟩
theorem d_is_integer {f : Addr} {fd : FuncData} (F : Fun K "is_integer" "is_integer" s_is_integer f fd) (T : Tx K mg) (Z : Errs P w K mg base G)  : FnOk P w K mg base (L2.CX P w) 1 f fd ["value"] (spM K G 1 m_is_integer) :=
  fn_okT (N := ["value"]) (ps := ["value"]) (k := 0) (n := 1) (np := 1) (body := b_is_integer) rfl rfl F sc_is_integer fun cdv A outer s H E c => by
    exact (ss_one (s_ret (se_and (se_isi .int (se_var 0) (se_ty (by rfl) T.z_int bt_int) (by rfl) T.z_isinstance) (se_one (se_not (se_isi .bool (se_var 0) (se_ty (by rfl) T.z_bool bt_bool) (by rfl) T.z_isinstance))))))
theorem sc_is_between : FnScope ["value", "low", "high"] ["value", "low", "high"] (defScope s_is_between) := ⟨rfl, rfl, rfl, by decide +kernel, rfl, by decide +kernel, by decide +kernel⟩
theorem d_is_between {f : Addr} {fd : FuncData} (F : Fun K "is_between" "is_between" s_is_between f fd) (T : Tx K mg) (Z : Errs P w K mg base G) (O_is_integer : Ok P w K mg base G 1 "is_integer" ["value"] m_is_integer) : FnOk P w K mg base (L2.CX P w) 2 f fd ["value", "low", "high"] (spM K G 3 m_is_between) :=
  fn_okT (N := ["value", "low", "high"]) (ps := ["value", "low", "high"]) (k := 1) (n := 3) (np := 3) (body := b_is_between) rfl rfl F sc_is_between fun cdv A outer s H E c => by
    exact (ss_one (s_ret (se_and (se_call c O_is_integer (by decide) (by rfl) (sa_cons (se_var 0) sa_nil)) (se_and (se_leX c.hu (se_var 1) (se_var 0)) (se_one (se_leX c.hu (se_var 0) (se_var 2)))))))
theorem sc_is_letter : FnScope ["value", "moment", "ident", "address", "origin", "name", "kind"] ["value"] (defScope s_is_letter) := ⟨rfl, rfl, rfl, by decide +kernel, rfl, by decide +kernel, by decide +kernel⟩
theorem d_is_letter {f : Addr} {fd : FuncData} (F : Fun K "is_letter" "is_letter" s_is_letter f fd) (T : Tx K mg) (Z : Errs P w K mg base G) (O_is_name : Ok P w K mg base G 2 "is_name" ["value"] m_is_name) (O_lies_under : Ok P w K mg base G 1 "lies_under" ["owner", "top"] m_lies_under) (O_is_between : Ok P w K mg base G 2 "is_between" ["value", "low", "high"] m_is_between) : FnOk P w K mg base (L2.CX P w) 3 f fd ["value"] (spM K G 1 m_is_letter) :=
  fn_okT (N := ["value", "moment", "ident", "address", "origin", "name", "kind"]) (ps := ["value"]) (k := 2) (n := 7) (np := 1) (body := b_is_letter) rfl rfl F sc_is_letter fun cdv A outer s H E c => by
    exact (ss_cons (s_if (st_w (sw_or (st_not (st_truth (se_isi .tuple (se_var 0) (se_ty (by rfl) T.z_tuple bt_tuple) (by rfl) T.z_isinstance))) (sw_or1 (st_ne c.hu (se_callB call_lenAll im_len (by rfl) T.z_len bt_len (sa_cons (se_var 0) sa_nil)) se_int)))) (ss_one (s_ret se_bl)) ss_nil)
    (ss_cons (s_unp (se_var 0) (pgn_tup c.hc (pgn_cons (i := 1) c.nd (pgn_cons (i := 2) c.nd (pgn_cons (i := 3) c.nd (pgn_cons (i := 4) c.nd (pgn_cons (i := 5) c.nd (pgn_cons (i := 6) c.nd pgn_nil))))))) (tg_tup rfl))
    (ss_cons (s_if (st_w (sw_or (st_not (st_truth (se_call c O_is_between (by decide) (by rfl) (sa_cons (se_var 1) (sa_cons se_int (sa_cons (se_globI' (by rfl) T.c_MOST_MOMENT) sa_nil)))))) (sw_or1 (st_not (st_truth (se_call c O_is_between (by decide) (by rfl) (sa_cons (se_var 2) (sa_cons se_int (sa_cons se_int sa_nil))))))))) (ss_one (s_ret se_bl)) ss_nil)
    (ss_cons (s_if (st_w (sw_or (st_not (st_truth (se_call c O_is_between (by decide) (by rfl) (sa_cons (se_var 3) (sa_cons se_int (sa_cons (se_globI' (by rfl) T.c_MOST_ADDRESS) sa_nil)))))) (sw_or (st_not (st_truth (se_call c O_is_name (by decide) (by rfl) (sa_cons (se_var 4) sa_nil)))) (sw_or1 (st_not (st_truth (se_call c O_is_name (by decide) (by rfl) (sa_cons (se_var 5) sa_nil)))))))) (ss_one (s_ret se_bl)) ss_nil)
    (ss_one (s_ret (se_and (se_call c O_lies_under (by decide) (by rfl) (sa_cons (se_var 5) (sa_cons (se_var 4) sa_nil))) (se_one (se_in c.hu (se_var 6) (se_globT rfl T.c_KINDS))))))))))
theorem sc_letter_order : FnScope ["letter"] ["letter"] (defScope s_letter_order) := ⟨rfl, rfl, rfl, by decide +kernel, rfl, by decide +kernel, by decide +kernel⟩
theorem d_letter_order {f : Addr} {fd : FuncData} (F : Fun K "letter_order" "letter_order" s_letter_order f fd) (T : Tx K mg) (Z : Errs P w K mg base G)  : FnOk P w K mg base (L2.CX P w) 1 f fd ["letter"] (spM K G 1 m_letter_order) :=
  fn_okT (N := ["letter"]) (ps := ["letter"]) (k := 0) (n := 1) (np := 1) (body := b_letter_order) rfl rfl F sc_letter_order fun cdv A outer s H E c => by
    exact (ss_one (s_ret (se_tup (sa_cons (se_ix (se_var 0) se_int) (sa_cons (se_ix (se_var 0) se_int) (sa_cons (se_ix (se_var 0) se_int) (sa_cons (se_revX (se_ix (se_var 0) se_int)) (sa_cons (se_revX (se_ix (se_var 0) se_int)) (sa_cons (se_ix (se_var 0) se_int) sa_nil)))))))))
theorem sc_are_letters : FnScope ["value", "k"] ["value"] (defScope s_are_letters) := ⟨rfl, rfl, rfl, by decide +kernel, rfl, by decide +kernel, by decide +kernel⟩
theorem d_are_letters {f : Addr} {fd : FuncData} (F : Fun K "are_letters" "are_letters" s_are_letters f fd) (T : Tx K mg) (Z : Errs P w K mg base G) (O_is_letter : Ok P w K mg base G 3 "is_letter" ["value"] m_is_letter) (O_letter_order : Ok P w K mg base G 1 "letter_order" ["letter"] m_letter_order) : FnOk P w K mg base (L2.CX P w) 4 f fd ["value"] (spM K G 1 m_are_letters) :=
  fn_okT (N := ["value", "k"]) (ps := ["value"]) (k := 3) (n := 2) (np := 1) (body := b_are_letters) rfl rfl F sc_are_letters fun cdv A outer s H E c => by
    exact (ss_cons (s_if (st_not (st_truth (se_isi .tuple (se_var 0) (se_ty (by rfl) T.z_tuple bt_tuple) (by rfl) T.z_isinstance))) (ss_one (s_ret se_bl)) ss_nil)
    (ss_cons (s_for c.po c.hc (pi_range1 (by rfl) T.z_range (sa_cons (se_callB call_lenAll im_len (by rfl) T.z_len bt_len (sa_cons (se_var 0) sa_nil)) sa_nil)) io_rng1 (pg_name (i := 1) c.nd rfl (by first | exact Or.inl rfl | exact Or.inr rfl)) tg_name (ss_cons (s_if (st_not (st_truth (se_call c O_is_letter (by decide) (by rfl) (sa_cons (se_ix (se_var 0) (se_var 1)) sa_nil)))) (ss_one (s_ret se_bl)) ss_nil)
    (ss_one (s_if (st_w (sw_and (st_gtX c.hu (se_var 1) se_int) (sw_and1 (st_ltX c.hu (se_call c O_letter_order (by decide) (by rfl) (sa_cons (se_ix (se_var 0) (se_var 1)) sa_nil)) (se_call c O_letter_order (by decide) (by rfl) (sa_cons (se_ix (se_var 0) (se_sub (se_var 1) se_int)) sa_nil)))))) (ss_one (s_ret se_bl)) ss_nil))))
    (ss_one (s_ret se_bl))))
theorem sc_check_wire : FnScope ["rules"] ["rules"] (defScope s_check_wire) := ⟨rfl, rfl, rfl, by decide +kernel, rfl, by decide +kernel, by decide +kernel⟩
theorem d_check_wire {f : Addr} {fd : FuncData} (F : Fun K "check_wire" "check_wire" s_check_wire f fd) (T : Tx K mg) (Z : Errs P w K mg base G) (O_is_between : Ok P w K mg base G 2 "is_between" ["value", "low", "high"] m_is_between) : FnOk P w K mg base (L2.CX P w) 3 f fd ["rules"] (spM K G 1 m_check_wire) :=
  fn_okT (N := ["rules"]) (ps := ["rules"]) (k := 2) (n := 1) (np := 1) (body := b_check_wire) rfl rfl F sc_check_wire fun cdv A outer s H E c => by
    exact (ss_cons (s_if (st_w (sw_or (st_not (st_truth (se_isi .tuple (se_var 0) (se_ty (by rfl) T.z_tuple bt_tuple) (by rfl) T.z_isinstance))) (sw_or1 (st_ne c.hu (se_callB call_lenAll im_len (by rfl) T.z_len bt_len (sa_cons (se_var 0) sa_nil)) se_int)))) (ss_one (s_raise (c := 0) c Z.E_BadRules (by decide) (by rfl) (sa_cons (se_var 0) (sa_cons se_str sa_nil)) (by rw [Z.N_BadRules]; rfl))) ss_nil)
    (ss_cons (s_if (st_not (st_truth (se_call c O_is_between (by decide) (by rfl) (sa_cons (se_ix (se_var 0) se_int) (sa_cons se_int (sa_cons (se_globI' (by rfl) T.c_MOST_DELAY) sa_nil)))))) (ss_one (s_raise (c := 0) c Z.E_BadRules (by decide) (by rfl) (sa_cons (se_var 0) (sa_cons se_str sa_nil)) (by rw [Z.N_BadRules]; rfl))) ss_nil)
    (ss_one (s_if (st_not (st_truth (se_call c O_is_between (by decide) (by rfl) (sa_cons (se_ix (se_var 0) se_int) (sa_cons se_int (sa_cons (se_globI' (by rfl) T.c_MOST_DOUBLES) sa_nil)))))) (ss_one (s_raise (c := 0) c Z.E_BadRules (by decide) (by rfl) (sa_cons (se_var 0) (sa_cons se_str sa_nil)) (by rw [Z.N_BadRules]; rfl))) ss_nil))))
theorem sc_check_row : FnScope ["letters", "what"] ["letters", "what"] (defScope s_check_row) := ⟨rfl, rfl, rfl, by decide +kernel, rfl, by decide +kernel, by decide +kernel⟩
theorem d_check_row {f : Addr} {fd : FuncData} (F : Fun K "check_row" "check_row" s_check_row f fd) (T : Tx K mg) (Z : Errs P w K mg base G) (O_are_letters : Ok P w K mg base G 4 "are_letters" ["value"] m_are_letters) : FnOk P w K mg base (L2.CX P w) 5 f fd ["letters", "what"] (spM K G 2 m_check_row) :=
  fn_okT (N := ["letters", "what"]) (ps := ["letters", "what"]) (k := 4) (n := 2) (np := 2) (body := b_check_row) rfl rfl F sc_check_row fun cdv A outer s H E c => by
    exact (ss_cons (s_if (st_w (sw_and (st_truth (se_isi .tuple (se_var 0) (se_ty (by rfl) T.z_tuple bt_tuple) (by rfl) T.z_isinstance)) (sw_and1 (st_gtX c.hu (se_callB call_lenAll im_len (by rfl) T.z_len bt_len (sa_cons (se_var 0) sa_nil)) (se_globI' (by rfl) T.c_MOST_LETTERS))))) (ss_one (s_raise (c := 1) c Z.E_TooMany (by decide) (by rfl) (sa_cons (se_var 1) (sa_cons (se_callB call_lenAll im_len (by rfl) T.z_len bt_len (sa_cons (se_var 0) sa_nil)) sa_nil)) (by rw [Z.N_TooMany]; rfl))) ss_nil)
    (ss_one (s_if (st_not (st_truth (se_call c O_are_letters (by decide) (by rfl) (sa_cons (se_var 0) sa_nil)))) (ss_one (s_raise (c := 0) c Z.E_BadRules (by decide) (by rfl) (sa_cons (se_var 0) (sa_cons (se_var 1) sa_nil)) (by rw [Z.N_BadRules]; rfl))) ss_nil)))
theorem sc_check_letters : FnScope ["rules", "questions", "replies"] ["rules", "questions", "replies"] (defScope s_check_letters) := ⟨rfl, rfl, rfl, by decide +kernel, rfl, by decide +kernel, by decide +kernel⟩
theorem d_check_letters {f : Addr} {fd : FuncData} (F : Fun K "check_letters" "check_letters" s_check_letters f fd) (T : Tx K mg) (Z : Errs P w K mg base G) (O_check_wire : Ok P w K mg base G 3 "check_wire" ["rules"] m_check_wire) (O_check_row : Ok P w K mg base G 5 "check_row" ["letters", "what"] m_check_row) : FnOk P w K mg base (L2.CX P w) 6 f fd ["rules", "questions", "replies"] (spM K G 3 m_check_letters) :=
  fn_okT (N := ["rules", "questions", "replies"]) (ps := ["rules", "questions", "replies"]) (k := 5) (n := 3) (np := 3) (body := b_check_letters) rfl rfl F sc_check_letters fun cdv A outer s H E c => by
    exact (ss_cons (s_expr (se_call c O_check_wire (by decide) (by rfl) (sa_cons (se_var 0) sa_nil)))
    (ss_cons (s_expr (se_call c O_check_row (by decide) (by rfl) (sa_cons (se_var 1) (sa_cons se_str sa_nil))))
    (ss_one (s_expr (se_call c O_check_row (by decide) (by rfl) (sa_cons (se_var 2) (sa_cons se_str sa_nil)))))))
theorem sc_is_candidate : FnScope ["rules", "question", "reply"] ["rules", "question", "reply"] (defScope s_is_candidate) := ⟨rfl, rfl, rfl, by decide +kernel, rfl, by decide +kernel, by decide +kernel⟩
theorem d_is_candidate {f : Addr} {fd : FuncData} (F : Fun K "is_candidate" "is_candidate" s_is_candidate f fd) (T : Tx K mg) (Z : Errs P w K mg base G) (O_is_between : Ok P w K mg base G 2 "is_between" ["value", "low", "high"] m_is_between) : FnOk P w K mg base (L2.CX P w) 3 f fd ["rules", "question", "reply"] (spM K G 3 m_is_candidate) :=
  fn_okT (N := ["rules", "question", "reply"]) (ps := ["rules", "question", "reply"]) (k := 2) (n := 3) (np := 3) (body := b_is_candidate) rfl rfl F sc_is_candidate fun cdv A outer s H E c => by
    exact (ss_one (s_ret (se_and (se_eq c.hu (se_slF (se_var 1) (so_some se_int) so_none) (se_slF (se_var 2) (so_some se_int) so_none)) (se_one (se_call c O_is_between (by decide) (by rfl) (sa_cons (se_sub (se_ix (se_var 2) se_int) (se_ix (se_var 1) se_int)) (sa_cons se_int (sa_cons (se_mulA se_int (se_ix (se_var 0) se_int)) sa_nil))))))))
theorem sc_candidates_of : FnScope ["rules", "questions", "replies", "rows", "reply", "k"] ["rules", "questions", "replies"] (defScope s_candidates_of) := ⟨rfl, rfl, rfl, by decide +kernel, rfl, by decide +kernel, by decide +kernel⟩
theorem d_candidates_of {f : Addr} {fd : FuncData} (F : Fun K "candidates_of" "candidates_of" s_candidates_of f fd) (T : Tx K mg) (Z : Errs P w K mg base G) (O_check_letters : Ok P w K mg base G 6 "check_letters" ["rules", "questions", "replies"] m_check_letters) (O_is_candidate : Ok P w K mg base G 3 "is_candidate" ["rules", "question", "reply"] m_is_candidate) : FnOk P w K mg base (L2.CX P w) 7 f fd ["rules", "questions", "replies"] (spM K G 3 m_candidates_of) :=
  fn_okT (N := ["rules", "questions", "replies", "rows", "reply", "k"]) (ps := ["rules", "questions", "replies"]) (k := 6) (n := 6) (np := 3) (body := b_candidates_of) rfl rfl F sc_candidates_of fun cdv A outer s H E c => by
    exact (ss_cons (s_expr (se_call c O_check_letters (by decide) (by rfl) (sa_cons (se_var 0) (sa_cons (se_var 1) (sa_cons (se_var 2) sa_nil)))))
    (ss_cons (s_set 3 c.nd (se_lst sa_nil))
    (ss_cons (s_for c.po c.hc (pi_seqS (se_var 2)) io_seqS (pg_name (i := 4) c.nd rfl (by first | exact Or.inl rfl | exact Or.inr rfl)) tg_name (ss_one (s_expr (se_append (se_var 3) (sa_cons (se_callTy call_tuple_of im_tuple (by rfl) T.z_tuple bt_tuple (sa_cons (se_fz (se_lc (own := [("k", 5)]) (s := (gtName 5)) c.hc c.nd (pi_range1 (by rfl) T.z_range (sa_cons (se_callB call_lenAll im_len (by rfl) T.z_len bt_len (sa_cons (se_var 1) sa_nil)) sa_nil)) io_rng1 (blkOk_by (N := ["rules", "questions", "replies", "rows", "reply", "k"]) (sc := defScope s_candidates_of) (by decide +kernel)) (fun _ _ _ _ _ => (pg_name (i := 5) c.nd rfl (by first | exact Or.inl rfl | exact Or.inr rfl))) (tgw_name (by decide)) (fun _ _ _ _ _ => inBlkT c fun c => (st_truth (se_call c O_is_candidate (by decide) (by rfl) (sa_cons (se_var 0) (sa_cons (se_ix (se_var 1) (se_var 5)) (sa_cons (se_var 4) sa_nil)))))) (fun _ _ _ z => z) (fun _ _ _ _ _ => inBlkE c fun c => (se_var 5)))) sa_nil)) sa_nil)))))
    (ss_one (s_ret (se_callTy call_tuple_of im_tuple (by rfl) T.z_tuple bt_tuple (sa_cons (se_var 3) sa_nil)))))))
theorem sc_Matcher___init__ : FnScope ["self", "candidates", "doubles", "_"] ["self", "candidates", "doubles"] (defScope s_Matcher___init__) := ⟨rfl, rfl, rfl, by decide +kernel, rfl, by decide +kernel, by decide +kernel⟩
theorem d_Matcher___init__ {f : Addr} {fd : FuncData} (F : Fun K "__init__" "Matcher.__init__" s_Matcher___init__ f fd) (T : Tx K mg) (Z : Errs P w K mg base G)  : FnOk P w K mg base (L2.CX P w) 1 f fd ["self", "candidates", "doubles"] (spM K G 3 m_Matcher___init__) :=
  fn_okT (N := ["self", "candidates", "doubles", "_"]) (ps := ["self", "candidates", "doubles"]) (k := 0) (n := 4) (np := 3) (body := b_Matcher___init__) rfl rfl F sc_Matcher___init__ fun cdv A outer s H E c => by
    exact (ss_cons (s_fld Z.T_Matcher (by rw [Z.N_Matcher]; rfl) (se_var 0) (se_var 1))
    (ss_cons (s_fld Z.T_Matcher (by rw [Z.N_Matcher]; rfl) (se_var 0) (se_var 2))
    (ss_cons (s_fld Z.T_Matcher (by rw [Z.N_Matcher]; rfl) (se_var 0) (se_lc (own := [("_", 3)]) (s := (gtName 3)) c.hc c.nd (pi_seqS (se_var 1)) io_seqS (blkOk_by (N := ["self", "candidates", "doubles", "_"]) (sc := defScope s_Matcher___init__) (by decide +kernel)) (fun _ _ _ _ _ => (pg_name (i := 3) c.nd rfl (by first | exact Or.inl rfl | exact Or.inr rfl))) (tgw_name (by decide)) (fun _ _ _ _ _ => pts_nil) yes_imp (fun _ _ _ _ _ => inBlkE c fun c => se_non)))
    (ss_one (s_fld Z.T_Matcher (by rw [Z.N_Matcher]; rfl) (se_var 0) se_dK)))))
theorem sc_Matcher_replies_of : FnScope ["self", "question", "k"] ["self", "question"] (defScope s_Matcher_replies_of) := ⟨rfl, rfl, rfl, by decide +kernel, rfl, by decide +kernel, by decide +kernel⟩
theorem d_Matcher_replies_of {f : Addr} {fd : FuncData} (F : Fun K "replies_of" "Matcher.replies_of" s_Matcher_replies_of f fd) (T : Tx K mg) (Z : Errs P w K mg base G)  : FnOk P w K mg base (L2.CX P w) 1 f fd ["self", "question"] (spM K G 2 m_Matcher_replies_of) :=
  fn_okT (N := ["self", "question", "k"]) (ps := ["self", "question"]) (k := 0) (n := 3) (np := 2) (body := b_Matcher_replies_of) rfl rfl F sc_Matcher_replies_of fun cdv A outer s H E c => by
    exact (ss_one (s_ret (se_fz (se_lc (own := [("k", 2)]) (s := (gtName 2)) c.hc c.nd (pi_range1 (by rfl) T.z_range (sa_cons (se_callB call_lenAll im_len (by rfl) T.z_len bt_len (sa_cons (se_fld Z.T_Matcher (by rw [Z.N_Matcher]; rfl) (se_var 0)) sa_nil)) sa_nil)) io_rng1 (blkOk_by (N := ["self", "question", "k"]) (sc := defScope s_Matcher_replies_of) (by decide +kernel)) (fun _ _ _ _ _ => (pg_name (i := 2) c.nd rfl (by first | exact Or.inl rfl | exact Or.inr rfl))) (tgw_name (by decide)) (fun _ _ _ _ _ => inBlkT c fun c => (st_eq c.hu (se_ix (se_fld Z.T_Matcher (by rw [Z.N_Matcher]; rfl) (se_var 0)) (se_var 2)) (se_var 1))) (fun _ _ _ z => z) (fun _ _ _ _ _ => inBlkE c fun c => (se_var 2))))))
theorem sc_Matcher_turn_over : FnScope ["self", "question", "reply", "last", "freed"] ["self", "question", "reply"] (defScope s_Matcher_turn_over) := ⟨rfl, rfl, rfl, by decide +kernel, rfl, by decide +kernel, by decide +kernel⟩
theorem d_Matcher_turn_over {f : Addr} {fd : FuncData} (F : Fun K "turn_over" "Matcher.turn_over" s_Matcher_turn_over f fd) (T : Tx K mg) (Z : Errs P w K mg base G)  : FnOk P w K mg base (L2.CX P w) 1 f fd ["self", "question", "reply"] (spM K G 3 m_Matcher_turn_over) :=
  fn_okT (N := ["self", "question", "reply", "last", "freed"]) (ps := ["self", "question", "reply"]) (k := 0) (n := 5) (np := 3) (body := b_Matcher_turn_over) rfl rfl F sc_Matcher_turn_over fun cdv A outer s H E c => by
    exact (ss_one (s_while 100000 c.po (st_notN (se_var 1)) (ss_cons (s_set 3 c.nd (se_getD c.hu1 (se_fld Z.T_Matcher (by rw [Z.N_Matcher]; rfl) (se_var 0)) (se_var 1)))
    (ss_cons (s_set 4 c.nd (se_ix (se_fld Z.T_Matcher (by rw [Z.N_Matcher]; rfl) (se_var 0)) (se_var 3)))
    (ss_cons (s_setIx c.hu1 (se_fld Z.T_Matcher (by rw [Z.N_Matcher]; rfl) (se_var 0)) (se_var 3) (se_var 1))
    (ss_one (s_set 1 c.nd (se_if (st_eq c.hu (se_var 3) (se_var 2)) se_non (se_var 4)))))))))
theorem sc_Matcher_grow : FnScope ["self", "reply", "row", "at", "question", "holders", "holder"] ["self", "reply"] (defScope s_Matcher_grow) := ⟨rfl, rfl, rfl, by decide +kernel, rfl, by decide +kernel, by decide +kernel⟩
theorem d_Matcher_grow {f : Addr} {fd : FuncData} (F : Fun K "grow" "Matcher.grow" s_Matcher_grow f fd) (T : Tx K mg) (Z : Errs P w K mg base G) (O_Matcher_replies_of : OkM P w K mg base G 1 2 "replies_of" ["self", "question"] m_Matcher_replies_of) (O_Matcher_turn_over : OkM P w K mg base G 1 2 "turn_over" ["self", "question", "reply"] m_Matcher_turn_over) : FnOk P w K mg base (L2.CX P w) 2 f fd ["self", "reply"] (spM K G 2 m_Matcher_grow) :=
  fn_okT (N := ["self", "reply", "row", "at", "question", "holders", "holder"]) (ps := ["self", "reply"]) (k := 1) (n := 7) (np := 2) (body := b_Matcher_grow) rfl rfl F sc_Matcher_grow fun cdv A outer s H E c => by
    exact (ss_cons (s_fld Z.T_Matcher (by rw [Z.N_Matcher]; rfl) (se_var 0) se_dK)
    (ss_cons (s_set 2 c.nd (se_lst (sa_cons (se_var 1) sa_nil)))
    (ss_cons (s_set 3 c.nd se_int)
    (ss_cons (s_while 100000 c.po (st_ltX c.hu (se_var 3) (se_callB call_lenAll im_len (by rfl) T.z_len bt_len (sa_cons (se_var 2) sa_nil))) (ss_cons (s_for c.po c.hc (pi_seqS (se_ix (se_fld Z.T_Matcher (by rw [Z.N_Matcher]; rfl) (se_var 0)) (se_ix (se_var 2) (se_var 3)))) io_seqS (pg_name (i := 4) c.nd rfl (by first | exact Or.inl rfl | exact Or.inr rfl)) tg_name (ss_one (s_if (st_ninD c.hu1 (se_var 4) (se_fld Z.T_Matcher (by rw [Z.N_Matcher]; rfl) (se_var 0))) (ss_cons (s_setIx c.hu1 (se_fld Z.T_Matcher (by rw [Z.N_Matcher]; rfl) (se_var 0)) (se_var 4) (se_ix (se_var 2) (se_var 3)))
    (ss_cons (s_set 5 c.nd (se_meth c Z.T_Matcher O_Matcher_replies_of (by decide) (se_var 0) (sa_cons (se_var 4) sa_nil)))
    (ss_cons (s_if (st_ltX c.hu (se_callB call_lenAll im_len (by rfl) T.z_len bt_len (sa_cons (se_var 5) sa_nil)) (se_fld Z.T_Matcher (by rw [Z.N_Matcher]; rfl) (se_var 0))) (ss_cons (s_expr (se_meth c Z.T_Matcher O_Matcher_turn_over (by decide) (se_var 0) (sa_cons (se_var 4) (sa_cons (se_var 1) sa_nil))))
    (ss_one (s_ret (se_fz (se_var 2))))) ss_nil)
    (ss_one (s_tr (s_expr (se_extend (se_var 2) (sa_cons (se_lc (own := [("holder", 6)]) (s := (gtName 6)) c.hc c.nd (pi_seqS (se_var 5)) io_seqS (blkOk_by (N := ["self", "reply", "row", "at", "question", "holders", "holder"]) (sc := defScope s_Matcher_grow) (by decide +kernel)) (fun _ _ _ _ _ => (pg_name (i := 6) c.nd rfl (by first | exact Or.inl rfl | exact Or.inr rfl))) (tgw_name (by decide)) (fun _ _ _ _ _ => inBlkT c fun c => (st_nin c.hu (se_var 6) (se_var 2))) (fun _ _ _ z => z) (fun _ _ _ _ _ => inBlkE c fun c => (se_var 6))) sa_nil)))))))) ss_nil)))
    (ss_one (s_aug 3 c.nd iop_add im_iaddI se_int))))
    (ss_one (s_ret (se_fz (se_var 2))))))))
theorem sc_match : FnScope ["candidates", "doubles", "matcher", "reply"] ["candidates", "doubles"] (defScope s_match) := ⟨rfl, rfl, rfl, by decide +kernel, rfl, by decide +kernel, by decide +kernel⟩
theorem d_match {f : Addr} {fd : FuncData} (F : Fun K "match" "match" s_match f fd) (T : Tx K mg) (Z : Errs P w K mg base G) (O_Matcher___init__ : OkC P w K mg base G 1 2 "Matcher" ["self", "candidates", "doubles"] m_Matcher___init__) (O_Matcher_grow : OkM P w K mg base G 2 2 "grow" ["self", "reply"] m_Matcher_grow) : FnOk P w K mg base (L2.CX P w) 3 f fd ["candidates", "doubles"] (spM K G 2 m_match) :=
  fn_okT (N := ["candidates", "doubles", "matcher", "reply"]) (ps := ["candidates", "doubles"]) (k := 2) (n := 4) (np := 2) (body := b_match) rfl rfl F sc_match fun cdv A outer s H E c => by
    exact (ss_cons (s_set 2 c.nd (se_make c O_Matcher___init__ (by rw [Z.N_Matcher]; rfl) (by decide) (by rfl) (sa_cons (se_var 0) (sa_cons (se_var 1) sa_nil))))
    (ss_cons (s_for c.po c.hc (pi_range1 (by rfl) T.z_range (sa_cons (se_callB call_lenAll im_len (by rfl) T.z_len bt_len (sa_cons (se_var 0) sa_nil)) sa_nil)) io_rng1 (pg_name (i := 3) c.nd rfl (by first | exact Or.inl rfl | exact Or.inr rfl)) tg_name (ss_one (s_expr (se_meth c Z.T_Matcher O_Matcher_grow (by decide) (se_var 2) (sa_cons (se_var 3) sa_nil)))))
    (ss_one (s_ret (se_var 2)))))
theorem sc_attribute : FnScope ["rules", "questions", "replies"] ["rules", "questions", "replies"] (defScope s_attribute) := ⟨rfl, rfl, rfl, by decide +kernel, rfl, by decide +kernel, by decide +kernel⟩
theorem d_attribute {f : Addr} {fd : FuncData} (F : Fun K "attribute" "attribute" s_attribute f fd) (T : Tx K mg) (Z : Errs P w K mg base G) (O_candidates_of : Ok P w K mg base G 7 "candidates_of" ["rules", "questions", "replies"] m_candidates_of) (O_match : Ok P w K mg base G 3 "match" ["candidates", "doubles"] m_match) : FnOk P w K mg base (L2.CX P w) 8 f fd ["rules", "questions", "replies"] (spM K G 3 m_attribute) :=
  fn_okT (N := ["rules", "questions", "replies"]) (ps := ["rules", "questions", "replies"]) (k := 7) (n := 3) (np := 3) (body := b_attribute) rfl rfl F sc_attribute fun cdv A outer s H E c => by
    exact (ss_one (s_ret (se_callTy call_tuple_of im_tuple (by rfl) T.z_tuple bt_tuple (sa_cons (se_fld Z.T_Matcher (by rw [Z.N_Matcher]; rfl) (se_call c O_match (by decide) (by rfl) (sa_cons (se_call c O_candidates_of (by decide) (by rfl) (sa_cons (se_var 0) (sa_cons (se_var 1) (sa_cons (se_var 2) sa_nil)))) (sa_cons (se_ix (se_var 0) se_int) sa_nil)))) sa_nil))))
theorem sc_least_forged : FnScope ["rules", "questions", "replies", "question"] ["rules", "questions", "replies"] (defScope s_least_forged) := ⟨rfl, rfl, rfl, by decide +kernel, rfl, by decide +kernel, by decide +kernel⟩
theorem d_least_forged {f : Addr} {fd : FuncData} (F : Fun K "least_forged" "least_forged" s_least_forged f fd) (T : Tx K mg) (Z : Errs P w K mg base G) (O_attribute : Ok P w K mg base G 8 "attribute" ["rules", "questions", "replies"] m_attribute) : FnOk P w K mg base (L2.CX P w) 9 f fd ["rules", "questions", "replies"] (spM K G 3 m_least_forged) :=
  fn_okT (N := ["rules", "questions", "replies", "question"]) (ps := ["rules", "questions", "replies"]) (k := 8) (n := 4) (np := 3) (body := b_least_forged) rfl rfl F sc_least_forged fun cdv A outer s H E c => by
    exact (ss_one (s_ret (se_callB call_lenAll im_len (by rfl) T.z_len bt_len (sa_cons (se_fz (se_lc (own := [("question", 3)]) (s := (gtName 3)) c.hc c.nd (pi_seqS (se_call c O_attribute (by decide) (by rfl) (sa_cons (se_var 0) (sa_cons (se_var 1) (sa_cons (se_var 2) sa_nil))))) io_seqS (blkOk_by (N := ["rules", "questions", "replies", "question"]) (sc := defScope s_least_forged) (by decide +kernel)) (fun _ _ _ _ _ => (pg_name (i := 3) c.nd rfl (by first | exact Or.inl rfl | exact Or.inr rfl))) (tgw_name (by decide)) (fun _ _ _ _ _ => inBlkT c fun c => (st_isN (se_var 3))) (fun _ _ _ z => z) (fun _ _ _ _ _ => inBlkE c fun c => (se_var 3)))) sa_nil))))
theorem sc_is_attribution : FnScope ["rules", "questions", "replies", "paper", "candidates", "k", "question"] ["rules", "questions", "replies", "paper"] (defScope s_is_attribution) := ⟨rfl, rfl, rfl, by decide +kernel, rfl, by decide +kernel, by decide +kernel⟩
theorem d_is_attribution {f : Addr} {fd : FuncData} (F : Fun K "is_attribution" "is_attribution" s_is_attribution f fd) (T : Tx K mg) (Z : Errs P w K mg base G) (O_is_between : Ok P w K mg base G 2 "is_between" ["value", "low", "high"] m_is_between) (O_candidates_of : Ok P w K mg base G 7 "candidates_of" ["rules", "questions", "replies"] m_candidates_of) : FnOk P w K mg base (L2.CX P w) 8 f fd ["rules", "questions", "replies", "paper"] (spM K G 4 m_is_attribution) :=
  fn_okT (N := ["rules", "questions", "replies", "paper", "candidates", "k", "question"]) (ps := ["rules", "questions", "replies", "paper"]) (k := 7) (n := 7) (np := 4) (body := b_is_attribution) rfl rfl F sc_is_attribution fun cdv A outer s H E c => by
    exact (ss_cons (s_set 4 c.nd (se_call c O_candidates_of (by decide) (by rfl) (sa_cons (se_var 0) (sa_cons (se_var 1) (sa_cons (se_var 2) sa_nil)))))
    (ss_cons (s_if (st_w (sw_or (st_not (st_truth (se_isi .tuple (se_var 3) (se_ty (by rfl) T.z_tuple bt_tuple) (by rfl) T.z_isinstance))) (sw_or1 (st_ne c.hu (se_callB call_lenAll im_len (by rfl) T.z_len bt_len (sa_cons (se_var 3) sa_nil)) (se_callB call_lenAll im_len (by rfl) T.z_len bt_len (sa_cons (se_var 2) sa_nil)))))) (ss_one (s_ret se_bl)) ss_nil)
    (ss_cons (s_for c.po c.hc (pi_range1 (by rfl) T.z_range (sa_cons (se_callB call_lenAll im_len (by rfl) T.z_len bt_len (sa_cons (se_var 3) sa_nil)) sa_nil)) io_rng1 (pg_name (i := 5) c.nd rfl (by first | exact Or.inl rfl | exact Or.inr rfl)) tg_name (ss_one (s_if (st_notN (se_ix (se_var 3) (se_var 5))) (ss_cons (s_if (st_w (sw_or (st_not (st_truth (se_call c O_is_between (by decide) (by rfl) (sa_cons (se_ix (se_var 3) (se_var 5)) (sa_cons se_int (sa_cons (se_sub (se_callB call_lenAll im_len (by rfl) T.z_len bt_len (sa_cons (se_var 1) sa_nil)) se_int) sa_nil)))))) (sw_or1 (st_nin c.hu (se_ix (se_var 3) (se_var 5)) (se_ix (se_var 4) (se_var 5)))))) (ss_one (s_ret se_bl)) ss_nil)
    (ss_one (s_if (st_gtX c.hu (se_callB call_lenAll im_len (by rfl) T.z_len bt_len (sa_cons (se_fz (se_lc (own := [("question", 6)]) (s := (gtName 6)) c.hc c.nd (pi_seqS (se_slF (se_var 3) so_none (so_some (se_add (se_var 5) se_int)))) io_seqS (blkOk_by (N := ["rules", "questions", "replies", "paper", "candidates", "k", "question"]) (sc := defScope s_is_attribution) (by decide +kernel)) (fun _ _ _ _ _ => (pg_name (i := 6) c.nd rfl (by first | exact Or.inl rfl | exact Or.inr rfl))) (tgw_name (by decide)) (fun _ _ _ _ _ => inBlkT c fun c => (st_eq c.hu (se_var 6) (se_ix (se_var 3) (se_var 5)))) (fun _ _ _ z => z) (fun _ _ _ _ _ => inBlkE c fun c => (se_var 6)))) sa_nil)) (se_ix (se_var 0) se_int)) (ss_one (s_ret se_bl)) ss_nil))) ss_nil)))
    (ss_one (s_ret se_bl)))))
theorem sc_crowd_of : FnScope ["rules", "questions", "replies", "candidates", "matcher", "found", "at", "question", "k", "holder"] ["rules", "questions", "replies"] (defScope s_crowd_of) := ⟨rfl, rfl, rfl, by decide +kernel, rfl, by decide +kernel, by decide +kernel⟩
theorem d_crowd_of {f : Addr} {fd : FuncData} (F : Fun K "crowd_of" "crowd_of" s_crowd_of f fd) (T : Tx K mg) (Z : Errs P w K mg base G) (O_candidates_of : Ok P w K mg base G 7 "candidates_of" ["rules", "questions", "replies"] m_candidates_of) (O_Matcher_replies_of : OkM P w K mg base G 1 2 "replies_of" ["self", "question"] m_Matcher_replies_of) (O_match : Ok P w K mg base G 3 "match" ["candidates", "doubles"] m_match) : FnOk P w K mg base (L2.CX P w) 8 f fd ["rules", "questions", "replies"] (spM K G 3 m_crowd_of) :=
  fn_okT (N := ["rules", "questions", "replies", "candidates", "matcher", "found", "at", "question", "k", "holder"]) (ps := ["rules", "questions", "replies"]) (k := 7) (n := 10) (np := 3) (body := b_crowd_of) rfl rfl F sc_crowd_of fun cdv A outer s H E c => by
    exact (ss_cons (s_set 3 c.nd (se_call c O_candidates_of (by decide) (by rfl) (sa_cons (se_var 0) (sa_cons (se_var 1) (sa_cons (se_var 2) sa_nil)))))
    (ss_cons (s_set 4 c.nd (se_call c O_match (by decide) (by rfl) (sa_cons (se_var 3) (sa_cons (se_ix (se_var 0) se_int) sa_nil))))
    (ss_cons (s_set 5 c.nd (se_lc (own := [("k", 8)]) (s := (gtName 8)) c.hc c.nd (pi_range1 (by rfl) T.z_range (sa_cons (se_callB call_lenAll im_len (by rfl) T.z_len bt_len (sa_cons (se_var 3) sa_nil)) sa_nil)) io_rng1 (blkOk_by (N := ["rules", "questions", "replies", "candidates", "matcher", "found", "at", "question", "k", "holder"]) (sc := defScope s_crowd_of) (by decide +kernel)) (fun _ _ _ _ _ => (pg_name (i := 8) c.nd rfl (by first | exact Or.inl rfl | exact Or.inr rfl))) (tgw_name (by decide)) (fun _ _ _ _ _ => inBlkT c fun c => (st_isN (se_ix (se_fld Z.T_Matcher (by rw [Z.N_Matcher]; rfl) (se_var 4)) (se_var 8)))) (fun _ _ _ z => z) (fun _ _ _ _ _ => inBlkE c fun c => (se_var 8))))
    (ss_cons (s_set 6 c.nd se_int)
    (ss_cons (s_while 100000 c.po (st_ltX c.hu (se_var 6) (se_callB call_lenAll im_len (by rfl) T.z_len bt_len (sa_cons (se_var 5) sa_nil))) (ss_cons (s_for c.po c.hc (pi_seqS (se_ix (se_var 3) (se_ix (se_var 5) (se_var 6)))) io_seqS (pg_name (i := 7) c.nd rfl (by first | exact Or.inl rfl | exact Or.inr rfl)) tg_name (ss_one (s_tr (s_expr (se_extend (se_var 5) (sa_cons (se_lc (own := [("holder", 9)]) (s := (gtName 9)) c.hc c.nd (pi_seqS (se_meth c Z.T_Matcher O_Matcher_replies_of (by decide) (se_var 4) (sa_cons (se_var 7) sa_nil))) io_seqS (blkOk_by (N := ["rules", "questions", "replies", "candidates", "matcher", "found", "at", "question", "k", "holder"]) (sc := defScope s_crowd_of) (by decide +kernel)) (fun _ _ _ _ _ => (pg_name (i := 9) c.nd rfl (by first | exact Or.inl rfl | exact Or.inr rfl))) (tgw_name (by decide)) (fun _ _ _ _ _ => inBlkT c fun c => (st_nin c.hu (se_var 9) (se_var 5))) (fun _ _ _ z => z) (fun _ _ _ _ _ => inBlkE c fun c => (se_var 9))) sa_nil))))))
    (ss_one (s_aug 6 c.nd iop_add im_iaddI se_int))))
    (ss_one (s_ret (se_callTy call_tuple_of im_tuple (by rfl) T.z_tuple bt_tuple (sa_cons (se_callBF cr_sortedI im_sortedF (by rfl) T.z_sorted bt_sorted (sa_cons (se_var 5) sa_nil)) sa_nil)))))))))
theorem sc_standing_of : FnScope ["rules", "questions", "replies", "index"] ["rules", "questions", "replies", "index"] (defScope s_standing_of) := ⟨rfl, rfl, rfl, by decide +kernel, rfl, by decide +kernel, by decide +kernel⟩
theorem d_standing_of {f : Addr} {fd : FuncData} (F : Fun K "standing_of" "standing_of" s_standing_of f fd) (T : Tx K mg) (Z : Errs P w K mg base G) (O_is_between : Ok P w K mg base G 2 "is_between" ["value", "low", "high"] m_is_between) (O_check_letters : Ok P w K mg base G 6 "check_letters" ["rules", "questions", "replies"] m_check_letters) (O_candidates_of : Ok P w K mg base G 7 "candidates_of" ["rules", "questions", "replies"] m_candidates_of) (O_crowd_of : Ok P w K mg base G 8 "crowd_of" ["rules", "questions", "replies"] m_crowd_of) : FnOk P w K mg base (L2.CX P w) 9 f fd ["rules", "questions", "replies", "index"] (spM K G 4 m_standing_of) :=
  fn_okT (N := ["rules", "questions", "replies", "index"]) (ps := ["rules", "questions", "replies", "index"]) (k := 8) (n := 4) (np := 4) (body := b_standing_of) rfl rfl F sc_standing_of fun cdv A outer s H E c => by
    exact (ss_cons (s_expr (se_call c O_check_letters (by decide) (by rfl) (sa_cons (se_var 0) (sa_cons (se_var 1) (sa_cons (se_var 2) sa_nil)))))
    (ss_cons (s_if (st_not (st_truth (se_call c O_is_between (by decide) (by rfl) (sa_cons (se_var 3) (sa_cons se_int (sa_cons (se_sub (se_callB call_lenAll im_len (by rfl) T.z_len bt_len (sa_cons (se_var 2) sa_nil)) se_int) sa_nil)))))) (ss_one (s_raise (c := 0) c Z.E_BadRules (by decide) (by rfl) (sa_cons (se_var 3) (sa_cons se_str sa_nil)) (by rw [Z.N_BadRules]; rfl))) ss_nil)
    (ss_cons (s_if (st_eq c.hu (se_ix (se_call c O_candidates_of (by decide) (by rfl) (sa_cons (se_var 0) (sa_cons (se_var 1) (sa_cons (se_var 2) sa_nil)))) (se_var 3)) (se_tup sa_nil)) (ss_one (s_ret se_str)) ss_nil)
    (ss_cons (s_if (st_in c.hu (se_var 3) (se_call c O_crowd_of (by decide) (by rfl) (sa_cons (se_var 0) (sa_cons (se_var 1) (sa_cons (se_var 2) sa_nil))))) (ss_one (s_ret se_str)) ss_nil)
    (ss_one (s_ret se_str))))))
theorem sc__law_number : FnScope ["script", "k", "most", "cell", "seed", "first", "second"] ["script", "k", "most"] (defScope s__law_number) := ⟨rfl, rfl, rfl, by decide +kernel, rfl, by decide +kernel, by decide +kernel⟩
theorem d__law_number {f : Addr} {fd : FuncData} (F : Fun K "_law_number" "_law_number" s__law_number f fd) (T : Tx K mg) (Z : Errs P w K mg base G)  : FnOk P w K mg base (L2.CX P w) 1 f fd ["script", "k", "most"] (spM K G 3 m__law_number) :=
  fn_okT (N := ["script", "k", "most", "cell", "seed", "first", "second"]) (ps := ["script", "k", "most"]) (k := 0) (n := 7) (np := 3) (body := b__law_number) rfl rfl F sc__law_number fun cdv A outer s H E c => by
    exact (ss_cons (s_set 3 c.nd se_int)
    (ss_cons (s_if (st_gtX c.hu (se_callB call_lenAll im_len (by rfl) T.z_len bt_len (sa_cons (se_var 0) sa_nil)) se_int) (ss_one (s_set 3 c.nd (se_callTy call_int1 im_int (by rfl) T.z_int bt_int (sa_cons (se_ix (se_var 0) (se_mod (se_callTy call_int1 im_int (by rfl) T.z_int bt_int (sa_cons (se_var 1) sa_nil)) (se_callB call_lenAll im_len (by rfl) T.z_len bt_len (sa_cons (se_var 0) sa_nil)))) sa_nil)))) ss_nil)
    (ss_cons (s_if (st_w (sw_and (st_ltX c.hu (se_var 1) (se_callB call_lenAll im_len (by rfl) T.z_len bt_len (sa_cons (se_var 0) sa_nil))) (sw_and1 (st_geX c.hu (se_var 3) (se_pow se_int se_int))))) (ss_one (s_ret (se_mod (se_callTy call_int1 im_int (by rfl) T.z_int bt_int (sa_cons (se_sub (se_var 3) (se_pow se_int se_int)) sa_nil)) (se_var 2)))) ss_nil)
    (ss_cons (s_set 4 c.nd (se_add (se_add (se_mulA (se_mod (se_callTy call_int1 im_int (by rfl) T.z_int bt_int (sa_cons (se_var 3) sa_nil)) se_int) se_int) (se_mulA (se_var 1) se_int)) se_int))
    (ss_cons (s_set 5 c.nd (se_mod (se_callTy call_int1 im_int (by rfl) T.z_int bt_int (sa_cons (se_fdiv (se_mulA (se_var 4) (se_var 4)) se_int) sa_nil)) se_int))
    (ss_cons (s_set 6 c.nd (se_mod (se_callTy call_int1 im_int (by rfl) T.z_int bt_int (sa_cons (se_add (se_fdiv (se_mulA (se_var 4) se_int) se_int) (se_var 5)) sa_nil)) se_int))
    (ss_one (s_ret (se_mod (se_callTy call_int1 im_int (by rfl) T.z_int bt_int (sa_cons (se_add (se_var 5) (se_mulA se_int (se_var 6))) sa_nil)) (se_var 2))))))))))
theorem sc__law_row : FnScope ["script", "k", "sizes", "most", "size", "number", "row"] ["script", "k", "sizes"] (defScope s__law_row) := ⟨rfl, rfl, rfl, by decide +kernel, rfl, by decide +kernel, by decide +kernel⟩
theorem d__law_row {f : Addr} {fd : FuncData} (F : Fun K "_law_row" "_law_row" s__law_row f fd) (T : Tx K mg) (Z : Errs P w K mg base G) (O__law_number : Ok P w K mg base G 1 "_law_number" ["script", "k", "most"] m__law_number) : FnOk P w K mg base (L2.CX P w) 2 f fd ["script", "k", "sizes"] (spM K G 3 m__law_row) :=
  fn_okT (N := ["script", "k", "sizes", "most", "size", "number", "row"]) (ps := ["script", "k", "sizes"]) (k := 1) (n := 7) (np := 3) (body := b__law_row) rfl rfl F sc__law_row fun cdv A outer s H E c => by
    exact (ss_cons (s_set 3 c.nd se_int)
    (ss_cons (s_for c.po c.hc (pi_seqS (se_var 2)) io_seqS (pg_name (i := 4) c.nd rfl (by first | exact Or.inl rfl | exact Or.inr rfl)) tg_name (ss_one (s_set 3 c.nd (se_mulA (se_var 3) (se_var 4)))))
    (ss_cons (s_set 5 c.nd (se_call c O__law_number (by decide) (by rfl) (sa_cons (se_var 0) (sa_cons (se_var 1) (sa_cons (se_var 3) sa_nil)))))
    (ss_cons (s_set 6 c.nd (se_lst sa_nil))
    (ss_cons (s_for c.po c.hc (pi_seqS (se_var 2)) io_seqS (pg_name (i := 4) c.nd rfl (by first | exact Or.inl rfl | exact Or.inr rfl)) tg_name (ss_cons (s_expr (se_append (se_var 6) (sa_cons (se_mod (se_callTy call_int1 im_int (by rfl) T.z_int bt_int (sa_cons (se_var 5) sa_nil)) (se_var 4)) sa_nil)))
    (ss_one (s_set 5 c.nd (se_fdiv (se_callTy call_int1 im_int (by rfl) T.z_int bt_int (sa_cons (se_var 5) sa_nil)) (se_var 4))))))
    (ss_one (s_ret (se_fz (se_var 6)))))))))
theorem sc__law_label : FnScope ["number", "signs", "size", "label", "k", "many"] ["number"] (defScope s__law_label) := ⟨rfl, rfl, rfl, by decide +kernel, rfl, by decide +kernel, by decide +kernel⟩
theorem d__law_label {f : Addr} {fd : FuncData} (F : Fun K "_law_label" "_law_label" s__law_label f fd) (T : Tx K mg) (Z : Errs P w K mg base G)  : FnOk P w K mg base (L2.CX P w) 1 f fd ["number"] (spM K G 1 m__law_label) :=
  fn_okT (N := ["number", "signs", "size", "label", "k", "many"]) (ps := ["number"]) (k := 0) (n := 6) (np := 1) (body := b__law_label) rfl rfl F sc__law_label fun cdv A outer s H E c => by
    exact (ss_cons (s_set 1 c.nd se_str)
    (ss_cons (s_set 2 c.nd (se_add se_int (se_mod (se_callTy call_int1 im_int (by rfl) T.z_int bt_int (sa_cons (se_var 0) sa_nil)) se_int)))
    (ss_cons (s_set 0 c.nd (se_fdiv (se_callTy call_int1 im_int (by rfl) T.z_int bt_int (sa_cons (se_var 0) sa_nil)) se_int))
    (ss_cons (s_set 3 c.nd se_str)
    (ss_cons (s_for c.po c.hc (pi_range1 (by rfl) T.z_range (sa_cons (se_var 2) sa_nil)) io_rng1 (pg_name (i := 4) c.nd rfl (by first | exact Or.inl rfl | exact Or.inr rfl)) tg_name (ss_cons (s_set 5 c.nd se_int)
    (ss_cons (s_if (st_w (sw_or (st_eq c.hu (se_var 4) se_int) (sw_or1 (st_eq c.hu (se_var 4) (se_sub (se_var 2) se_int))))) (ss_one (s_set 5 c.nd se_int)) ss_nil)
    (ss_cons (s_set 3 c.nd (se_add (se_var 3) (se_ix (se_var 1) (se_mod (se_callTy call_int1 im_int (by rfl) T.z_int bt_int (sa_cons (se_var 0) sa_nil)) (se_var 5)))))
    (ss_one (s_set 0 c.nd (se_fdiv (se_callTy call_int1 im_int (by rfl) T.z_int bt_int (sa_cons (se_var 0) sa_nil)) (se_var 5))))))))
    (ss_one (s_ret (se_var 3))))))))
theorem sc__law_key : FnScope ["letter"] ["letter"] (defScope s__law_key) := ⟨rfl, rfl, rfl, by decide +kernel, rfl, by decide +kernel, by decide +kernel⟩
theorem d__law_key {f : Addr} {fd : FuncData} (F : Fun K "_law_key" "_law_key" s__law_key f fd) (T : Tx K mg) (Z : Errs P w K mg base G)  : FnOk P w K mg base (L2.CX P w) 1 f fd ["letter"] (spM K G 1 m__law_key) :=
  fn_okT (N := ["letter"]) (ps := ["letter"]) (k := 0) (n := 1) (np := 1) (body := b__law_key) rfl rfl F sc__law_key fun cdv A outer s H E c => by
    exact (ss_one (s_ret (se_tup (sa_cons (se_ix (se_var 0) se_int) (sa_cons (se_ix (se_var 0) se_int) (sa_cons (se_ix (se_var 0) se_int) (sa_cons (se_revX (se_ix (se_var 0) se_int)) (sa_cons (se_revX (se_ix (se_var 0) se_int)) (sa_cons (se_ix (se_var 0) se_int) sa_nil)))))))))
theorem sc__law_rules : FnScope ["script", "row"] ["script"] (defScope s__law_rules) := ⟨rfl, rfl, rfl, by decide +kernel, rfl, by decide +kernel, by decide +kernel⟩
theorem d__law_rules {f : Addr} {fd : FuncData} (F : Fun K "_law_rules" "_law_rules" s__law_rules f fd) (T : Tx K mg) (Z : Errs P w K mg base G) (O__law_row : Ok P w K mg base G 2 "_law_row" ["script", "k", "sizes"] m__law_row) : FnOk P w K mg base (L2.CX P w) 3 f fd ["script"] (spM K G 1 m__law_rules) :=
  fn_okT (N := ["script", "row"]) (ps := ["script"]) (k := 2) (n := 2) (np := 1) (body := b__law_rules) rfl rfl F sc__law_rules fun cdv A outer s H E c => by
    exact (ss_cons (s_set 1 c.nd (se_call c O__law_row (by decide) (by rfl) (sa_cons (se_var 0) (sa_cons se_int (sa_cons (se_lstF (sa_cons se_int (sa_cons se_int (sa_cons se_int sa_nil)))) sa_nil)))))
    (ss_one (s_ret (se_tup (sa_cons (se_ix (se_lstF (sa_cons (se_ix (se_var 1) se_int) (sa_cons se_int (sa_cons se_int (sa_cons (se_mod (se_callTy call_int1 im_int (by rfl) T.z_int bt_int (sa_cons (se_ix (se_var 1) se_int) sa_nil)) se_int) sa_nil))))) (se_ix (se_var 1) se_int)) (sa_cons (se_add se_int (se_ix (se_var 1) se_int)) sa_nil))))))
theorem sc__law_pools : FnScope ["script", "row", "first", "second", "origins", "kinds", "names", "pools"] ["script"] (defScope s__law_pools) := ⟨rfl, rfl, rfl, by decide +kernel, rfl, by decide +kernel, by decide +kernel⟩
theorem d__law_pools {f : Addr} {fd : FuncData} (F : Fun K "_law_pools" "_law_pools" s__law_pools f fd) (T : Tx K mg) (Z : Errs P w K mg base G) (O__law_number : Ok P w K mg base G 1 "_law_number" ["script", "k", "most"] m__law_number) (O__law_row : Ok P w K mg base G 2 "_law_row" ["script", "k", "sizes"] m__law_row) (O__law_label : Ok P w K mg base G 1 "_law_label" ["number"] m__law_label) : FnOk P w K mg base (L2.CX P w) 3 f fd ["script"] (spM K G 1 m__law_pools) :=
  fn_okT (N := ["script", "row", "first", "second", "origins", "kinds", "names", "pools"]) (ps := ["script"]) (k := 2) (n := 8) (np := 1) (body := b__law_pools) rfl rfl F sc__law_pools fun cdv A outer s H E c => by
    exact (ss_cons (s_set 1 c.nd (se_call c O__law_row (by decide) (by rfl) (sa_cons (se_var 0) (sa_cons se_int (sa_cons (se_lstF (sa_cons se_int (sa_cons se_int (sa_cons se_int (sa_cons se_int (sa_cons se_int (sa_cons se_int (sa_cons se_int (sa_cons se_int sa_nil))))))))) sa_nil)))))
    (ss_cons (s_set 2 c.nd (se_call c O__law_label (by decide) (by rfl) (sa_cons (se_call c O__law_number (by decide) (by rfl) (sa_cons (se_var 0) (sa_cons se_int (sa_cons (se_pow se_int se_int) sa_nil)))) sa_nil)))
    (ss_cons (s_set 3 c.nd (se_call c O__law_label (by decide) (by rfl) (sa_cons (se_call c O__law_number (by decide) (by rfl) (sa_cons (se_var 0) (sa_cons se_int (sa_cons (se_pow se_int se_int) sa_nil)))) sa_nil)))
    (ss_cons (s_set 4 c.nd (se_lstF (sa_cons (se_tup sa_nil) (sa_cons (se_tup (sa_cons (se_var 2) sa_nil)) (sa_cons (se_tup (sa_cons (se_var 3) (sa_cons (se_var 2) sa_nil))) sa_nil)))))
    (ss_cons (s_set 5 c.nd (se_lstF (sa_cons se_str (sa_cons se_str (sa_cons se_str (sa_cons se_str sa_nil))))))
    (ss_cons (s_set 6 c.nd (se_tup (sa_cons (se_tup (sa_cons se_str (sa_cons (se_var 3) (sa_cons (se_var 2) sa_nil)))) (sa_cons (se_tup (sa_cons (se_var 3) (sa_cons (se_var 2) sa_nil))) sa_nil))))
    (ss_cons (s_set 7 c.nd (se_lstF (sa_cons (se_tup (sa_cons (se_ix (se_var 1) se_int) (sa_cons (se_ix (se_var 1) se_int) sa_nil))) (sa_cons (se_tup (sa_cons (se_ix (se_var 1) se_int) (sa_cons (se_ix (se_var 1) se_int) sa_nil))) (sa_cons (se_tup (sa_cons (se_ix (se_var 4) (se_ix (se_var 1) se_int)) (sa_cons (se_ix (se_var 4) (se_ix (se_var 1) se_int)) sa_nil))) sa_nil)))))
    (ss_one (s_ret (se_addF (se_var 7) (se_lstF (sa_cons (se_var 6) (sa_cons (se_tup (sa_cons (se_ix (se_var 5) (se_ix (se_var 1) se_int)) (sa_cons (se_ix (se_var 5) (se_ix (se_var 1) se_int)) sa_nil))) sa_nil)))))))))))))
theorem sc__law_base : FnScope ["script", "delay", "row"] ["script", "delay"] (defScope s__law_base) := ⟨rfl, rfl, rfl, by decide +kernel, rfl, by decide +kernel, by decide +kernel⟩
theorem d__law_base {f : Addr} {fd : FuncData} (F : Fun K "_law_base" "_law_base" s__law_base f fd) (T : Tx K mg) (Z : Errs P w K mg base G) (O__law_row : Ok P w K mg base G 2 "_law_row" ["script", "k", "sizes"] m__law_row) : FnOk P w K mg base (L2.CX P w) 3 f fd ["script", "delay"] (spM K G 2 m__law_base) :=
  fn_okT (N := ["script", "delay", "row"]) (ps := ["script", "delay"]) (k := 2) (n := 3) (np := 2) (body := b__law_base) rfl rfl F sc__law_base fun cdv A outer s H E c => by
    exact (ss_cons (s_set 2 c.nd (se_call c O__law_row (by decide) (by rfl) (sa_cons (se_var 0) (sa_cons se_int (sa_cons (se_lstF (sa_cons se_int (sa_cons se_int sa_nil))) sa_nil)))))
    (ss_one (s_ret (se_ix (se_lstF (sa_cons (se_add se_int (se_ix (se_var 2) se_int)) (sa_cons (se_add se_int (se_ix (se_var 2) se_int)) (sa_cons se_int (sa_cons (se_sub (se_sub se_int (se_mulA se_int (se_var 1))) se_int) sa_nil))))) (se_ix (se_var 2) se_int)))))
theorem sc__law_letter : FnScope ["pools", "variant", "moment", "parts", "k"] ["pools", "variant", "moment"] (defScope s__law_letter) := ⟨rfl, rfl, rfl, by decide +kernel, rfl, by decide +kernel, by decide +kernel⟩
theorem d__law_letter {f : Addr} {fd : FuncData} (F : Fun K "_law_letter" "_law_letter" s__law_letter f fd) (T : Tx K mg) (Z : Errs P w K mg base G)  : FnOk P w K mg base (L2.CX P w) 1 f fd ["pools", "variant", "moment"] (spM K G 3 m__law_letter) :=
  fn_okT (N := ["pools", "variant", "moment", "parts", "k"]) (ps := ["pools", "variant", "moment"]) (k := 0) (n := 5) (np := 3) (body := b__law_letter) rfl rfl F sc__law_letter fun cdv A outer s H E c => by
    exact (ss_cons (s_setLcF (i := 3) (own := [("k", 4)]) (s := (gtName 4)) c.hc c.nd (sw_true rfl rfl rfl (by decide +kernel)) (pi_range1 (by rfl) T.z_range (sa_cons se_int sa_nil)) io_rng1 (blkOk_by (N := ["pools", "variant", "moment", "parts", "k"]) (sc := defScope s__law_letter) (by decide +kernel)) (fun _ _ _ _ _ => (pg_name (i := 4) c.nd rfl (by first | exact Or.inl rfl | exact Or.inr rfl))) (tgw_name (by decide)) (fun _ _ _ _ _ => pts_nil) yes_imp (fun _ _ _ _ _ => inBlkE c fun c => (se_ix (se_ix (se_var 0) (se_var 4)) (se_callTy call_int1 im_int (by rfl) T.z_int bt_int (sa_cons (se_eq c.hu (se_var 1) (se_add (se_var 4) se_int)) sa_nil)))))
    (ss_one (s_ret (se_add (se_tup (sa_cons (se_var 2) sa_nil)) (se_callTy call_tuple_of im_tuple (by rfl) T.z_tuple bt_tuple (sa_cons (se_var 3) sa_nil))))))
theorem sc__law_letters : FnScope ["script", "at", "many", "pools", "base", "delay", "slots", "letters", "k", "row", "variant"] ["script", "at", "many", "pools", "base", "delay", "slots"] (defScope s__law_letters) := ⟨rfl, rfl, rfl, by decide +kernel, rfl, by decide +kernel, by decide +kernel⟩
theorem d__law_letters {f : Addr} {fd : FuncData} (F : Fun K "_law_letters" "_law_letters" s__law_letters f fd) (T : Tx K mg) (Z : Errs P w K mg base G) (O__law_row : Ok P w K mg base G 2 "_law_row" ["script", "k", "sizes"] m__law_row) (O__law_key : Ok P w K mg base G 1 "_law_key" ["letter"] m__law_key) (O__law_letter : Ok P w K mg base G 1 "_law_letter" ["pools", "variant", "moment"] m__law_letter) : FnOk P w K mg base (L2.CX P w) 3 f fd ["script", "at", "many", "pools", "base", "delay", "slots"] (spM K G 7 m__law_letters) :=
  fn_okT (N := ["script", "at", "many", "pools", "base", "delay", "slots", "letters", "k", "row", "variant"]) (ps := ["script", "at", "many", "pools", "base", "delay", "slots"]) (k := 2) (n := 11) (np := 7) (body := b__law_letters) rfl rfl F sc__law_letters fun cdv A outer s H E c => by
    exact (ss_cons (s_set 7 c.nd (se_lst sa_nil))
    (ss_cons (s_for c.po c.hc (pi_range1 (by rfl) T.z_range (sa_cons (se_var 2) sa_nil)) io_rng1 (pg_name (i := 8) c.nd rfl (by first | exact Or.inl rfl | exact Or.inr rfl)) tg_name (ss_cons (s_set 9 c.nd (se_call c O__law_row (by decide) (by rfl) (sa_cons (se_var 0) (sa_cons (se_addF (se_var 1) (se_var 8)) (sa_cons (se_lstF (sa_cons se_int (sa_cons se_int (sa_cons (se_var 6) (sa_cons se_int sa_nil))))) sa_nil)))))
    (ss_cons (s_set 10 c.nd se_int)
    (ss_cons (s_if (st_eq c.hu (se_ix (se_var 9) se_int) se_int) (ss_one (s_set 10 c.nd (se_add se_int (se_ix (se_var 9) se_int)))) ss_nil)
    (ss_one (s_expr (se_append (se_var 7) (sa_cons (se_call c O__law_letter (by decide) (by rfl) (sa_cons (se_var 3) (sa_cons (se_var 10) (sa_cons (se_sub (se_add (se_add (se_var 4) (se_mulA (se_ix (se_var 9) se_int) (se_var 5))) (se_ix (se_var 9) se_int)) se_int) sa_nil)))) sa_nil))))))))
    (ss_one (s_ret (se_callTy call_tuple_of im_tuple (by rfl) T.z_tuple bt_tuple (sa_cons (se_sortK c O__law_key (by decide) rfl (by rfl) T.z_sorted (by rfl) (se_var 7)) sa_nil))))))
theorem sc__law_candidates : FnScope ["rules", "questions", "replies", "rows", "reply", "row", "k", "wait"] ["rules", "questions", "replies"] (defScope s__law_candidates) := ⟨rfl, rfl, rfl, by decide +kernel, rfl, by decide +kernel, by decide +kernel⟩
theorem d__law_candidates {f : Addr} {fd : FuncData} (F : Fun K "_law_candidates" "_law_candidates" s__law_candidates f fd) (T : Tx K mg) (Z : Errs P w K mg base G)  : FnOk P w K mg base (L2.CX P w) 1 f fd ["rules", "questions", "replies"] (spM K G 3 m__law_candidates) :=
  fn_okT (N := ["rules", "questions", "replies", "rows", "reply", "row", "k", "wait"]) (ps := ["rules", "questions", "replies"]) (k := 0) (n := 8) (np := 3) (body := b__law_candidates) rfl rfl F sc__law_candidates fun cdv A outer s H E c => by
    exact (ss_cons (s_set 3 c.nd (se_lst sa_nil))
    (ss_cons (s_for c.po c.hc (pi_seqS (se_var 2)) io_seqS (pg_name (i := 4) c.nd rfl (by first | exact Or.inl rfl | exact Or.inr rfl)) tg_name (ss_cons (s_set 5 c.nd (se_lst sa_nil))
    (ss_cons (s_for c.po c.hc (pi_range1 (by rfl) T.z_range (sa_cons (se_callB call_lenAll im_len (by rfl) T.z_len bt_len (sa_cons (se_var 1) sa_nil)) sa_nil)) io_rng1 (pg_name (i := 6) c.nd rfl (by first | exact Or.inl rfl | exact Or.inr rfl)) tg_name (ss_cons (s_set 7 c.nd (se_sub (se_ix (se_var 4) se_int) (se_ix (se_ix (se_var 1) (se_var 6)) se_int)))
    (ss_one (s_if (st_w (sw_and (st_eq c.hu (se_slF (se_ix (se_var 1) (se_var 6)) (so_some se_int) so_none) (se_slF (se_var 4) (so_some se_int) so_none)) (sw_and (st_leX c.hu se_int (se_var 7)) (sw_and1 (st_leX c.hu (se_var 7) (se_mulA se_int (se_ix (se_var 0) se_int))))))) (ss_one (s_expr (se_append (se_var 5) (sa_cons (se_var 6) sa_nil)))) ss_nil))))
    (ss_one (s_expr (se_append (se_var 3) (sa_cons (se_callTy call_tuple_of im_tuple (by rfl) T.z_tuple bt_tuple (sa_cons (se_var 5) sa_nil)) sa_nil)))))))
    (ss_one (s_ret (se_callTy call_tuple_of im_tuple (by rfl) T.z_tuple bt_tuple (sa_cons (se_var 3) sa_nil))))))
theorem sc__law_greedy : FnScope ["candidates", "doubles", "many", "left_out", "taken", "used", "paper", "k", "chosen", "index"] ["candidates", "doubles", "many", "left_out", "taken"] (defScope s__law_greedy) := ⟨rfl, rfl, rfl, by decide +kernel, rfl, by decide +kernel, by decide +kernel⟩
theorem d__law_greedy {f : Addr} {fd : FuncData} (F : Fun K "_law_greedy" "_law_greedy" s__law_greedy f fd) (T : Tx K mg) (Z : Errs P w K mg base G)  : FnOk P w K mg base (L2.CX P w) 1 f fd ["candidates", "doubles", "many", "left_out", "taken"] (spM K G 5 m__law_greedy) :=
  fn_okT (N := ["candidates", "doubles", "many", "left_out", "taken", "used", "paper", "k", "chosen", "index"]) (ps := ["candidates", "doubles", "many", "left_out", "taken"]) (k := 0) (n := 10) (np := 5) (body := b__law_greedy) rfl rfl F sc__law_greedy fun cdv A outer s H E c => by
    exact (ss_cons (s_setLc (i := 5) (own := [("k", 7)]) (s := (gtName 7)) c.hc c.nd (sw_true rfl rfl rfl (by decide +kernel)) (pi_range1 (by rfl) T.z_range (sa_cons (se_var 2) sa_nil)) io_rng1 (blkOk_by (N := ["candidates", "doubles", "many", "left_out", "taken", "used", "paper", "k", "chosen", "index"]) (sc := defScope s__law_greedy) (by decide +kernel)) (fun _ _ _ _ _ => (pg_name (i := 7) c.nd rfl (by first | exact Or.inl rfl | exact Or.inr rfl))) (tgw_name (by decide)) (fun _ _ _ _ _ => pts_nil) yes_imp (fun _ _ _ _ _ => inBlkE c fun c => (se_callTy call_int1 im_int (by rfl) T.z_int bt_int (sa_cons (se_eq c.hu (se_var 7) (se_var 4)) sa_nil))))
    (ss_cons (s_set 6 c.nd (se_lst sa_nil))
    (ss_cons (s_for c.po c.hc (pi_range1 (by rfl) T.z_range (sa_cons (se_callB call_lenAll im_len (by rfl) T.z_len bt_len (sa_cons (se_var 0) sa_nil)) sa_nil)) io_rng1 (pg_name (i := 7) c.nd rfl (by first | exact Or.inl rfl | exact Or.inr rfl)) tg_name (ss_cons (s_set 8 c.nd se_non)
    (ss_cons (s_if (st_ne c.hu (se_var 7) (se_var 3)) (ss_one (s_for c.po c.hc (pi_seqS (se_ix (se_var 0) (se_var 7))) io_seqS (pg_name (i := 9) c.nd rfl (by first | exact Or.inl rfl | exact Or.inr rfl)) tg_name (ss_one (s_if (st_w (sw_and (st_isN (se_var 8)) (sw_and1 (st_ltX c.hu (se_ix (se_var 5) (se_var 9)) (se_var 1))))) (ss_one (s_set 8 c.nd (se_var 9))) ss_nil)))) ss_nil)
    (ss_cons (s_if (st_notN (se_var 8)) (ss_one (s_setIx c.hu1 (se_var 5) (se_var 8) (se_add (se_ix (se_var 5) (se_var 8)) se_int))) ss_nil)
    (ss_one (s_expr (se_append (se_var 6) (sa_cons (se_var 8) sa_nil))))))))
    (ss_one (s_ret (se_callTy call_tuple_of im_tuple (by rfl) T.z_tuple bt_tuple (sa_cons (se_var 6) sa_nil)))))))
theorem sc__law_forged : FnScope ["paper", "part"] ["paper"] (defScope s__law_forged) := ⟨rfl, rfl, rfl, by decide +kernel, rfl, by decide +kernel, by decide +kernel⟩
theorem d__law_forged {f : Addr} {fd : FuncData} (F : Fun K "_law_forged" "_law_forged" s__law_forged f fd) (T : Tx K mg) (Z : Errs P w K mg base G)  : FnOk P w K mg base (L2.CX P w) 1 f fd ["paper"] (spM K G 1 m__law_forged) :=
  fn_okT (N := ["paper", "part"]) (ps := ["paper"]) (k := 0) (n := 2) (np := 1) (body := b__law_forged) rfl rfl F sc__law_forged fun cdv A outer s H E c => by
    exact (ss_one (s_ret (se_callB call_lenAll im_len (by rfl) T.z_len bt_len (sa_cons (se_fz (se_lc (own := [("part", 1)]) (s := (gtName 1)) c.hc c.nd (pi_seqS (se_var 0)) io_seqS (blkOk_by (N := ["paper", "part"]) (sc := defScope s__law_forged) (by decide +kernel)) (fun _ _ _ _ _ => (pg_name (i := 1) c.nd rfl (by first | exact Or.inl rfl | exact Or.inr rfl))) (tgw_name (by decide)) (fun _ _ _ _ _ => inBlkT c fun c => (st_isN (se_var 1))) (fun _ _ _ z => z) (fun _ _ _ _ _ => inBlkE c fun c => (se_var 1)))) sa_nil))))
theorem sc__law_asked : FnScope ["script", "many", "row", "k"] ["script", "many"] (defScope s__law_asked) := ⟨rfl, rfl, rfl, by decide +kernel, rfl, by decide +kernel, by decide +kernel⟩
theorem d__law_asked {f : Addr} {fd : FuncData} (F : Fun K "_law_asked" "_law_asked" s__law_asked f fd) (T : Tx K mg) (Z : Errs P w K mg base G) (O__law_row : Ok P w K mg base G 2 "_law_row" ["script", "k", "sizes"] m__law_row) : FnOk P w K mg base (L2.CX P w) 3 f fd ["script", "many"] (spM K G 2 m__law_asked) :=
  fn_okT (N := ["script", "many", "row", "k"]) (ps := ["script", "many"]) (k := 2) (n := 4) (np := 2) (body := b__law_asked) rfl rfl F sc__law_asked fun cdv A outer s H E c => by
    exact (ss_cons (s_if (st_leX c.hu (se_var 1) se_int) (ss_one (s_ret (se_fz (se_lc (own := [("k", 3)]) (s := (gtName 3)) c.hc c.nd (pi_range1 (by rfl) T.z_range (sa_cons (se_var 1) sa_nil)) io_rng1 (blkOk_by (N := ["script", "many", "row", "k"]) (sc := defScope s__law_asked) (by decide +kernel)) (fun _ _ _ _ _ => (pg_name (i := 3) c.nd rfl (by first | exact Or.inl rfl | exact Or.inr rfl))) (tgw_name (by decide)) (fun _ _ _ _ _ => pts_nil) yes_imp (fun _ _ _ _ _ => inBlkE c fun c => (se_var 3)))))) ss_nil)
    (ss_cons (s_set 2 c.nd (se_call c O__law_row (by decide) (by rfl) (sa_cons (se_var 0) (sa_cons se_int (sa_cons (se_lstF (sa_cons se_int (sa_cons se_int sa_nil))) sa_nil)))))
    (ss_one (s_ret (se_fz (se_lc (own := [("k", 3)]) (s := (gtName 3)) c.hc c.nd (pi_range1 (by rfl) T.z_range (sa_cons se_int sa_nil)) io_rng1 (blkOk_by (N := ["script", "many", "row", "k"]) (sc := defScope s__law_asked) (by decide +kernel)) (fun _ _ _ _ _ => (pg_name (i := 3) c.nd rfl (by first | exact Or.inl rfl | exact Or.inr rfl))) (tgw_name (by decide)) (fun _ _ _ _ _ => pts_nil) yes_imp (fun _ _ _ _ _ => inBlkE c fun c => (se_mod (se_callTy call_int1 im_int (by rfl) T.z_int bt_int (sa_cons (se_add (se_ix (se_var 2) se_int) (se_mulA (se_var 3) (se_add se_int (se_ix (se_var 2) se_int)))) sa_nil)) (se_var 1)))))))))
theorem sc__law_refuses_index : FnScope ["rules", "questions", "replies", "index", "e"] ["rules", "questions", "replies", "index"] (defScope s__law_refuses_index) := ⟨rfl, rfl, rfl, by decide +kernel, rfl, by decide +kernel, by decide +kernel⟩
theorem d__law_refuses_index {f : Addr} {fd : FuncData} (F : Fun K "_law_refuses_index" "_law_refuses_index" s__law_refuses_index f fd) (T : Tx K mg) (Z : Errs P w K mg base G) (O_standing_of : Ok P w K mg base G 9 "standing_of" ["rules", "questions", "replies", "index"] m_standing_of) : FnOk P w K mg base (L2.CX P w) 10 f fd ["rules", "questions", "replies", "index"] (spM K G 4 m__law_refuses_index) :=
  fn_okT (N := ["rules", "questions", "replies", "index", "e"]) (ps := ["rules", "questions", "replies", "index"]) (k := 9) (n := 5) (np := 4) (body := b__law_refuses_index) rfl rfl F sc__law_refuses_index fun cdv A outer s H E c => by
    exact (ss_cons (s_tryX (c := 0) (i := 4) (mt := mtab 0) c rfl rfl rfl rfl ⟨rfl, by decide, .inl Z.m_BadRules⟩ (Z.M 0) (mtab_one 0) (fun W pn xe c => (ss_one (s_expr (se_call c O_standing_of (by decide) (by rfl) (sa_cons (se_var 0) (sa_cons (se_var 1) (sa_cons (se_var 2) (sa_cons (se_var 3) sa_nil)))))))) (fun a oe cls d pn hz hfl hcls => (xe_and (xe_eq c.hu (xe_fld (G := G) (C := ⟨4, a, d, 0⟩) (k := 0) Z.X_BadRules Z.F_BadRules_value hcls hz hfl rfl (Or.inl rfl) (by rw [Z.N_BadRules]; rfl)) (xe_of (se_var 3))) (xe_one (xe_eq c.hu (xe_fld (G := G) (C := ⟨4, a, d, 0⟩) (k := 1) Z.X_BadRules Z.F_BadRules_field hcls hz hfl rfl (Or.inl rfl) (by rw [Z.N_BadRules]; rfl)) (xe_of se_str))))))
    (ss_one (s_ret se_bl)))
theorem sc__law_is_open : FnScope ["rules", "questions", "replies", "due", "index", "least", "forged", "kept"] ["rules", "questions", "replies", "due", "index", "least"] (defScope s__law_is_open) := ⟨rfl, rfl, rfl, by decide +kernel, rfl, by decide +kernel, by decide +kernel⟩
theorem d__law_is_open {f : Addr} {fd : FuncData} (F : Fun K "_law_is_open" "_law_is_open" s__law_is_open f fd) (T : Tx K mg) (Z : Errs P w K mg base G) (O_is_attribution : Ok P w K mg base G 8 "is_attribution" ["rules", "questions", "replies", "paper"] m_is_attribution) (O__law_greedy : Ok P w K mg base G 1 "_law_greedy" ["candidates", "doubles", "many", "left_out", "taken"] m__law_greedy) (O__law_forged : Ok P w K mg base G 1 "_law_forged" ["paper"] m__law_forged) : FnOk P w K mg base (L2.CX P w) 9 f fd ["rules", "questions", "replies", "due", "index", "least"] (spM K G 6 m__law_is_open) :=
  fn_okT (N := ["rules", "questions", "replies", "due", "index", "least", "forged", "kept"]) (ps := ["rules", "questions", "replies", "due", "index", "least"]) (k := 8) (n := 8) (np := 6) (body := b__law_is_open) rfl rfl F sc__law_is_open fun cdv A outer s H E c => by
    exact (ss_cons (s_set 6 c.nd (se_call c O__law_greedy (by decide) (by rfl) (sa_cons (se_var 3) (sa_cons (se_ix (se_var 0) se_int) (sa_cons (se_callB call_lenAll im_len (by rfl) T.z_len bt_len (sa_cons (se_var 1) sa_nil)) (sa_cons (se_var 4) (sa_cons (se_neg se_int) sa_nil)))))))
    (ss_cons (s_set 7 c.nd (se_call c O__law_greedy (by decide) (by rfl) (sa_cons (se_var 3) (sa_cons (se_ix (se_var 0) se_int) (sa_cons (se_callB call_lenAll im_len (by rfl) T.z_len bt_len (sa_cons (se_var 1) sa_nil)) (sa_cons (se_var 4) (sa_cons (se_ix (se_ix (se_var 3) (se_var 4)) se_int) sa_nil)))))))
    (ss_cons (s_set 7 c.nd (se_add (se_add (se_slF (se_var 7) so_none (so_some (se_var 4))) (se_tup (sa_cons (se_ix (se_ix (se_var 3) (se_var 4)) se_int) sa_nil))) (se_slF (se_var 7) (so_some (se_add (se_var 4) se_int)) so_none)))
    (ss_cons (s_if (st_w (sw_or (st_ne c.hu (se_call c O__law_forged (by decide) (by rfl) (sa_cons (se_var 6) sa_nil)) (se_var 5)) (sw_or1 (st_ne c.hu (se_call c O__law_forged (by decide) (by rfl) (sa_cons (se_var 7) sa_nil)) (se_var 5))))) (ss_one (s_ret se_bl)) ss_nil)
    (ss_cons (s_if (st_notB c.hu (se_call c O_is_attribution (by decide) (by rfl) (sa_cons (se_var 0) (sa_cons (se_var 1) (sa_cons (se_var 2) (sa_cons (se_var 6) sa_nil))))) se_bl) (ss_one (s_ret se_bl)) ss_nil)
    (ss_one (s_ret (se_isB c.hu (se_call c O_is_attribution (by decide) (by rfl) (sa_cons (se_var 0) (sa_cons (se_var 1) (sa_cons (se_var 2) (sa_cons (se_var 7) sa_nil))))) se_bl))))))))
theorem sc_law : FnScope ["script", "rules", "pools", "base", "sizes", "many", "questions", "replies", "due", "least", "paper", "index", "wrong", "told"] ["script"] (defScope s_law) := ⟨rfl, rfl, rfl, by decide +kernel, rfl, by decide +kernel, by decide +kernel⟩
theorem d_law {f : Addr} {fd : FuncData} (F : Fun K "law" "law" s_law f fd) (T : Tx K mg) (Z : Errs P w K mg base G) (O_attribute : Ok P w K mg base G 8 "attribute" ["rules", "questions", "replies"] m_attribute) (O_least_forged : Ok P w K mg base G 9 "least_forged" ["rules", "questions", "replies"] m_least_forged) (O_standing_of : Ok P w K mg base G 9 "standing_of" ["rules", "questions", "replies", "index"] m_standing_of) (O__law_number : Ok P w K mg base G 1 "_law_number" ["script", "k", "most"] m__law_number) (O__law_row : Ok P w K mg base G 2 "_law_row" ["script", "k", "sizes"] m__law_row) (O__law_rules : Ok P w K mg base G 3 "_law_rules" ["script"] m__law_rules) (O__law_pools : Ok P w K mg base G 3 "_law_pools" ["script"] m__law_pools) (O__law_base : Ok P w K mg base G 3 "_law_base" ["script", "delay"] m__law_base) (O__law_letters : Ok P w K mg base G 3 "_law_letters" ["script", "at", "many", "pools", "base", "delay", "slots"] m__law_letters) (O__law_candidates : Ok P w K mg base G 1 "_law_candidates" ["rules", "questions", "replies"] m__law_candidates) (O__law_greedy : Ok P w K mg base G 1 "_law_greedy" ["candidates", "doubles", "many", "left_out", "taken"] m__law_greedy) (O__law_forged : Ok P w K mg base G 1 "_law_forged" ["paper"] m__law_forged) (O__law_asked : Ok P w K mg base G 3 "_law_asked" ["script", "many"] m__law_asked) (O__law_refuses_index : Ok P w K mg base G 10 "_law_refuses_index" ["rules", "questions", "replies", "index"] m__law_refuses_index) (O__law_is_open : Ok P w K mg base G 9 "_law_is_open" ["rules", "questions", "replies", "due", "index", "least"] m__law_is_open) : FnOk P w K mg base (L2.CX P w) 11 f fd ["script"] (spM K G 1 m_law) :=
  fn_okT (N := ["script", "rules", "pools", "base", "sizes", "many", "questions", "replies", "due", "least", "paper", "index", "wrong", "told"]) (ps := ["script"]) (k := 10) (n := 14) (np := 1) (body := b_law) rfl rfl F sc_law fun cdv A outer s H E c => by
    exact (ss_cons (s_set 1 c.nd (se_call c O__law_rules (by decide) (by rfl) (sa_cons (se_var 0) sa_nil)))
    (ss_cons (s_set 2 c.nd (se_call c O__law_pools (by decide) (by rfl) (sa_cons (se_var 0) sa_nil)))
    (ss_cons (s_set 3 c.nd (se_call c O__law_base (by decide) (by rfl) (sa_cons (se_var 0) (sa_cons (se_ix (se_var 1) se_int) sa_nil))))
    (ss_cons (s_set 4 c.nd (se_call c O__law_row (by decide) (by rfl) (sa_cons (se_var 0) (sa_cons se_int (sa_cons (se_lstF (sa_cons se_int (sa_cons se_int (sa_cons se_int (sa_cons se_int (sa_cons se_int sa_nil)))))) sa_nil)))))
    (ss_cons (s_set 5 c.nd (se_lstF (sa_cons (se_ix (se_var 4) se_int) (sa_cons (se_ix (se_var 4) se_int) sa_nil))))
    (ss_cons (s_if (st_eq c.hu (se_ix (se_var 4) se_int) se_int) (ss_one (s_set 5 c.nd (se_lstF (sa_cons (se_ix (se_var 4) se_int) (sa_cons (se_ix (se_var 4) se_int) sa_nil))))) ss_nil)
    (ss_cons (s_set 6 c.nd (se_call c O__law_letters (by decide) (by rfl) (sa_cons (se_var 0) (sa_cons se_int (sa_cons (se_ix (se_var 5) se_int) (sa_cons (se_var 2) (sa_cons (se_var 3) (sa_cons (se_ix (se_var 1) se_int) (sa_cons se_int sa_nil)))))))))
    (ss_cons (s_set 7 c.nd (se_call c O__law_letters (by decide) (by rfl) (sa_cons (se_var 0) (sa_cons se_int (sa_cons (se_ix (se_var 5) se_int) (sa_cons (se_var 2) (sa_cons (se_var 3) (sa_cons (se_ix (se_var 1) se_int) (sa_cons se_int sa_nil)))))))))
    (ss_cons (s_set 8 c.nd (se_call c O__law_candidates (by decide) (by rfl) (sa_cons (se_var 1) (sa_cons (se_var 6) (sa_cons (se_var 7) sa_nil)))))
    (ss_cons (s_set 9 c.nd (se_call c O__law_forged (by decide) (by rfl) (sa_cons (se_call c O__law_greedy (by decide) (by rfl) (sa_cons (se_var 8) (sa_cons (se_ix (se_var 1) se_int) (sa_cons (se_ix (se_var 5) se_int) (sa_cons (se_neg se_int) (sa_cons (se_neg se_int) sa_nil)))))) sa_nil)))
    (ss_cons (s_if (st_ne c.hu (se_call c O_least_forged (by decide) (by rfl) (sa_cons (se_var 1) (sa_cons (se_var 6) (sa_cons (se_var 7) sa_nil)))) (se_var 9)) (ss_one (s_ret se_bl)) ss_nil)
    (ss_cons (s_set 10 c.nd (se_call c O_attribute (by decide) (by rfl) (sa_cons (se_var 1) (sa_cons (se_var 6) (sa_cons (se_var 7) sa_nil)))))
    (ss_cons (s_if (st_w (sw_or (st_not (st_truth (se_isi .tuple (se_var 10) (se_ty (by rfl) T.z_tuple bt_tuple) (by rfl) T.z_isinstance))) (sw_or1 (st_ne c.hu (se_callB call_lenAll im_len (by rfl) T.z_len bt_len (sa_cons (se_var 10) sa_nil)) (se_ix (se_var 5) se_int))))) (ss_one (s_ret se_bl)) ss_nil)
    (ss_cons (s_for c.po c.hc (pi_seqS (se_call c O__law_asked (by decide) (by rfl) (sa_cons (se_var 0) (sa_cons (se_ix (se_var 5) se_int) sa_nil)))) io_seqS (pg_name (i := 11) c.nd rfl (by first | exact Or.inl rfl | exact Or.inr rfl)) tg_name (ss_cons (s_set 13 c.nd (se_call c O_standing_of (by decide) (by rfl) (sa_cons (se_var 1) (sa_cons (se_var 6) (sa_cons (se_var 7) (sa_cons (se_var 11) sa_nil))))))
    (ss_cons (s_if (st_not (st_truth (se_isi .str (se_var 13) (se_ty (by rfl) T.z_str bt_str) (by rfl) T.z_isinstance))) (ss_one (s_ret se_bl)) ss_nil)
    (ss_one (s_if (st_eq c.hu (se_ix (se_var 8) (se_var 11)) (se_tup sa_nil)) (ss_one (s_if (st_w (sw_or (st_ne c.hu (se_var 13) se_str) (sw_or1 (st_notN (se_ix (se_var 10) (se_var 11)))))) (ss_one (s_ret se_bl)) ss_nil)) (ss_one (s_if (st_eq c.hu (se_call c O__law_forged (by decide) (by rfl) (sa_cons (se_call c O__law_greedy (by decide) (by rfl) (sa_cons (se_var 8) (sa_cons (se_ix (se_var 1) se_int) (sa_cons (se_ix (se_var 5) se_int) (sa_cons (se_var 11) (sa_cons (se_neg se_int) sa_nil)))))) sa_nil)) (se_var 9)) (ss_one (s_if (st_w (sw_or (st_ne c.hu (se_var 13) se_str) (sw_or1 (st_not (st_truth (se_call c O__law_is_open (by decide) (by rfl) (sa_cons (se_var 1) (sa_cons (se_var 6) (sa_cons (se_var 7) (sa_cons (se_var 8) (sa_cons (se_var 11) (sa_cons (se_var 9) sa_nil)))))))))))) (ss_one (s_ret se_bl)) ss_nil)) (ss_one (s_if (st_w (sw_or (st_ne c.hu (se_var 13) se_str) (sw_or1 (st_isN (se_ix (se_var 10) (se_var 11)))))) (ss_one (s_ret se_bl)) ss_nil)))))))))
    (ss_cons (s_set 12 c.nd (se_ix (se_lstF (sa_cons (se_ix (se_var 5) se_int) (sa_cons (se_neg se_int) (sa_cons se_bl (sa_cons se_non (sa_cons se_str (sa_cons (se_tup (sa_cons se_int sa_nil)) (sa_cons se_bl (sa_cons (se_lstF (sa_cons se_int sa_nil)) sa_nil))))))))) (se_call c O__law_number (by decide) (by rfl) (sa_cons (se_var 0) (sa_cons se_int (sa_cons se_int sa_nil))))))
    (ss_one (s_ret (se_call c O__law_refuses_index (by decide) (by rfl) (sa_cons (se_var 1) (sa_cons (se_var 6) (sa_cons (se_var 7) (sa_cons (se_var 12) sa_nil))))))))))))))))))))))
end
end Lk34
/-! k34: what is as in k32 -/
namespace Lk34
open PySem L2 PyProof.Rows Sm SmPool
theorem q_between : m_is_between = Lk32.m_is_between := rfl
theorem q_letters : m_check_letters = Lk32.m_check_letters := rfl
theorem q_cands : m_candidates_of = Lk32.m_candidates_of := rfl
theorem q_replies : m_Matcher_replies_of = Lk32.m_Matcher_replies_of := rfl
theorem q_match : m_match = Lk32.m_match := rfl
theorem q_attribute : m_attribute = Lk32.m_attribute := rfl
theorem q_least : m_least_forged = Lk32.m_least_forged := rfl
theorem q_isattr : m_is_attribution = Lk32.m_is_attribution := rfl
theorem q_number : m__law_number = Lk32.m__law_number := rfl
theorem q_row : m__law_row = Lk32.m__law_row := rfl
theorem q_rules : m__law_rules = Lk32.m__law_rules := rfl
theorem q_pools : m__law_pools = Lk32.m__law_pools := rfl
theorem q_base : m__law_base = Lk32.m__law_base := rfl
theorem q_lets : m__law_letters = Lk32.m__law_letters := rfl
theorem q_lcands : m__law_candidates = Lk32.m__law_candidates := rfl
theorem q_greedy : m__law_greedy = Lk32.m__law_greedy := rfl
theorem q_forged : m__law_forged = Lk32.m__law_forged := rfl
end Lk34
/-! k34: crowd_of walked -/
namespace Lk34
open PySem L2 PyProof.Rows Sm SmPool
open Lk32 (natD rowD rowsD optD takD At rlD ltsD Rl In cands atRows atT replies_spec notin_row los_nat tellD told)
section
variable {h : Hh} {n t c : Nat} {cs : List (List Nat)} {db : Int} {T : Mt.Tk} {K : Mt.Km}
/-- one question more: its holders are found -/
theorem crowd_turn (a : At h n t c cs db T K) {rr q : Nat} {F : List Nat} (hrr : h[rr]? = some (.lst (F.map natD))) (hrt : rr ≠ t) (hF : F.length ≤ 100) (hT : T.length ≤ 100) {e0 e1 e2 e3 e6 e8 : Option D} (l0 : ∀ d, (some d = e0 ∨ some d = e1 ∨ some d = e2 ∨ some d = e3 ∨ some d = e6 ∨ some d = e8) → lo h.length d = true) :
    b_crowd_of_2 [e0, e1, e2, e3, some (.ref n), some (.ref rr), e6, some (natD q), e8, none] h = .nx [e0, e1, e2, e3, some (.ref n), some (.ref rr), e6, some (natD q), e8, none] (h.set rr (.lst ((Mc.addH T F q).map natD))) := by
  have rs := replies_spec a (by omega) q
  have hhl : (Mt.holders T q).length ≤ T.length := by rw [Mt.holders_len]; exact List.count_le_length
  have hrl : rr < h.length := (List.getElem?_eq_some_iff.mp hrr).1
  have hnl : n < h.length := (List.getElem?_eq_some_iff.mp a.ob).1
  have lc := lc_pfM (i := 9) (t := tBl (eB opNin (eV 9) (eV 5))) (m := eV 9) (env := [e0, e1, e2, e3, some (.ref n), some (.ref rr), e6, some (natD q), e8, none]) (h := h) (fun y => decide (y ∉ F)) natD natD (Mt.holders T q) (fun y hy acc => by
    have e := notin_row y F (h ++ [.lst acc]) (k := rr) (by rw [List.getElem?_append_left hrl]; exact hrr)
    simp [e]) (fun y hy _ acc => by simp) (line4k (by omega))
  have hz : F.length + ((Mt.holders T q).filter fun y => decide (y ∉ F)).length ≤ sizeLine := line4k (by
    have := List.length_filter_le (fun y => decide (y ∉ F)) (Mt.holders T q)
    omega)
  have hrg : (h ++ [O.lst (((Mt.holders T q).filter fun y => decide (y ∉ F)).map natD)])[rr]? = some (.lst (F.map natD)) := by rw [List.getElem?_append_left hrl]; exact hrr
  rw [← q_replies] at rs
  have e0' : sExpr (eMt opExtend (eV 5) [(eLc (mSeqS (eMeth 2 m_Matcher_replies_of (eV 4) [(eV 7)])) (gtName 9) (tBl (eB opNin (eV 9) (eV 5))) (eV 9) [9])]) [e0, e1, e2, e3, some (.ref n), some (.ref rr), e6, some (natD q), e8, none] h =
      .nx [e0, e1, e2, e3, some (.ref n), some (.ref rr), e6, some (natD q), e8, none] ((h.set rr (.lst ((Mc.addH T F q).map natD))) ++ [.lst (((Mt.holders T q).filter fun y => decide (y ∉ F)).map natD)]) := by
    have ob := a.ob
    simp only [natD] at rs lc
    simp at lc hrg hz
    simp [hrr, ob, natD, rs, lc, hrg, hz, List.set_append_left _ _ hrl, Mc.addH]
  unfold b_crowd_of_2
  rw [sTr_eq, e0']
  refine trS_cut (by rw [List.length_set]) (fun d hd => ?_) (Kq_set ?_)
  · simp only [List.mem_cons, List.not_mem_nil, or_false, reduceCtorEq] at hd
    rcases hd with z | z | z | z | z | z | z | z | z
    · exact l0 d (.inl z)
    · exact l0 d (.inr (.inl z))
    · exact l0 d (.inr (.inr (.inl z)))
    · exact l0 d (.inr (.inr (.inr (.inl z))))
    · cases z
      simpa using hnl
    · cases z
      simpa using hrl
    · exact l0 d (.inr (.inr (.inr (.inr (.inl z)))))
    · cases z
      rfl
    · exact l0 d (.inr (.inr (.inr (.inr (.inr z)))))
  · show los _ _ = true
    exact los_nat _ _
end
end Lk34
/-! k34: crowd_of walked, its loops -/
namespace Lk34
open PySem L2 PyProof.Rows Sm SmPool
open Lk32 (natD rowD rowsD optD takD At rlD ltsD Rl In cands atRows atT replies_spec notin_row los_nat tellD told los_rows)
section
variable {n t c rr : Nat} {cs : List (List Nat)} {db : Int} {T : Mt.Tk} {K : Mt.Km}
theorem crowd_fold (hT : T.length ≤ 24) (hrt : rr ≠ t) {x : Nat} (hx : x < cs.length) {e0 e1 e2 e3 e6 e8 : Option D} : ∀ (qs F : List Nat) (h : Hh) (e7 : Option D), At h n t c cs db T K → h[rr]? = some (.lst (F.map natD)) → Mc.Fd cs T F → x ∈ F → (∀ q ∈ qs, q ∈ Mt.cn cs x) →
    (∀ d, (some d = e0 ∨ some d = e1 ∨ some d = e2 ∨ some d = e3 ∨ some d = e6 ∨ some d = e8) → lo h.length d = true) →
    ∃ e7', forL (gtName 7) b_crowd_of_2 none (qs.map natD) [e0, e1, e2, e3, some (.ref n), some (.ref rr), e6, e7, e8, none] h = .nx [e0, e1, e2, e3, some (.ref n), some (.ref rr), e6, e7', e8, none] (h.set rr (.lst ((qs.foldl (Mc.addH T) F).map natD)))
  | [], F, h, e7, a, hrr, f, hxF, hq, l0 => by
    refine ⟨e7, ?_⟩
    rw [List.map_nil, forL_nil (gd := none) trivial]
    obtain ⟨h1, h2⟩ := List.getElem?_eq_some_iff.mp hrr
    rw [List.foldl_nil, ← h2, List.set_getElem_self]
  | q :: qs, F, h, e7, a, hrr, f, hxF, hq, l0 => by
    have hF := Mt.nodup_len f.nd f.lt
    have t1 := crowd_turn a hrr hrt (q := q) (by omega) (by omega) l0
    have hrl : rr < h.length := (List.getElem?_eq_some_iff.mp hrr).1
    have hrn : rr ≠ n := fun z => by
      rw [z, a.ob] at hrr
      cases hrr
    have hrc : rr ≠ c := fun z => by
      rw [z, a.km] at hrr
      cases hrr
    obtain ⟨e7', ih⟩ := crowd_fold hT hrt hx qs (Mc.addH T F q) (h.set rr (.lst ((Mc.addH T F q).map natD))) (some (natD q)) (a.set _ hrn hrt hrc) (List.getElem?_set_self hrl) (Mc.addH_fd f hxF hx (hq q (by simp))) (Mc.mem_addH.mpr (.inl hxF)) (fun q' h => hq q' (by simp [h])) (fun d hd => by rw [List.length_set]; exact l0 d hd)
    refine ⟨e7', ?_⟩
    rw [List.map_cons, forL_nx (gd := none) trivial rfl t1, ih, List.set_set]
    rfl
theorem crowd_while (hcs : cs.length ≤ 24) (hT : T.length = cs.length) (hrt : rr ≠ t) {e0 e1 e2 e8 : Option D} : ∀ (f at_ m : Nat) (F : List Nat) (h : Hh) (e7 : Option D), At h n t c cs db T K → h[rr]? = some (.lst (F.map natD)) → Mc.Fd cs T F → cs.length < f + at_ → cs.length + 1 < m + at_ → at_ ≤ F.length →
    (∀ d, (some d = e0 ∨ some d = e1 ∨ some d = e2 ∨ some d = e8) → lo h.length d = true) →
    ∃ e6 e7', whileF (tBl (eB opLtX (eV 6) (eN opLen [(eV 5)]))) b_crowd_of_1 m [e0, e1, e2, some (rowsD cs), some (.ref n), some (.ref rr), some (.int (at_ : Int)), e7, e8, none] h = .nx [e0, e1, e2, some (rowsD cs), some (.ref n), some (.ref rr), e6, e7', e8, none] (h.set rr (.lst ((Mc.cb cs T f at_ F).map natD))) := by
  intro f
  induction f with
  | zero =>
    intro at_ m F h e7 _ _ fd hf _ hat _
    have := Mt.nodup_len fd.nd fd.lt
    omega
  | succ f ih =>
    intro at_ m F h e7 a hrr fd hf hm hat l0
    obtain ⟨m, rfl⟩ : ∃ m', m = m' + 1 := ⟨m - 1, by have := Mt.nodup_len fd.nd fd.lt; omega⟩
    have hlen : (F.map natD).length = F.length := by simp
    cases e : F[at_]? with
    | none =>
      have hl : F.length ≤ at_ := by rw [List.getElem?_eq_none_iff] at e; exact e
      have hlt : ¬ at_ < F.length := by omega
      refine ⟨some (.int (at_ : Int)), e7, ?_⟩
      have e2 : Mc.cb cs T (f + 1) at_ F = F := by simp [Mc.cb, e]
      rw [whileF_f (h' := h) (by simp [hrr, hlen, hlt]), e2]
      obtain ⟨h1, h2⟩ := List.getElem?_eq_some_iff.mp hrr
      rw [← h2, List.set_getElem_self]
    | some x =>
      have hlt : at_ < F.length := (List.getElem?_eq_some_iff.mp e).1
      have hxF : x ∈ F := List.mem_of_getElem? e
      have hx : x < cs.length := by rw [← hT]; exact fd.lt x hxF
      have ha : atI (F.map natD) (at_ : Int) = some (natD x) := by
        rw [atI_pos (by omega)]
        simp [e]
      have hc := atRows hx
      have lr : lo h.length (rowsD cs) = true := by
        unfold rowsD
        rw [lo_tup]
        exact los_rows _ _
      obtain ⟨e7', fw⟩ := crowd_fold (n := n) (t := t) (c := c) (rr := rr) (db := db) (K := K) (e0 := e0) (e1 := e1) (e2 := e2) (e3 := some (rowsD cs)) (e6 := some (.int (at_ : Int))) (e8 := e8) (by omega) hrt hx (Mt.cn cs x) F h e7 a hrr fd hxF (fun q h => h) (fun d hd => by
        rcases hd with z | z | z | z | z | z
        · exact l0 d (.inl z)
        · exact l0 d (.inr (.inl z))
        · exact l0 d (.inr (.inr (.inl z)))
        · cases z; exact lr
        · cases z; rfl
        · exact l0 d (.inr (.inr (.inr z))))
      obtain ⟨i1, ⟨H, i2⟩, _⟩ := Mc.fold_fd hx (Mt.cn cs x) F fd hxF fun q h => h
      rw [i2] at fw i1
      have hrl : rr < h.length := (List.getElem?_eq_some_iff.mp hrr).1
      have hrn : rr ≠ n := fun z => by
        rw [z, a.ob] at hrr
        cases hrr
      have hrc : rr ≠ c := fun z => by
        rw [z, a.km] at hrr
        cases hrr
      have st : b_crowd_of_1 [e0, e1, e2, some (rowsD cs), some (.ref n), some (.ref rr), some (.int (at_ : Int)), e7, e8, none] h = .nx [e0, e1, e2, some (rowsD cs), some (.ref n), some (.ref rr), some (.int ((at_ + 1 : Nat) : Int)), e7', e8, none] (h.set rr (.lst ((F ++ H).map natD))) := by
        simp only [natD] at ha
        simp only [rowsD] at fw ⊢
        simp [b_crowd_of_1, hrr, ha, hc, rowD, fw]
      obtain ⟨e6, e7'', ih'⟩ := ih (at_ + 1) m (F ++ H) (h.set rr (.lst ((F ++ H).map natD))) e7' (a.set _ hrn hrt hrc) (List.getElem?_set_self hrl) i1 (by omega) (by omega) (by rw [List.length_append]; omega) (fun d hd => by rw [List.length_set]; exact l0 d hd)
      refine ⟨e6, e7'', ?_⟩
      have e2 : Mc.cb cs T (f + 1) at_ F = Mc.cb cs T f (at_ + 1) (F ++ H) := by simp only [Mc.cb, e, i2]
      rw [whileF_t (h1 := h) (by simp [hrr, hlen, hlt]) st, ih', e2, List.set_set]
end
end Lk34
/-! k34: crowd_of -/
namespace Lk34
open PySem L2 PyProof.Rows Sm SmPool
open Lk32 (natD rowD rowsD optD takD At rlD ltsD Rl In cands atRows atT los_nat tellD told los_rows cands_len cands_cn cands_spec match_spec)
/-- the program's found ones -/
def found (cs : List (List Nat)) (d : Nat) : List Nat := Mc.cb cs (told cs d) 100 0 (Mc.unm (told cs d))
def foundD (cs : List (List Nat)) (d : Nat) : D := .tup ((sortI ((found cs d).map fun (k : Nat) => (k : Int))).map D.int)
theorem ints_nat : ∀ F : List Nat, intsOf (F.map natD) = some (F.map fun (k : Nat) => (k : Int))
  | [] => rfl
  | x :: F => by simp [intsOf, natD, ints_nat F]
section
variable {dl : Int} {d : Nat} {qs rs : List Lk32.Lt}
theorem crowd_spec (i : In dl (d : Int) qs rs) (h : Hh) : m_crowd_of [rlD dl (d : Int), ltsD qs, ltsD rs] h = .ok (foundD (cands dl qs rs) d) h := by
  have e1 := cands_spec i h
  have hcl : (cands dl qs rs).length ≤ 24 := by rw [cands_len]; exact i.rl
  obtain ⟨H, c, K, e2, a, hl, pre⟩ := match_spec (cs := cands dl qs rs) (d := d) hcl (cands_cn i.ql) h
  rw [← q_cands] at e1
  rw [← q_match] at e2
  generalize cands dl qs rs = cs at e1 hcl e2 a ⊢
  have v := (Mt.matched_ok (C := cs) (d := d) 100 (by omega)).1
  obtain ⟨T, hT⟩ : ∃ T, T = Mt.matched cs d 100 cs.length := ⟨_, rfl⟩
  have hTt : told cs d = T := by rw [hT]; rfl
  rw [← hT] at a v
  have hTl : T.length = cs.length := v.len
  have hr : Sm.inR (cs.length : Int) = true := inR_ok (by omega) (by omega)
  have hHl : h.length + 1 < H.length := (List.getElem?_eq_some_iff.mp a.tk).1
  have ad : atI [D.int dl, D.int (d : Int)] (1 : Int) = some (.int (d : Int)) := by rw [atI_pos (by omega)]; rfl
  -- those who are left out
  have lc := lc_pfM (i := 8) (t := tBl (eU opIsN (eB opIx (eU (opFld 2 2) (eV 4)) (eV 8)))) (m := eV 8) (env := [some (rlD dl (d : Int)), some (ltsD qs), some (ltsD rs), some (rowsD cs), some (.ref h.length), none, none, none, none, none]) (h := H) (fun x => decide (T[x]? = some none)) natD natD (List.range cs.length) (fun k hk acc => by
    have hk' : k < T.length := by rw [hTl]; simpa using hk
    obtain ⟨o, eo⟩ : ∃ o, T[k]? = some o := ⟨_, List.getElem?_eq_getElem hk'⟩
    have a1 := atT eo
    have a2 := a.app [.lst acc]
    have b1 := a2.ob
    have b2 := a2.tk
    cases o <;> simp [natD, b1, b2, a1, eo, optD]) (fun k hk _ acc => by simp [natD]) (by rw [List.length_range]; exact line4k (by omega))
  have hu : (List.range cs.length).filter (fun x => decide (T[x]? = some none)) = Mc.unm T := by unfold Mc.unm; rw [hTl]
  have hx : List.map natD (List.range cs.length) = rngD 0 cs.length := (rngD_range _).symm
  rw [hu, hx] at lc
  have a3 := a.app [.lst ((Mc.unm T).map natD)]
  have hrr : (H ++ [O.lst ((Mc.unm T).map natD)])[H.length]? = some (.lst ((Mc.unm T).map natD)) := by simp
  have lo1 : ∀ (x : D), lo 0 x = true → lo (H ++ [O.lst ((Mc.unm T).map natD)]).length x = true := fun x hx => lo_flat _ hx
  obtain ⟨e6, e7, w⟩ := crowd_while (n := h.length) (t := h.length + 1) (c := c) (rr := H.length) (K := K) hcl hTl (by omega) (e0 := some (rlD dl (d : Int))) (e1 := some (ltsD qs)) (e2 := some (ltsD rs)) (e8 := none) 100 0 100000 (Mc.unm T) (H ++ [.lst ((Mc.unm T).map natD)]) none a3 hrr Mc.unm_fd (by omega) (by omega) (Nat.zero_le _) (fun x hx => by
    have los0 : ∀ ls : List Lk32.Lt, (∀ l ∈ ls, l.Good) → lo (H ++ [O.lst ((Mc.unm T).map natD)]).length (ltsD ls) = true := fun ls hg => by
      unfold ltsD
      rw [lo_tup, los_all, List.all_eq_true]
      intro y hy
      obtain ⟨l, hl, rfl⟩ := List.mem_map.mp hy
      exact tm_lo (hg l hl).tml
    rcases hx with z | z | z | z
    · cases z; rfl
    · cases z; exact los0 qs i.qg
    · cases z; exact los0 rs i.rg
    · cases z)
  have hs : (H ++ [O.lst ((Mc.unm T).map natD)]).set H.length (.lst ((Mc.cb cs T 100 0 (Mc.unm T)).map natD)) = H ++ [.lst ((Mc.cb cs T 100 0 (Mc.unm T)).map natD)] := by simp
  rw [hs] at w
  have hg : (H ++ [O.lst ((Mc.cb cs T 100 0 (Mc.unm T)).map natD)])[H.length]? = some (.lst ((Mc.cb cs T 100 0 (Mc.unm T)).map natD)) := by simp
  have z0 : ((0 : Nat) : Int) = 0 := rfl
  rw [z0] at w
  have tk : (H ++ [O.lst ((Mc.cb cs T 100 0 (Mc.unm T)).map natD)]).take h.length = h := by
    rw [List.take_append_of_le_length (by omega)]
    apply List.ext_getElem?
    intro j
    rw [List.getElem?_take]
    split
    · exact pre j ‹_›
    · rw [List.getElem?_eq_none (by omega)]
  have si : opSortedF [.ref H.length] (H ++ [O.lst ((Mc.cb cs T 100 0 (Mc.unm T)).map natD)]) = some (.fls ((sortI ((Mc.cb cs T 100 0 (Mc.unm T)).map fun (k : Nat) => (k : Int))).map D.int), H ++ [O.lst ((Mc.cb cs T 100 0 (Mc.unm T)).map natD)]) := by
    unfold opSortedF
    dsimp only
    rw [hg]
    dsimp only
    rw [ints_nat]
  have tr : ∀ ns : List Int, trR h (.ok (.tup (ns.map D.int)) (H ++ [O.lst ((Mc.cb cs T 100 0 (Mc.unm T)).map natD)])) = .ok (.tup (ns.map D.int)) h := fun ns => by
    unfold trR
    dsimp only
    rw [tk, if_pos ⟨by rw [lo_tup]; exact los_ints _ _, Kq_self _ _⟩]
  unfold foundD found
  rw [hTt]
  have s5 : sSet 5 (eLc (mRng1 (eN opLen [(eV 3)])) (gtName 8) (tBl (eU opIsN (eB opIx (eU (opFld 2 2) (eV 4)) (eV 8)))) (eV 8) [8]) [some (rlD dl (d : Int)), some (ltsD qs), some (ltsD rs), some (rowsD cs), some (.ref h.length), none, none, none, none, none] H = .nx [some (rlD dl (d : Int)), some (ltsD qs), some (ltsD rs), some (rowsD cs), some (.ref h.length), some (.ref H.length), none, none, none, none] (H ++ [.lst ((Mc.unm T).map natD)]) := by
    simp only [rowsD] at lc ⊢
    simp [hr, lc]
  generalize hF : (H ++ [O.lst ((Mc.cb cs T 100 0 (Mc.unm T)).map natD)]) = HF at w si tr
  simp only [rlD] at e1 e2 s5 w ⊢
  simp [m_crowd_of, b_crowd_of, e1, ad, e2, ↓s5, w, si, tr]
end
end Lk34
/-! k34: standing_of -/
namespace Lk34
open PySem L2 PyProof.Rows Sm SmPool
open Lk32 (natD rowD rowsD optD takD At rlD ltsD Rl In cands atRows atT los_nat tellD told los_rows cands_len cands_cn cands_spec match_spec letters_spec between_int between_no isI tm_row)
theorem toVs_int : ∀ ns : List Int, toVs (ns.map D.int) = some (ns.map V.int)
  | [] => rfl
  | x :: ns => by simp [toVs, toV, toVs_int ns]
theorem in_ints (i : Int) (ns : List Int) (g : Hh) : opIn (.int i) (.tup (ns.map D.int)) g = some (.bl (decide (i ∈ ns)), g) := by
  have h1 : partsOf (.tup (ns.map D.int)) g = some (ns.map D.int) := rfl
  have h3 : inV (V.int i) (ns.map V.int) = decide (i ∈ ns) := by
    unfold inV
    rw [List.any_map, Bool.eq_iff_iff, List.any_eq_true, decide_eq_true_eq]
    constructor
    · rintro ⟨k, hk, e⟩
      simp [eqV] at e
      rw [← e]
      exact hk
    · intro hx
      exact ⟨i, hx, by simp [eqV]⟩
  have h2 : opInB (.int i) (.tup (ns.map D.int)) g = some (decide (i ∈ ns)) := by
    have this := toVs_int ns
    simp only [opInB, toV] at h1 this h3 ⊢
    simp only [h1, this, h3]
  unfold opIn
  rw [h2]
  rfl
theorem mem_sorted (F : List Nat) (k : Nat) : ((k : Int) ∈ sortI (F.map fun (x : Nat) => (x : Int))) ↔ k ∈ F := by
  rw [(sortI_perm _).mem_iff, List.mem_map]
  constructor
  · rintro ⟨x, hx, e⟩
    have : x = k := by omega
    rw [← this]
    exact hx
  · intro h
    exact ⟨k, h, rfl⟩
/-- the standing told -/
def standS (cs : List (List Nat)) (d k : Nat) : Str := if Mt.cn cs k = [] then "forged" else if k ∈ found cs d then "open" else "genuine"
section
variable {dl : Int} {d : Nat} {qs rs : List Lk32.Lt}
theorem standing_spec (i : In dl (d : Int) qs rs) {k : Nat} (hk : k < rs.length) (h : Hh) : m_standing_of [rlD dl (d : Int), ltsD qs, ltsD rs, .int (k : Int)] h = .ok (.str (standS (cands dl qs rs) d k)) h := by
  have e1 := letters_spec i h
  have e2 := cands_spec i h
  have e3 := crowd_spec i h
  have e4 := between_int (k : Int) 0 ((rs.length : Int) - 1) h
  rw [← q_letters] at e1
  rw [← q_cands] at e2
  rw [← q_between] at e4
  have hkc : k < (cands dl qs rs).length := by rw [cands_len]; exact hk
  have hc := atRows hkc
  have hcl := cands_cn (dl := dl) (rs := rs) i.ql k
  unfold standS
  generalize cands dl qs rs = cs at e2 e3 hc hcl ⊢
  have hb : (decide ((0 : Int) ≤ (k : Int)) && decide ((k : Int) ≤ (rs.length : Int) - 1)) = true := by simp; omega
  rw [hb] at e4
  have eq0 : opEq (rowD (Mt.cn cs k)) (.tup []) h = some (.bl (decide (Mt.cn cs k = [])), h) := by
    rw [opEq_ok _ (okD_mono (by omega) (tm_ok (tm_row (c := Mt.cn cs k) (by omega)))) (by rfl)]
    cases Mt.cn cs k <;> simp [rowD, eqd, eqds]
  have mi := in_ints (k : Int) (sortI ((found cs d).map fun (x : Nat) => (x : Int))) h
  have ms : decide ((k : Int) ∈ sortI ((found cs d).map fun (x : Nat) => (x : Int))) = decide (k ∈ found cs d) := by
    rw [Bool.eq_iff_iff, decide_eq_true_eq, decide_eq_true_eq]
    exact mem_sorted _ _
  rw [ms] at mi
  simp only [foundD] at e3
  generalize (k : Int) = kk at e4 hc mi ⊢
  simp only [rlD, ltsD, rowsD, rowD] at *
  by_cases c0 : Mt.cn cs k = []
  · rw [c0] at eq0 hc
    simp at eq0 hc
    simp [m_standing_of, b_standing_of, e1, e2, e4, hc, eq0, c0, trR_ok0]
  · simp [c0] at eq0
    by_cases q : k ∈ found cs d
    · simp [q] at mi
      simp [m_standing_of, b_standing_of, e1, e2, e3, e4, hc, eq0, c0, mi, q, trR_ok0]
    · simp [q] at mi
      simp [m_standing_of, b_standing_of, e1, e2, e3, e4, hc, eq0, c0, mi, q, trR_ok0]
/-- a wrong index is refused -/
theorem standing_no (i : In dl (d : Int) qs rs) {x : D} (hx : tm 3 x = true) (hw : isI x = false ∨ ∃ j : Int, x = .int j ∧ (j < 0 ∨ (rs.length : Int) ≤ j)) (h : Hh) : m_standing_of [rlD dl (d : Int), ltsD qs, ltsD rs, x] h = .exc 0 [x, .str "index"] h := by
  have e1 := letters_spec i h
  have e4 : m_is_between [x, .int 0, .int ((rs.length : Int) - 1)] h = .ok (.bl false) h := by
    rw [q_between]
    rcases hw with hw | ⟨j, rfl, hj⟩
    · exact between_no hw hx _ _ h
    · rw [between_int]
      congr 2
      simp
      omega
  rw [← q_letters] at e1
  simp only [rlD, ltsD] at *
  have lx : lo h.length x = true := tm_lo hx
  simp [m_standing_of, b_standing_of, e1, e4, trR_exc0]
end
end Lk34
/-! k34: the law's greedy papers and the crowd -/
namespace Lk34
open PySem L2 PyProof.Rows Sm SmPool
open Lk32 (natD rowD rowsD optD takD rlD ltsD Rl In cands tellD told gr crow room u0 timed cands_len gr_len)
section
variable {cs : List (List Nat)} {d k : Nat}
theorem crow_lo (j : Nat) : crow cs (k : Int) j = Mt.cn (Mc.drp cs k) j := by
  rw [Mc.drp_cn]
  unfold crow
  by_cases h : j = k
  · subst h
    simp
  · have : ¬ ((j : Int) = (k : Int)) := by omega
    rw [if_neg this, if_neg h]
theorem gr_drop : ∀ n, gr cs d (k : Int) (-1) n = Mc.greedy (Mc.drp cs k) (fun _ => d) n
  | 0 => rfl
  | n + 1 => by
    rw [gr, Mc.greedy, gr_drop n, crow_lo]
    have h2 : room d (-1) (Mc.greedy (Mc.drp cs k) (fun _ => d) n) = fun q => decide ((Mc.greedy (Mc.drp cs k) (fun _ => d) n).count (some q) < d) := by
      funext q
      unfold room u0
      rw [if_neg (by omega)]
      simp
    rw [h2]
    rfl
theorem gr_less {q0 : Nat} (h0 : 0 < d) : ∀ n, gr cs d (k : Int) (q0 : Int) n = Mc.greedy (Mc.drp cs k) (Mc.less (fun _ => d) q0) n
  | 0 => rfl
  | n + 1 => by
    rw [gr, Mc.greedy, gr_less h0 n, crow_lo]
    have h2 : room d (q0 : Int) (Mc.greedy (Mc.drp cs k) (Mc.less (fun _ => d) q0) n) = fun q => decide ((Mc.greedy (Mc.drp cs k) (Mc.less (fun _ => d) q0) n).count (some q) < Mc.less (fun _ => d) q0 q) := by
      funext q
      unfold room u0 Mc.less
      by_cases e : q = q0
      · subst e
        simp
        omega
      · have : ¬ ((q : Int) = (q0 : Int)) := by omega
        rw [if_neg this, if_neg e]
        simp
    rw [h2]
    rfl
end
theorem of_timed {C : List (List Nat)} {nq : Nat} {clq clr : Nat → Nat → Prop} {tq tr : Nat → Int} {w : Int} (H : Mt.Timed C nq clq clr tq tr w) : Mc.Timed C nq clq clr tq tr w := ⟨H.mem, H.same, H.inc, H.tqm, H.trm⟩
section
variable {dl : Int} {d : Nat} {qs rs : List Lk32.Lt} {k : Nat}
/-- left out as many: the crowd -/
theorem left_out (i : In dl (d : Int) qs rs) (hk : k < (cands dl qs rs).length) :
    (k ∈ found (cands dl qs rs) d → (gr (cands dl qs rs) d (k : Int) (-1) (cands dl qs rs).length).count none = (told (cands dl qs rs) d).count none) ∧
    (k ∉ found (cands dl qs rs) d → (gr (cands dl qs rs) d (k : Int) (-1) (cands dl qs rs).length).count none = (told (cands dl qs rs) d).count none + 1) := by
  have hl : (cands dl qs rs).length < 100 := by rw [cands_len]; have := i.rl; omega
  have H := of_timed (timed i)
  generalize cands dl qs rs = cs at *
  obtain ⟨v, c⟩ := Mt.matched_ok (C := cs) (d := d) 100 hl
  have v' := Mc.of_vld v
  have c' : Mc.Cert cs (fun _ => d) (Mt.matched cs d 100 cs.length) := Mc.of_cert c
  have hG := gr_drop (cs := cs) (d := d) (k := k) cs.length
  have dlen : (Mc.drp cs k).length = cs.length := Mc.drp_len
  have vG : Mc.Vld (Mc.drp cs k) (fun _ => d) (Mc.greedy (Mc.drp cs k) (fun _ => d) (Mc.drp cs k).length) := Mc.greedy_vld
  have cG := Mc.greedy_cert (d := fun _ => d) (Mc.timed_drp (k := k) H)
  rw [dlen] at vG cG
  rw [hG]
  unfold found told
  rw [Mc.crowd_mem v.len hl]
  exact ⟨fun h => Mc.crowd_in v' c' vG cG h, fun h => Mc.crowd_out v' c' vG cG hk h⟩
/-- given its question ahead -/
theorem kept_out (i : In dl (d : Int) qs rs) (hd : 0 < d) (hk : k < (cands dl qs rs).length) {q0 : Nat} (hq : q0 ∈ Mt.cn (cands dl qs rs) k) (hf : k ∈ found (cands dl qs rs) d) :
    (gr (cands dl qs rs) d (k : Int) (q0 : Int) (cands dl qs rs).length).count none = (told (cands dl qs rs) d).count none + 1 := by
  have hl : (cands dl qs rs).length < 100 := by rw [cands_len]; have := i.rl; omega
  have H := of_timed (timed i)
  generalize cands dl qs rs = cs at *
  obtain ⟨v, c⟩ := Mt.matched_ok (C := cs) (d := d) 100 hl
  have v' := Mc.of_vld v
  have c' : Mc.Cert cs (fun _ => d) (Mt.matched cs d 100 cs.length) := Mc.of_cert c
  have hG := gr_less (cs := cs) (k := k) (q0 := q0) hd cs.length
  have dlen : (Mc.drp cs k).length = cs.length := Mc.drp_len
  have vP : Mc.Vld (Mc.drp cs k) (fun _ => d) (Mc.greedy (Mc.drp cs k) (fun _ => d) (Mc.drp cs k).length) := Mc.greedy_vld
  have cP := Mc.greedy_cert (d := fun _ => d) (Mc.timed_drp (k := k) H)
  have vG : Mc.Vld (Mc.drp cs k) (Mc.less (fun _ => d) q0) (Mc.greedy (Mc.drp cs k) (Mc.less (fun _ => d) q0) (Mc.drp cs k).length) := Mc.greedy_vld
  have cG := Mc.greedy_cert (d := Mc.less (fun _ => d) q0) (Mc.timed_drp (k := k) H)
  rw [dlen] at vG cG vP cP
  rw [hG]
  unfold found told at hf
  rw [Mc.crowd_mem v.len hl] at hf
  exact Mc.open_kept v' c' vP cP hf hk hq hd vG cG
end
end Lk34
/-! k34: who is asked about -/
namespace Lk34
open PySem L2 PyProof.Rows Sm SmPool
open Lk32 (natD scD row_spec3 Bds los_nat z1)
theorem g0 {e0 e1 e4 : Option D} {x0 x1 K : Int} {h : Hh} (hm : mulOk K (1 + x1) = true) : (eB opAdd (eB opIx (eV 2) (eC (.int 0))) (eB opMulA (eV 3) (eB opAdd (eC (.int 1)) (eB opIx (eV 2) (eC (.int 1)))))) [e0, e1, some (.fls [.int x0, .int x1]), some (.int K)] h = .ok (.int (x0 + K * (1 + x1))) h := by
  have ix : ∀ (x y : D), atI [x, y] (0 : Int) = some x ∧ atI [x, y] (1 : Int) = some y := fun x y => ⟨rfl, rfl⟩
  simp [ix, hm]
theorem g1 {a b : M} {env : Ev} {v j m : Int} {h : Hh} (ha : a env h = .ok (.int v) h) (hb : b env h = .ok (.int m) h) (hm : 0 < m) (hj : v % m = j) : (eB opMod (eN opInt [a]) b) env h = .ok (.int j) h := by
  simp [ha, hb, hm, hj]
theorem asked_spec (ns : List Int) {many : Nat} (hm : many ≤ 24) (h : Hh) : ∃ l : List Nat, (∀ x ∈ l, x < many) ∧ l.length ≤ 24 ∧ m__law_asked [scD ns, .int (many : Int)] h = .ok (.fls (l.map natD)) h := by
  have hr : Sm.inR (many : Int) = true := inR_ok (by omega) (by omega)
  by_cases q : many ≤ 8
  · have lc := fz_lcM (i := 3) (m := eV 3) (env := [some (scD ns), some (.int (many : Int)), none, none]) (h := h) natD natD (List.range many) (fun k _ acc => by simp [natD]) (line4k (by rw [List.length_range]; omega)) (los_nat _ _)
    have hx : List.map natD (List.range many) = rngD 0 many := (rngD_range _).symm
    refine ⟨List.range many, fun x hx => by simpa using hx, by rw [List.length_range]; omega, ?_⟩
    rw [hx] at lc ⊢
    have q' : (many : Int) ≤ 8 := by omega
    simp [m__law_asked, b__law_asked, q', hr, lc, trR_ok0]
  · obtain ⟨ds, hb, e⟩ := row_spec3 ns (k := 56) (by omega) (ss := [24, 24]) (by simp) (by simp) h
    rcases hb with _ | ⟨a0, a1, hb⟩
    rcases hb with _ | ⟨b0, b1, hb⟩
    cases hb
    rename_i x0 x1
    simp at e
    rw [← q_row] at e
    have hpos : (0 : Int) < (many : Int) := by omega
    let f : Nat → Nat := fun k => ((x0 + (k : Int) * (1 + x1)) % (many : Int)).toNat
    have hf : ∀ k : Nat, ∃ j : Int, (x0 + (k : Int) * (1 + x1)) % (many : Int) = j ∧ ((f k : Nat) : Int) = j ∧ f k < many := fun k => by
      refine ⟨_, rfl, ?_, ?_⟩
      · have := Int.emod_nonneg (x0 + (k : Int) * (1 + x1)) (Int.ne_of_gt hpos)
        exact Int.toNat_of_nonneg this
      · have h1 := Int.emod_nonneg (x0 + (k : Int) * (1 + x1)) (Int.ne_of_gt hpos)
        have h2 := Int.emod_lt_of_pos (x0 + (k : Int) * (1 + x1)) hpos
        show ((x0 + (k : Int) * (1 + x1)) % (many : Int)).toNat < many
        generalize (x0 + (k : Int) * (1 + x1)) % (many : Int) = w at h1 h2
        omega
    have lc := fz_lcM (i := 3) (m := eB opMod (eN opInt [(eB opAdd (eB opIx (eV 2) (eC (.int 0))) (eB opMulA (eV 3) (eB opAdd (eC (.int 1)) (eB opIx (eV 2) (eC (.int 1))))))]) (eV 1)) (env := [some (scD ns), some (.int (many : Int)), some (.fls [.int x0, .int x1]), none]) (h := h) natD (fun k => natD (f k)) (List.range 5) (fun k hk acc => by
      obtain ⟨j, j1, j2, _⟩ := hf k
      have hmm : mulOk (k : Int) (1 + x1) = true := mulOk_r (by omega) (by omega)
      have := g1 (b := eV 1) (g0 (e0 := some (scD ns)) (e1 := some (.int (many : Int))) (e4 := none) (x0 := x0) (h := h ++ [.lst acc]) hmm) (by simp) hpos j1
      rw [← j2] at this
      exact this) (line4k (by simp)) (by simp [los_all, natD])
    have hx : List.map natD (List.range 5) = rngD 0 5 := (rngD_range _).symm
    refine ⟨(List.range 5).map f, fun x hx => ?_, by simp, ?_⟩
    · obtain ⟨k, _, rfl⟩ := List.mem_map.mp hx
      exact (hf k).choose_spec.2.2
    · rw [hx] at lc
      have q' : ¬ (many : Int) ≤ 8 := by omega
      have hi : Sm.inR (5 : Int) = true := by decide
      rw [List.map_map]
      have lc' : (List.range 5).map (fun k => natD (f k)) = (List.range 5).map (natD ∘ f) := rfl
      rw [lc'] at lc
      generalize (List.range 5).map (natD ∘ f) = N at lc ⊢
      simp [m__law_asked, b__law_asked, q', e, hi, lc, trR_ok0]
end Lk34
/-! k34: a wrong index is refused -/
namespace Lk34
open PySem L2 PyProof.Rows Sm SmPool
open Lk32 (rlD ltsD Rl In isI)
theorem refuses_spec {dl : Int} {d : Nat} {qs rs : List Lk32.Lt} (i : In dl (d : Int) qs rs) {x : D} (hx : tm 3 x = true) (hr : eqd x x = true) (hw : isI x = false ∨ ∃ j : Int, x = .int j ∧ (j < 0 ∨ (rs.length : Int) ≤ j)) (h : Hh) :
    m__law_refuses_index [rlD dl (d : Int), ltsD qs, ltsD rs, x] h = .ok (.bl true) h := by
  have e1 := standing_no i hx hw h
  have ok : okD 60 x = true := okD_mono (by omega) (tm_ok hx)
  have e2 : opEq x x h = some (.bl true, h) := by rw [opEq_ok h ok ok, hr]
  have e3 : opEq (.str "index") (.str "index") h = some (.bl true, h) := by simp
  have mt : mtab 0 0 = some true := rfl
  simp [m__law_refuses_index, b__law_refuses_index, e1, e2, e3, mt, trR_ok0]
end Lk34
/-! k34: right papers -/
namespace Lk34
open PySem L2 PyProof.Rows Sm SmPool
open Lk32 (natD optD takD tellD paperL okL okA isNon cntE cntE_tak gr)
theorem right_of {cs : List (List Nat)} {d : Nat} {G : Mt.Tk} (len : G.length = cs.length) (cand : ∀ x q, G[x]? = some (some q) → q ∈ Mt.cn cs x) (few : ∀ q, G.count (some q) ≤ d) : paperL cs d (tellD G) = true := by
  have hl : (takD G).length = cs.length := by
    unfold takD
    rw [List.length_map, len]
  unfold tellD paperL
  dsimp only
  rw [hl]
  simp only [decide_true, Bool.true_and, List.all_eq_true, List.mem_range]
  intro k hk
  obtain ⟨o, eo⟩ : ∃ o, G[k]? = some o := ⟨_, List.getElem?_eq_getElem (by omega)⟩
  have ex : (takD G).getD k .non = optD o := by
    rw [List.getD_eq_getElem?_getD]
    unfold takD
    rw [List.getElem?_map, eo]
    rfl
  rw [ex]
  unfold okL
  cases o with
  | none => rfl
  | some q =>
    have h1 := cand k q eo
    have h2 := few q
    have h3 := cntE_tak G q
    have h4 : okA (Mt.cn cs k) (natD q) = true := by
      simp only [okA, natD, decide_eq_true_eq, List.mem_map]
      exact ⟨q, h1, rfl⟩
    show (isNon (natD q) || (okA _ (natD q) && decide (cntE _ (natD q) ≤ d))) = true
    rw [h4, h3]
    simp [h2]
section
variable {cs : List (List Nat)} {d k : Nat}
/-- with one left out -/
theorem right_drop : paperL cs d (tellD (gr cs d (k : Int) (-1) cs.length)) = true := by
  have v : Mc.Vld (Mc.drp cs k) (fun _ => d) (Mc.greedy (Mc.drp cs k) (fun _ => d) (Mc.drp cs k).length) := Mc.greedy_vld
  rw [Mc.drp_len] at v
  rw [gr_drop]
  have u := Mc.vld_up v
  exact right_of u.len u.cand u.few
/-- .. and given its question ahead -/
theorem right_kept {q0 : Nat} (hd : 0 < d) (hk : k < cs.length) (hq : q0 ∈ Mt.cn cs k) : (gr cs d (k : Int) (q0 : Int) cs.length)[k]? = some none ∧ paperL cs d (tellD ((gr cs d (k : Int) (q0 : Int) cs.length).set k (some q0))) = true := by
  have v : Mc.Vld (Mc.drp cs k) (Mc.less (fun _ => d) q0) (Mc.greedy (Mc.drp cs k) (Mc.less (fun _ => d) q0) (Mc.drp cs k).length) := Mc.greedy_vld
  rw [Mc.drp_len] at v
  rw [gr_less hd]
  generalize Mc.greedy (Mc.drp cs k) (Mc.less (fun _ => d) q0) cs.length = G at v ⊢
  have hGl : G.length = cs.length := by rw [v.len, Mc.drp_len]
  have hkG : k < G.length := by omega
  have hGk : G[k]? = some none := by
    obtain ⟨o, e⟩ : ∃ o, G[k]? = some o := ⟨_, List.getElem?_eq_getElem hkG⟩
    cases o with
    | none => exact e
    | some q => exact absurd rfl (Mc.drp_sub (v.cand k q e)).1
  have gk : G[k] = none := by
    rw [List.getElem?_eq_getElem hkG] at hGk
    exact Option.some.inj hGk
  refine ⟨hGk, right_of (by rw [List.length_set, hGl]) (fun x q e => ?_) fun q => ?_⟩
  · by_cases h : x = k
    · subst h
      rw [List.getElem?_set_self hkG] at e
      cases e
      exact hq
    · rw [List.getElem?_set_ne (fun z => h z.symm)] at e
      exact (Mc.drp_sub (v.cand x q e)).2
  · rw [List.count_set hkG, gk]
    have := v.few q
    by_cases z : q0 = q
    · subst z
      have e1 : Mc.less (fun _ => d) q0 q0 = d - 1 := by simp [Mc.less]
      rw [e1] at this
      simp
      omega
    · have e1 : Mc.less (fun _ => d) q0 q = d := by
        unfold Mc.less
        rw [if_neg (fun w => z w.symm)]
      rw [e1] at this
      simp [z]
      exact this
end
end Lk34
/-! k34: _law_is_open -/
namespace Lk34
open PySem L2 PyProof.Rows Sm SmPool
open Lk32 (natD rowD rowsD optD takD tellD told paperL gr gr_len rlD ltsD Rl In cands cands_len cands_lt greedy_spec law_forged_spec attr_spec atRows Tm tak_mem swp)
theorem swp_set {T : Mt.Tk} {k q0 : Nat} (hk : k < T.length) : swp (takD T) (k : Int) (natD q0) = takD (T.set k (some q0)) := by
  unfold swp
  have h1 : Sm.cutD (takD T) none (some (k : Int)) = (takD T).take k := cut_to
  have h2 : Sm.cutD (takD T) (some ((k : Int) + 1)) none = (takD T).drop (k + 1) := by
    have := cut_from (xs := takD T) (n := k + 1)
    push_cast at this
    exact this
  rw [h1, h2]
  unfold takD
  rw [List.map_set, List.set_eq_take_append_cons_drop, if_pos (by simpa using hk)]
  simp [optD]
theorem cnt_set_some {T : Mt.Tk} {k q0 : Nat} (hk : T[k]? = some none) : (T.set k (some q0)).count none + 1 = T.count none := by
  obtain ⟨hl, e⟩ := List.getElem?_eq_some_iff.mp hk
  rw [List.count_set hl, e]
  have : 0 < T.count none := List.count_pos_iff.mpr (List.mem_of_getElem? hk)
  simp
  omega
section
variable {dl : Int} {d : Nat} {qs rs : List Lk32.Lt} {k q0 : Nat}
theorem open_spec (i : In dl (d : Int) qs rs) (hk : k < rs.length) {c : List Nat} (hc : Mt.cn (cands dl qs rs) k = q0 :: c) (hf : k ∈ found (cands dl qs rs) d) (h : Hh) :
    m__law_is_open [rlD dl (d : Int), ltsD qs, ltsD rs, rowsD (cands dl qs rs), .int (k : Int), .int ((told (cands dl qs rs) d).count none : Nat)] h = .ok (.bl true) h := by
  have hd : 0 < d := by have := i.r.b0; omega
  have hkc : k < (cands dl qs rs).length := by rw [cands_len]; exact hk
  have hl24 : (cands dl qs rs).length ≤ 24 := by rw [cands_len]; exact i.rl
  have hq : q0 ∈ Mt.cn (cands dl qs rs) k := by rw [hc]; simp
  have g1 := greedy_spec (cs := cands dl qs rs) (many := qs.length) (d := d) (lo := (k : Int)) (tk := -1) (fun x q hq => cands_lt dl qs rs x q hq) (by have := i.ql; omega) (by omega) h
  have g2 := greedy_spec (cs := cands dl qs rs) (many := qs.length) (d := d) (lo := (k : Int)) (tk := (q0 : Int)) (fun x q hq => cands_lt dl qs rs x q hq) (by have := i.ql; omega) (by omega) h
  have c1 := (left_out i hkc).1 hf
  have c2 := kept_out i hd hkc hq hf
  obtain ⟨kn, r2⟩ := right_kept (cs := cands dl qs rs) hd hkc hq
  have r1 := right_drop (cs := cands dl qs rs) (d := d) (k := k)
  have hrow := atRows hkc
  rw [hc] at hrow
  obtain ⟨G1, e1⟩ : ∃ G1, G1 = gr (cands dl qs rs) d (k : Int) (-1) (cands dl qs rs).length := ⟨_, rfl⟩
  obtain ⟨G2, e2⟩ : ∃ G2, G2 = gr (cands dl qs rs) d (k : Int) (q0 : Int) (cands dl qs rs).length := ⟨_, rfl⟩
  have l1 : G1.length = (cands dl qs rs).length := by rw [e1, gr_len]
  have l2 : G2.length = (cands dl qs rs).length := by rw [e2, gr_len]
  rw [← e1] at g1 c1 r1
  rw [← e2] at g2 c2 kn r2
  have c3 := cnt_set_some (q0 := q0) kn
  have c4 : (G2.set k (some q0)).count none = (told (cands dl qs rs) d).count none := by omega
  have sw := swp_set (T := G2) (k := k) (q0 := q0) (by omega)
  have f1 := law_forged_spec G1 (by omega) h
  have f2 := law_forged_spec (G2.set k (some q0)) (by rw [List.length_set]; omega) h
  have a1 := attr_spec i (p := tellD G1) (Tm.tup ⟨tak_mem, by simp [takD]; omega⟩) h
  have a2 := attr_spec i (p := tellD (G2.set k (some q0))) (Tm.tup ⟨tak_mem, by simp [takD]; omega⟩) h
  rw [r1] at a1
  rw [r2] at a2
  rw [c1] at f1
  rw [c4] at f2
  rw [← q_greedy] at g1 g2
  rw [← q_forged] at f1 f2
  rw [← q_isattr] at a1 a2
  generalize (told (cands dl qs rs) d).count none = N at f1 f2 ⊢
  generalize hS : G2.set k (some q0) = S2 at *
  generalize cands dl qs rs = cs at *
  have cc1 := (Lk32.cut_sub (xs := takD G2) none (some (k : Int))).2
  have cc2 := (Lk32.cut_sub (xs := takD G2) (some ((k : Int) + 1)) none).2
  have lt : (takD G2).length = G2.length := by simp [takD]
  have z1 : (Sm.cutD (takD G2) none (some (k : Int))).length + 1 ≤ sizeLine := line4k (by omega)
  have z2 : (Sm.cutD (takD G2) none (some (k : Int))).length + (1 + (Sm.cutD (takD G2) (some ((k : Int) + 1)) none).length) ≤ sizeLine := line4k (by omega)
  have z3 : (Sm.cutD (takD G2) none (some (k : Int))).length + 1 + (Sm.cutD (takD G2) (some ((k : Int) + 1)) none).length ≤ sizeLine := line4k (by omega)
  unfold swp at sw
  have ad : atI [D.int dl, D.int (d : Int)] (1 : Int) = some (.int (d : Int)) := by rw [atI_pos (by omega)]; rfl
  have a0 : ∀ (x : D) (xs : List D), atI (x :: xs) (0 : Int) = some x := fun x xs => by rw [atI_pos (by omega)]; rfl
  simp only [natD, List.append_assoc] at sw
  simp only [rowD, List.map_cons, natD] at hrow
  simp only [rlD, ltsD, rowsD, tellD] at *
  generalize (k : Int) = kk at *
  simp at sw
  simp [m__law_is_open, b__law_is_open, ad, g1, g2, hrow, a0, z1, z2, z3, sw, f1, f2, a1, a2, trR_ok0]
end
end Lk34
/-! k34: the law -/
namespace Lk34
open PySem L2 PyProof.Rows Sm SmPool
open Lk32 (natD rowD rowsD optD takD tellD told gr gr_len rlD ltsD Rl In cands cands_len cands_lt candRow candRow_len cands_cn greedy_spec law_forged_spec attribute_spec least_forged_spec law_cands_spec atRows atT forged_eq scD poD Po rules_spec pools_spec base_spec letters_spec' row_spec3 number_spec Bds isI tm_row)
theorem sizes_spec (ns : List Int) (h : Hh) : ∃ x0 x1 x2 x3 x4 : Int, 0 ≤ x0 ∧ x0 < 7 ∧ 0 ≤ x1 ∧ x1 < 9 ∧ 0 ≤ x3 ∧ x3 < 25 ∧ 0 ≤ x4 ∧ x4 < 25 ∧ m__law_row [scD ns, .int 5, .fls [.int 7, .int 9, .int 10, .int 25, .int 25]] h = .ok (.fls [.int x0, .int x1, .int x2, .int x3, .int x4]) h := by
  obtain ⟨ds, hb, e⟩ := row_spec3 ns (k := 5) (by omega) (ss := [7, 9, 10, 25, 25]) (by simp) (by simp) h
  rcases hb with _ | ⟨a0, a1, hb⟩
  rcases hb with _ | ⟨b0, b1, hb⟩
  rcases hb with _ | ⟨c0, c1, hb⟩
  rcases hb with _ | ⟨d0, d1, hb⟩
  rcases hb with _ | ⟨f0, f1, hb⟩
  cases hb
  rename_i x0 x1 x2 x3 x4
  simp at e
  rw [← q_row] at e
  exact ⟨x0, x1, x2, x3, x4, a0, a1, b0, b1, d0, d1, f0, f1, e⟩
/-- one that is left out by the program's paper has no place with candidates that are genuine -/
theorem told_some {cs : List (List Nat)} {d k : Nat} (hl : cs.length < 100) (hk : k < cs.length) (hf : k ∉ found cs d) : ∃ q, (told cs d)[k]? = some (some q) := by
  have v := (Mt.matched_ok (C := cs) (d := d) 100 hl).1
  have hkl : k < (told cs d).length := by unfold told; rw [v.len]; exact hk
  obtain ⟨o, e⟩ : ∃ o, (told cs d)[k]? = some o := ⟨_, List.getElem?_eq_getElem hkl⟩
  cases o with
  | some q => exact ⟨q, e⟩
  | none =>
    exfalso
    apply hf
    unfold found
    rw [Mc.crowd_mem (by unfold told; exact v.len) hl]
    exact .root e
theorem told_none {cs : List (List Nat)} {d k : Nat} (hl : cs.length < 100) (hk : k < cs.length) (hc : Mt.cn cs k = []) : (told cs d)[k]? = some none := by
  have v := (Mt.matched_ok (C := cs) (d := d) 100 hl).1
  have hkl : k < (told cs d).length := by unfold told; rw [v.len]; exact hk
  obtain ⟨o, e⟩ : ∃ o, (told cs d)[k]? = some o := ⟨_, List.getElem?_eq_getElem hkl⟩
  cases o with
  | none => exact e
  | some q =>
    have := v.cand k q e
    rw [hc] at this
    simp at this
section
variable {dl : Int} {d : Nat} {qs rs : List Lk32.Lt}
theorem law_turn (i : In dl (d : Int) qs rs) {k : Nat} (hk : k < rs.length) {e0 e2 e3 e4 e12 e13 : Option D} {m1 : D} (h : Hh) :
    ∃ e13', b_law_1 [e0, some (rlD dl (d : Int)), e2, e3, e4, some (.fls [.int (qs.length : Int), m1]), some (ltsD qs), some (ltsD rs), some (rowsD (cands dl qs rs)), some (.int ((told (cands dl qs rs) d).count none : Nat)), some (tellD (told (cands dl qs rs) d)), some (natD k), e12, e13] h =
      .nx [e0, some (rlD dl (d : Int)), e2, e3, e4, some (.fls [.int (qs.length : Int), m1]), some (ltsD qs), some (ltsD rs), some (rowsD (cands dl qs rs)), some (.int ((told (cands dl qs rs) d).count none : Nat)), some (tellD (told (cands dl qs rs) d)), some (natD k), e12, e13'] h := by
  have hkc : k < (cands dl qs rs).length := by rw [cands_len]; exact hk
  have hl24 : (cands dl qs rs).length ≤ 24 := by rw [cands_len]; exact i.rl
  have st := standing_spec i hk h
  have hrow := atRows hkc
  have hcl := cands_cn (dl := dl) (rs := rs) i.ql k
  have g1 := greedy_spec (cs := cands dl qs rs) (many := qs.length) (d := d) (lo := (k : Int)) (tk := -1) (fun x q hq => cands_lt dl qs rs x q hq) (by have := i.ql; omega) (by omega) h
  have lo1 := left_out i hkc
  have f1 := law_forged_spec (gr (cands dl qs rs) d (k : Int) (-1) (cands dl qs rs).length) (by rw [gr_len]; omega) h
  have op : ∀ q0 c, Mt.cn (cands dl qs rs) k = q0 :: c → k ∈ found (cands dl qs rs) d → _ := fun q0 c hc hf => open_spec (q0 := q0) i hk hc hf h
  have tn := told_none (cs := cands dl qs rs) (d := d) (k := k) (by omega) hkc
  have ts := told_some (cs := cands dl qs rs) (d := d) (k := k) (by omega) hkc
  rw [← q_greedy] at g1
  rw [← q_forged] at f1
  unfold standS at st
  have ix2 : ∀ (x y : D), atI [x, y] (0 : Int) = some x ∧ atI [x, y] (1 : Int) = some y := fun x y => ⟨rfl, rfl⟩
  have eq0 : opEq (rowD (Mt.cn (cands dl qs rs) k)) (.tup []) h = some (.bl (decide (Mt.cn (cands dl qs rs) k = [])), h) := by
    rw [opEq_ok _ (okD_mono (by omega) (tm_ok (tm_row (c := Mt.cn (cands dl qs rs) k) (by omega)))) (by rfl)]
    cases Mt.cn (cands dl qs rs) k <;> simp [rowD, eqd, eqds]
  generalize cands dl qs rs = cs at *
  cases hc : Mt.cn cs k with
  | nil =>
    have a1 := atT (tn hc)
    rw [hc] at st hrow eq0
    simp at st eq0
    refine ⟨some (.str "forged"), ?_⟩
    simp only [rlD, ltsD, rowsD, rowD, tellD, natD, optD] at *
    generalize (k : Int) = kk at *
    simp at hrow eq0
    simp [b_law_1, st, hrow, eq0, a1]
  | cons q0 c =>
    rw [hc] at st hrow eq0
    simp at st eq0
    by_cases hf : k ∈ found cs d
    · have o1 := op q0 c hc hf
      rw [lo1.1 hf] at f1
      rw [if_pos hf] at st
      refine ⟨some (.str "open"), ?_⟩
      generalize (told cs d).count none = N at *
      simp only [rlD, ltsD, rowsD, rowD, tellD, natD] at *
      generalize (k : Int) = kk at *
      simp at hrow eq0
      simp [b_law_1, st, hrow, eq0, ix2, g1, f1, o1]
    · obtain ⟨q, hq⟩ := ts hf
      have a1 := atT hq
      rw [lo1.2 hf] at f1
      rw [if_neg hf] at st
      refine ⟨some (.str "genuine"), ?_⟩
      have ne : ¬ (((told cs d).count none + 1 : Nat) : Int) = (((told cs d).count none : Nat) : Int) := by omega
      generalize (((told cs d).count none + 1 : Nat) : Int) = N1 at *
      generalize (((told cs d).count none : Nat) : Int) = N at *
      simp only [rlD, ltsD, rowsD, rowD, tellD, natD, optD] at *
      generalize (k : Int) = kk at *
      simp at hrow eq0
      simp [b_law_1, st, hrow, eq0, ix2, g1, f1, ne, a1]
end
end Lk34
/-! k34: the law, put together -/
namespace Lk34
open PySem L2 PyProof.Rows Sm SmPool
open Lk32 (natD rowD rowsD optD takD tellD told gr gr_len rlD ltsD Rl In cands cands_len cands_lt candRow candRow_len cands_cn greedy_spec law_forged_spec attribute_spec least_forged_spec law_cands_spec forged_eq scD poD Po rules_spec pools_spec base_spec letters_spec' row_spec3 number_spec isI)
theorem main : ∀ ns : List Int, ns.length ≤ 63 → ∃ h', m_law [.fls (ns.map D.int)] [] = .ok (.bl true) h' := by
  intro ns _
  obtain ⟨dl, d, R, e1⟩ := rules_spec ns []
  obtain ⟨P, gP, e2⟩ := pools_spec ns []
  obtain ⟨b, b0, b1, e3⟩ := base_spec ns R.d0 R.d1 []
  obtain ⟨x0, x1, x2, x3, x4, a0, a1, a2, a3, a4, a5, a6, a7, e4⟩ := sizes_spec ns []
  have ix5 : ∀ (x0 x1 x2 x3 x4 : D), atI [x0, x1, x2, x3, x4] (0 : Int) = some x0 ∧ atI [x0, x1, x2, x3, x4] (1 : Int) = some x1 ∧ atI [x0, x1, x2, x3, x4] (2 : Int) = some x2 ∧ atI [x0, x1, x2, x3, x4] (3 : Int) = some x3 ∧ atI [x0, x1, x2, x3, x4] (4 : Int) = some x4 := fun _ _ _ _ _ => ⟨rfl, rfl, rfl, rfl, rfl⟩
  have ix2 : ∀ (x0 x1 : D), atI [x0, x1] (0 : Int) = some x0 ∧ atI [x0, x1] (1 : Int) = some x1 := fun _ _ => ⟨rfl, rfl⟩
  obtain ⟨m0, m1, hm0, hm1, cnt⟩ : ∃ m0 m1 : Nat, m0 ≤ 24 ∧ m1 ≤ 24 ∧ ∀ rest : S, sSeq (sSet 5 (eLstF [(eB opIx (eV 4) (eC (.int 0))), (eB opIx (eV 4) (eC (.int 1)))])) (sSeq (sIf (tBl (eB opEq (eB opIx (eV 4) (eC (.int 2))) (eC (.int 0)))) (sSet 5 (eLstF [(eB opIx (eV 4) (eC (.int 3))), (eB opIx (eV 4) (eC (.int 4)))])) sSkip) rest) [some (scD ns), some (rlD dl (d : Int)), some (poD P), some (.int b), some (.fls [.int x0, .int x1, .int x2, .int x3, .int x4]), none, none, none, none, none, none, none, none, none] [] =
      rest [some (scD ns), some (rlD dl (d : Int)), some (poD P), some (.int b), some (.fls [.int x0, .int x1, .int x2, .int x3, .int x4]), some (.fls [.int (m0 : Int), .int (m1 : Int)]), none, none, none, none, none, none, none, none] [] := by
    by_cases q : x2 = 0
    · obtain ⟨m0, h0⟩ : ∃ m : Nat, (m : Int) = x3 := ⟨x3.toNat, by omega⟩
      obtain ⟨m1, h1⟩ : ∃ m : Nat, (m : Int) = x4 := ⟨x4.toNat, by omega⟩
      refine ⟨m0, m1, by omega, by omega, fun rest => ?_⟩
      rw [h0, h1]
      simp [ix5, q]
    · obtain ⟨m0, h0⟩ : ∃ m : Nat, (m : Int) = x0 := ⟨x0.toNat, by omega⟩
      obtain ⟨m1, h1⟩ : ∃ m : Nat, (m : Int) = x1 := ⟨x1.toNat, by omega⟩
      refine ⟨m0, m1, by omega, by omega, fun rest => ?_⟩
      rw [h0, h1]
      simp [ix5, q]
  obtain ⟨qs, gq, sq, lq, e5⟩ := letters_spec' ns gP (at_ := 8) (many := m0) (sl := 3) (by omega) R.d0 R.d1 (by omega) (by omega) b0 b1 []
  obtain ⟨rs, gr', sr, lr, e6⟩ := letters_spec' ns gP (at_ := 32) (many := m1) (sl := 5) (by omega) R.d0 R.d1 (by omega) (by omega) b0 b1 []
  have I : In dl (d : Int) qs rs := ⟨R, gq, gr', sq, sr, by omega, by omega⟩
  have cl : (cands dl qs rs).length = rs.length := cands_len dl qs rs
  have cl24 : (cands dl qs rs).length ≤ 24 := by rw [cl]; exact I.rl
  have e7 := law_cands_spec I []
  have e10 := greedy_spec (cs := cands dl qs rs) (many := m0) (d := d) (lo := -1) (tk := -1) (fun x q hq => by have := cands_lt dl qs rs x q hq; omega) (by omega) (by omega) []
  have e11 := attribute_spec I []
  have v := (Mt.matched_ok (C := cands dl qs rs) (d := d) 100 (by omega)).1
  have hto : (told (cands dl qs rs) d).length = rs.length := by unfold told; rw [v.len, cl]
  have e15 := law_forged_spec (gr (cands dl qs rs) d (-1) (-1) (cands dl qs rs).length) (by rw [gr_len]; omega) []
  have e16 := least_forged_spec I (by omega) []
  rw [← forged_eq I] at e15
  obtain ⟨l, hl1, hl2, e17⟩ := asked_spec ns hm1 []
  have turn : ∀ k, k < rs.length → ∀ (e12 e13 : Option D), ∃ e13', _ := fun k hk e12 e13 => law_turn I hk (e0 := some (scD ns)) (e2 := some (poD P)) (e3 := some (.int b)) (e4 := some (.fls [.int x0, .int x1, .int x2, .int x3, .int x4])) (e12 := e12) (e13 := e13) (m1 := .int (m1 : Int)) []
  rw [lq] at turn
  obtain ⟨w, w0, w1, e18⟩ := number_spec ns (k := 57) (by omega) (most := 8) (by omega) []
  obtain ⟨wr, tw, rw_, iw, aw⟩ : ∃ x : D, tm 3 x = true ∧ eqd x x = true ∧ (isI x = false ∨ ∃ j : Int, x = .int j ∧ (j < 0 ∨ (rs.length : Int) ≤ j)) ∧ atI [D.int (m1 : Int), .int (-1), .bl true, .non, .str "0", .tup [.int 0], .bl false, .fls [.int 0]] w = some x := by
    have : w = 0 ∨ w = 1 ∨ w = 2 ∨ w = 3 ∨ w = 4 ∨ w = 5 ∨ w = 6 ∨ w = 7 := by omega
    rcases this with rfl | rfl | rfl | rfl | rfl | rfl | rfl | rfl
    · exact ⟨_, rfl, by simp [eqd], .inr ⟨_, rfl, .inr (by omega)⟩, rfl⟩
    · exact ⟨_, rfl, by simp [eqd], .inr ⟨_, rfl, .inl (by omega)⟩, rfl⟩
    · exact ⟨_, rfl, by simp [eqd], .inl rfl, rfl⟩
    · exact ⟨_, rfl, by simp [eqd], .inl rfl, rfl⟩
    · exact ⟨.str "0", by decide +kernel, by simp [eqd], .inl rfl, rfl⟩
    · exact ⟨.tup [.int 0], by decide +kernel, by simp [eqd, eqds], .inl rfl, rfl⟩
    · exact ⟨_, rfl, by simp [eqd], .inl rfl, rfl⟩
    · exact ⟨.fls [.int 0], by decide +kernel, by simp [eqd, eqds], .inl rfl, rfl⟩
  have e19 := refuses_spec I tw rw_ iw []
  have loop : ∀ (l : List Nat) (e12 e13 : Option D), (∀ x ∈ l, x < m1) → ∃ e11' e13', ∀ e11 : Option D, l ≠ [] → forL (gtName 11) b_law_1 none (l.map natD) [some (scD ns), some (rlD dl (d : Int)), some (poD P), some (.int b), some (.fls [.int x0, .int x1, .int x2, .int x3, .int x4]), some (.fls [.int (m0 : Int), .int (m1 : Int)]), some (ltsD qs), some (ltsD rs), some (rowsD (cands dl qs rs)), some (.int ((told (cands dl qs rs) d).count none : Nat)), some (tellD (told (cands dl qs rs) d)), e11, e12, e13] [] =
      .nx [some (scD ns), some (rlD dl (d : Int)), some (poD P), some (.int b), some (.fls [.int x0, .int x1, .int x2, .int x3, .int x4]), some (.fls [.int (m0 : Int), .int (m1 : Int)]), some (ltsD qs), some (ltsD rs), some (rowsD (cands dl qs rs)), some (.int ((told (cands dl qs rs) d).count none : Nat)), some (tellD (told (cands dl qs rs) d)), e11', e12, e13'] [] := by
    intro l
    induction l with
    | nil => intro e12 e13 _; exact ⟨none, e13, fun _ h => absurd rfl h⟩
    | cons k l ih =>
      intro e12 e13 hl
      obtain ⟨f13, st⟩ := turn k (by have := hl k (by simp); omega) e12 e13
      obtain ⟨g11, g13, ih⟩ := ih e12 f13 (fun x hx => hl x (by simp [hx]))
      by_cases hn : l = []
      · subst hn
        refine ⟨some (natD k), f13, fun e11 _ => ?_⟩
        rw [List.map_cons, forL_nx (gd := none) trivial rfl st, List.map_nil, forL_nil (gd := none) trivial]
      · refine ⟨g11, g13, fun e11 _ => ?_⟩
        rw [List.map_cons, forL_nx (gd := none) trivial rfl st]
        exact ih _ hn
  have lp : ∃ e11 e13, forL (gtName 11) b_law_1 none (l.map natD) [some (scD ns), some (rlD dl (d : Int)), some (poD P), some (.int b), some (.fls [.int x0, .int x1, .int x2, .int x3, .int x4]), some (.fls [.int (m0 : Int), .int (m1 : Int)]), some (ltsD qs), some (ltsD rs), some (rowsD (cands dl qs rs)), some (.int ((told (cands dl qs rs) d).count none : Nat)), some (tellD (told (cands dl qs rs) d)), none, none, none] [] =
      .nx [some (scD ns), some (rlD dl (d : Int)), some (poD P), some (.int b), some (.fls [.int x0, .int x1, .int x2, .int x3, .int x4]), some (.fls [.int (m0 : Int), .int (m1 : Int)]), some (ltsD qs), some (ltsD rs), some (rowsD (cands dl qs rs)), some (.int ((told (cands dl qs rs) d).count none : Nat)), some (tellD (told (cands dl qs rs) d)), e11, none, e13] [] := by
    by_cases hn : l = []
    · subst hn
      exact ⟨none, none, by rw [List.map_nil, forL_nil (gd := none) trivial]⟩
    · obtain ⟨e11, e13, h⟩ := loop l none none hl1
      exact ⟨e11, e13, h none hn⟩
  obtain ⟨f11, f13, lp⟩ := lp
  refine ⟨[], ?_⟩
  have e5' : m__law_letters [scD ns, .int 8, .int (m0 : Int), poD P, .int b, .int dl, .int 3] [] = .ok (ltsD qs) [] := e5
  have e6' : m__law_letters [scD ns, .int 32, .int (m1 : Int), poD P, .int b, .int dl, .int 5] [] = .ok (ltsD rs) [] := e6
  have hlenI : ((takD (told (cands dl qs rs) d)).length : Int) = (m1 : Int) := by simp [takD]; omega
  rw [← q_rules] at e1
  rw [← q_pools] at e2
  rw [← q_base] at e3
  rw [← q_lcands] at e7
  rw [← q_greedy] at e10
  rw [← q_attribute] at e11
  rw [← q_forged] at e15
  rw [← q_least] at e16
  rw [← q_number] at e18
  show m_law [scD ns] [] = _
  generalize (told (cands dl qs rs) d).count none = N at *
  generalize gr (cands dl qs rs) d (-1) (-1) (cands dl qs rs).length = G at *
  generalize hTT : takD (told (cands dl qs rs) d) = TT at *
  simp only [rlD, tellD, hTT] at *
  simp at e18
  simp [m_law, b_law, e1, e2, e3, e4, ↓cnt, ix2, e5', e6', e7, e10, e11, e15, e16, e17, hlenI, lp, e18, aw, e19, trR_ok0]
end Lk34
namespace Lk34
open PySem L2 PyProof.Rows Sm
open NdefX
abbrev si_BadRules : Stmt := mth (top 2) 0
abbrev nf_BadRules (cc cda : Addr) : NF := ⟨"__init__", "BadRules.__init__", defArgs si_BadRules, defBody si_BadRules, defScope si_BadRules, [("__class__", cc)], cda⟩
theorem err_mk_BadRules {l : PySem.W.OpenLaw} {w : World} {K : PySem.W.Frag} {h : Heap} {mg : Str → Option Value} {base : Heap} {G : Cl} (X : K.In h) (Gm : h.Ns mainGlobals mg)
  {C_BadRules fI_BadRules cc_BadRules cda_BadRules N_BadRules : Addr} {nm_BadRules q_BadRules : Str} {bs_BadRules bm_BadRules : List Value} {sn_BadRules : List Str} {sub_BadRules : List Value} {ab_BadRules : Bool} {col_BadRules : Option Bool} {dd_BadRules od2_BadRules an2_BadRules cld_BadRules cdd_BadRules : Option Addr} {m0_BadRules m1_BadRules m2_BadRules m3_BadRules m5_BadRules : Option Value} {kV2_BadRules doc2_BadRules pm2_BadRules ct2_BadRules oc2_BadRules cl_BadRules ccl_BadRules : Value} {osl_BadRules csl_BadRules ccs_BadRules : Array (Option Value)} {vs_BadRules : Array Value} {file_BadRules : Str} {tf_BadRules : Tok} {cdD_BadRules : ClassData}
  (aC_BadRules : PySem.W.nsIn K mainGlobals "BadRules" = some (some (.ref C_BadRules)))
  (xC_BadRules : K.lookup C_BadRules = some (PySem.excClassObj nm_BadRules q_BadRules C_BadRules N_BadRules bs_BadRules bm_BadRules true sn_BadRules sub_BadRules ab_BadRules col_BadRules dd_BadRules m0_BadRules m1_BadRules m2_BadRules m3_BadRules m5_BadRules "ValueError.__new__"))
  (sa_BadRules : PySem.W.findIn K (.ref C_BadRules) "__setattr__" = some (some (.builtin "object.__setattr__")))
  (eC_BadRules : PySem.W.subIn K (.ref C_BadRules) (.type "BaseException") = some true)
  (tC_BadRules : PySem.W.typeIn K (.ref C_BadRules) = some (.type "type"))
  (kC_BadRules : PySem.W.keepIn K (.ref C_BadRules) = true)
  (iC_BadRules : PySem.W.findIn K (.ref C_BadRules) "__init__" = some (some (.ref fI_BadRules)))
  (tI_BadRules : PySem.W.typeIn K (.ref fI_BadRules) = some (.type "function"))
  (lI_BadRules : K.lookup fI_BadRules = some ⟨oc2_BadRules, od2_BadRules, .func (fdx (nf_BadRules cc_BadRules cda_BadRules) .none kV2_BadRules doc2_BadRules pm2_BadRules an2_BadRules ct2_BadRules), osl_BadRules⟩)
  (cI_BadRules : PySem.W.codeIn K (.ref cda_BadRules) "BadRules.__init__" = true)
  (cd_BadRules : K.lookup cda_BadRules = some ⟨ccl_BadRules, cdd_BadRules, .fields vs_BadRules, ccs_BadRules⟩)
  (ce_BadRules : K.lookup cc_BadRules = some ⟨cl_BadRules, cld_BadRules, .cell (some (.ref C_BadRules)), csl_BadRules⟩)
  (cs_BadRules : PySem.W.clsIn K C_BadRules = some cdD_BadRules)
  (mr_BadRules : PySem.W.mroIn K C_BadRules (.ref C_BadRules) = some true)
  (su_BadRules : PySem.W.ks_superIn K C_BadRules C_BadRules "__init__" = some (some (.builtin "ValueError.__init__")))
  (va_BadRules : PySem.W.subIn K (.ref C_BadRules) (.type "ValueError") = some true)
  (ga_BadRules : PySem.W.findIn K (.ref C_BadRules) "__getattribute__" = some (some (.builtin "BaseException.__getattribute__")))
  (gg_BadRules : PySem.W.findIn K (.ref C_BadRules) "__getattr__" = some none)
  (hd_BadRules : PySem.W.hasDictIn K C_BadRules = true)
  (rC_BadRules : PySem.HandSPX.refsVE bm_BadRules = true)
  (hv_BadRules : vs_BadRules[2]? = some (.str file_BadRules tf_BadRules))
  (hf_BadRules : ((l.prog.main.file : Str) == file_BadRules) = true)
  (n_BadRules_value : PySem.W.findIn K (.ref C_BadRules) "value" = some none)
  (n_BadRules_field : PySem.W.findIn K (.ref C_BadRules) "field" = some none)
  (sup_ : PySem.W.nsIn K mainGlobals "super" = some none)
  (thi_ : PySem.W.nsIn K PySem.cStatics "thirdparty.any" = some none)
  (htop_ : (l.prog.main.scope.names.lookup ("super" : Str)).isSome = false)
  (hG : G.at_ 0 = C_BadRules) (hN : G.nm 0 = (["value", "field"] : List Str)) : ErrOk l.prog w K mg base G 1 "BadRules" 0 := by
  have ox : OexC K C_BadRules := ⟨⟨nm_BadRules, q_BadRules, N_BadRules, bs_BadRules, bm_BadRules, sn_BadRules, sub_BadRules, ab_BadRules, col_BadRules, dd_BadRules, m0_BadRules, m1_BadRules, m2_BadRules, m3_BadRules, m5_BadRules, xC_BadRules, rC_BadRules⟩, sa_BadRules, eC_BadRules, tC_BadRules, kC_BadRules⟩
  subst hG
  refine ⟨fI_BadRules, fdx (nf_BadRules cc_BadRules cda_BadRules) .none kV2_BadRules doc2_BadRules pm2_BadRules an2_BadRules ct2_BadRules, ["self", "value", "field"], PySem.W.mg_of X Gm aC_BadRules, ox, iC_BadRules, tI_BadRules, ?_, ?_, by rw [hN]; decide, by rw [hN]; decide⟩
  · rw [hN]
    exact init_ok (F := nf_BadRules cc_BadRules cda_BadRules) (fis := [("value", 1), ("field", 2)]) ⟨ox, mr_BadRules, su_BadRules, va_BadRules⟩ lI_BadRules cI_BadRules (show NScope ["self", "value", "field", "__class__"] ["self", "value", "field"] ["__class__"] (defScope si_BadRules) from nscope_by (by decide +kernel)) rfl rfl ⟨_, rfl, rfl⟩ rfl (show (defScope si_BadRules).names.lookup ("super" : Str) = some .globalImplicit from by decide +kernel) ⟨_, _, _, _, cd_BadRules, rfl, hv_BadRules, hf_BadRules⟩ htop_ ⟨_, _, _, ce_BadRules⟩ ⟨_, cs_BadRules⟩ (PySem.W.mg_none_of X Gm sup_) thi_
      (fun L => rfl) rfl (by simp) (by decide) (fun k p e => by
        match k, e with
        | 0, e => cases e; rfl
        | 1, e => cases e; rfl
        | k + 2, e => simp at e) (fun p hp => by simp at hp; rcases hp with rfl | rfl <;> assumption)
      (fun A outer s H E => (pss_cons (ps_ost (pe_var (i := 0) rfl (Or.inl rfl)) (pe_var (i := 1) rfl (Or.inl rfl))) (pss_cons (ps_ost (pe_var (i := 0) rfl (Or.inl rfl)) (pe_var (i := 2) rfl (Or.inl rfl))) pss_nil)))
  · exact fun s us _ hl => match us, hl with | [_, _, _], _ => .of_eq rfl
abbrev si_TooMany : Stmt := mth (top 3) 0
abbrev nf_TooMany (cc cda : Addr) : NF := ⟨"__init__", "TooMany.__init__", defArgs si_TooMany, defBody si_TooMany, defScope si_TooMany, [("__class__", cc)], cda⟩
theorem err_mk_TooMany {l : PySem.W.OpenLaw} {w : World} {K : PySem.W.Frag} {h : Heap} {mg : Str → Option Value} {base : Heap} {G : Cl} (X : K.In h) (Gm : h.Ns mainGlobals mg)
  {C_TooMany fI_TooMany cc_TooMany cda_TooMany N_TooMany : Addr} {nm_TooMany q_TooMany : Str} {bs_TooMany bm_TooMany : List Value} {sn_TooMany : List Str} {sub_TooMany : List Value} {ab_TooMany : Bool} {col_TooMany : Option Bool} {dd_TooMany od2_TooMany an2_TooMany cld_TooMany cdd_TooMany : Option Addr} {m0_TooMany m1_TooMany m2_TooMany m3_TooMany m5_TooMany : Option Value} {kV2_TooMany doc2_TooMany pm2_TooMany ct2_TooMany oc2_TooMany cl_TooMany ccl_TooMany : Value} {osl_TooMany csl_TooMany ccs_TooMany : Array (Option Value)} {vs_TooMany : Array Value} {file_TooMany : Str} {tf_TooMany : Tok} {cdD_TooMany : ClassData}
  (aC_TooMany : PySem.W.nsIn K mainGlobals "TooMany" = some (some (.ref C_TooMany)))
  (xC_TooMany : K.lookup C_TooMany = some (PySem.excClassObj nm_TooMany q_TooMany C_TooMany N_TooMany bs_TooMany bm_TooMany true sn_TooMany sub_TooMany ab_TooMany col_TooMany dd_TooMany m0_TooMany m1_TooMany m2_TooMany m3_TooMany m5_TooMany "ValueError.__new__"))
  (sa_TooMany : PySem.W.findIn K (.ref C_TooMany) "__setattr__" = some (some (.builtin "object.__setattr__")))
  (eC_TooMany : PySem.W.subIn K (.ref C_TooMany) (.type "BaseException") = some true)
  (tC_TooMany : PySem.W.typeIn K (.ref C_TooMany) = some (.type "type"))
  (kC_TooMany : PySem.W.keepIn K (.ref C_TooMany) = true)
  (iC_TooMany : PySem.W.findIn K (.ref C_TooMany) "__init__" = some (some (.ref fI_TooMany)))
  (tI_TooMany : PySem.W.typeIn K (.ref fI_TooMany) = some (.type "function"))
  (lI_TooMany : K.lookup fI_TooMany = some ⟨oc2_TooMany, od2_TooMany, .func (fdx (nf_TooMany cc_TooMany cda_TooMany) .none kV2_TooMany doc2_TooMany pm2_TooMany an2_TooMany ct2_TooMany), osl_TooMany⟩)
  (cI_TooMany : PySem.W.codeIn K (.ref cda_TooMany) "TooMany.__init__" = true)
  (cd_TooMany : K.lookup cda_TooMany = some ⟨ccl_TooMany, cdd_TooMany, .fields vs_TooMany, ccs_TooMany⟩)
  (ce_TooMany : K.lookup cc_TooMany = some ⟨cl_TooMany, cld_TooMany, .cell (some (.ref C_TooMany)), csl_TooMany⟩)
  (cs_TooMany : PySem.W.clsIn K C_TooMany = some cdD_TooMany)
  (mr_TooMany : PySem.W.mroIn K C_TooMany (.ref C_TooMany) = some true)
  (su_TooMany : PySem.W.ks_superIn K C_TooMany C_TooMany "__init__" = some (some (.builtin "ValueError.__init__")))
  (va_TooMany : PySem.W.subIn K (.ref C_TooMany) (.type "ValueError") = some true)
  (ga_TooMany : PySem.W.findIn K (.ref C_TooMany) "__getattribute__" = some (some (.builtin "BaseException.__getattribute__")))
  (gg_TooMany : PySem.W.findIn K (.ref C_TooMany) "__getattr__" = some none)
  (hd_TooMany : PySem.W.hasDictIn K C_TooMany = true)
  (rC_TooMany : PySem.HandSPX.refsVE bm_TooMany = true)
  (hv_TooMany : vs_TooMany[2]? = some (.str file_TooMany tf_TooMany))
  (hf_TooMany : ((l.prog.main.file : Str) == file_TooMany) = true)
  (n_TooMany_what : PySem.W.findIn K (.ref C_TooMany) "what" = some none)
  (n_TooMany_count : PySem.W.findIn K (.ref C_TooMany) "count" = some none)
  (sup_ : PySem.W.nsIn K mainGlobals "super" = some none)
  (thi_ : PySem.W.nsIn K PySem.cStatics "thirdparty.any" = some none)
  (htop_ : (l.prog.main.scope.names.lookup ("super" : Str)).isSome = false)
  (hG : G.at_ 1 = C_TooMany) (hN : G.nm 1 = (["what", "count"] : List Str)) : ErrOk l.prog w K mg base G 1 "TooMany" 1 := by
  have ox : OexC K C_TooMany := ⟨⟨nm_TooMany, q_TooMany, N_TooMany, bs_TooMany, bm_TooMany, sn_TooMany, sub_TooMany, ab_TooMany, col_TooMany, dd_TooMany, m0_TooMany, m1_TooMany, m2_TooMany, m3_TooMany, m5_TooMany, xC_TooMany, rC_TooMany⟩, sa_TooMany, eC_TooMany, tC_TooMany, kC_TooMany⟩
  subst hG
  refine ⟨fI_TooMany, fdx (nf_TooMany cc_TooMany cda_TooMany) .none kV2_TooMany doc2_TooMany pm2_TooMany an2_TooMany ct2_TooMany, ["self", "what", "count"], PySem.W.mg_of X Gm aC_TooMany, ox, iC_TooMany, tI_TooMany, ?_, ?_, by rw [hN]; decide, by rw [hN]; decide⟩
  · rw [hN]
    exact init_ok (F := nf_TooMany cc_TooMany cda_TooMany) (fis := [("what", 1), ("count", 2)]) ⟨ox, mr_TooMany, su_TooMany, va_TooMany⟩ lI_TooMany cI_TooMany (show NScope ["self", "what", "count", "__class__"] ["self", "what", "count"] ["__class__"] (defScope si_TooMany) from nscope_by (by decide +kernel)) rfl rfl ⟨_, rfl, rfl⟩ rfl (show (defScope si_TooMany).names.lookup ("super" : Str) = some .globalImplicit from by decide +kernel) ⟨_, _, _, _, cd_TooMany, rfl, hv_TooMany, hf_TooMany⟩ htop_ ⟨_, _, _, ce_TooMany⟩ ⟨_, cs_TooMany⟩ (PySem.W.mg_none_of X Gm sup_) thi_
      (fun L => rfl) rfl (by simp) (by decide) (fun k p e => by
        match k, e with
        | 0, e => cases e; rfl
        | 1, e => cases e; rfl
        | k + 2, e => simp at e) (fun p hp => by simp at hp; rcases hp with rfl | rfl <;> assumption)
      (fun A outer s H E => (pss_cons (ps_ost (pe_var (i := 0) rfl (Or.inl rfl)) (pe_var (i := 1) rfl (Or.inl rfl))) (pss_cons (ps_ost (pe_var (i := 0) rfl (Or.inl rfl)) (pe_var (i := 2) rfl (Or.inl rfl))) pss_nil)))
  · exact fun s us _ hl => match us, hl with | [_, _, _], _ => .of_eq rfl
theorem all_mk {l : PySem.W.OpenLaw} {w : World} {K : PySem.W.Frag} {h : Heap} {mg : Str → Option Value} {fa : Addr} (X : K.In h) (G : h.Ns mainGlobals mg) (hfa : mg "law" = some (.ref fa))
    {f_is_label f_is_name f_lies_under f_is_integer f_is_between f_is_letter f_letter_order f_are_letters f_check_wire f_check_row f_check_letters f_is_candidate f_candidates_of f_Matcher___init__ f_Matcher_replies_of f_Matcher_turn_over f_Matcher_grow f_match f_attribute f_least_forged f_is_attribution f_crowd_of f_standing_of f__law_number f__law_row f__law_label f__law_key f__law_rules f__law_pools f__law_base f__law_letter f__law_letters f__law_candidates f__law_greedy f__law_forged f__law_asked f__law_refuses_index f__law_is_open f_law : Addr} {od_is_label an_is_label od_is_name an_is_name od_lies_under an_lies_under od_is_integer an_is_integer od_is_between an_is_between od_is_letter an_is_letter od_letter_order an_letter_order od_are_letters an_are_letters od_check_wire an_check_wire od_check_row an_check_row od_check_letters an_check_letters od_is_candidate an_is_candidate od_candidates_of an_candidates_of od_Matcher___init__ an_Matcher___init__ od_Matcher_replies_of an_Matcher_replies_of od_Matcher_turn_over an_Matcher_turn_over od_Matcher_grow an_Matcher_grow od_match an_match od_attribute an_attribute od_least_forged an_least_forged od_is_attribution an_is_attribution od_crowd_of an_crowd_of od_standing_of an_standing_of od__law_number an__law_number od__law_row an__law_row od__law_label an__law_label od__law_key an__law_key od__law_rules an__law_rules od__law_pools an__law_pools od__law_base an__law_base od__law_letter an__law_letter od__law_letters an__law_letters od__law_candidates an__law_candidates od__law_greedy an__law_greedy od__law_forged an__law_forged od__law_asked an__law_asked od__law_refuses_index an__law_refuses_index od__law_is_open an__law_is_open od_law an_law : Option Addr} {sl_is_label sl_is_name sl_lies_under sl_is_integer sl_is_between sl_is_letter sl_letter_order sl_are_letters sl_check_wire sl_check_row sl_check_letters sl_is_candidate sl_candidates_of sl_Matcher___init__ sl_Matcher_replies_of sl_Matcher_turn_over sl_Matcher_grow sl_match sl_attribute sl_least_forged sl_is_attribution sl_crowd_of sl_standing_of sl__law_number sl__law_row sl__law_label sl__law_key sl__law_rules sl__law_pools sl__law_base sl__law_letter sl__law_letters sl__law_candidates sl__law_greedy sl__law_forged sl__law_asked sl__law_refuses_index sl__law_is_open sl_law : Array (Option Value)} {oc_is_label kV_is_label dc_is_label pm_is_label cd_is_label ct_is_label oc_is_name kV_is_name dc_is_name pm_is_name cd_is_name ct_is_name oc_lies_under kV_lies_under dc_lies_under pm_lies_under cd_lies_under ct_lies_under oc_is_integer kV_is_integer dc_is_integer pm_is_integer cd_is_integer ct_is_integer oc_is_between kV_is_between dc_is_between pm_is_between cd_is_between ct_is_between oc_is_letter kV_is_letter dc_is_letter pm_is_letter cd_is_letter ct_is_letter oc_letter_order kV_letter_order dc_letter_order pm_letter_order cd_letter_order ct_letter_order oc_are_letters kV_are_letters dc_are_letters pm_are_letters cd_are_letters ct_are_letters oc_check_wire kV_check_wire dc_check_wire pm_check_wire cd_check_wire ct_check_wire oc_check_row kV_check_row dc_check_row pm_check_row cd_check_row ct_check_row oc_check_letters kV_check_letters dc_check_letters pm_check_letters cd_check_letters ct_check_letters oc_is_candidate kV_is_candidate dc_is_candidate pm_is_candidate cd_is_candidate ct_is_candidate oc_candidates_of kV_candidates_of dc_candidates_of pm_candidates_of cd_candidates_of ct_candidates_of oc_Matcher___init__ kV_Matcher___init__ dc_Matcher___init__ pm_Matcher___init__ cd_Matcher___init__ ct_Matcher___init__ oc_Matcher_replies_of kV_Matcher_replies_of dc_Matcher_replies_of pm_Matcher_replies_of cd_Matcher_replies_of ct_Matcher_replies_of oc_Matcher_turn_over kV_Matcher_turn_over dc_Matcher_turn_over pm_Matcher_turn_over cd_Matcher_turn_over ct_Matcher_turn_over oc_Matcher_grow kV_Matcher_grow dc_Matcher_grow pm_Matcher_grow cd_Matcher_grow ct_Matcher_grow oc_match kV_match dc_match pm_match cd_match ct_match oc_attribute kV_attribute dc_attribute pm_attribute cd_attribute ct_attribute oc_least_forged kV_least_forged dc_least_forged pm_least_forged cd_least_forged ct_least_forged oc_is_attribution kV_is_attribution dc_is_attribution pm_is_attribution cd_is_attribution ct_is_attribution oc_crowd_of kV_crowd_of dc_crowd_of pm_crowd_of cd_crowd_of ct_crowd_of oc_standing_of kV_standing_of dc_standing_of pm_standing_of cd_standing_of ct_standing_of oc__law_number kV__law_number dc__law_number pm__law_number cd__law_number ct__law_number oc__law_row kV__law_row dc__law_row pm__law_row cd__law_row ct__law_row oc__law_label kV__law_label dc__law_label pm__law_label cd__law_label ct__law_label oc__law_key kV__law_key dc__law_key pm__law_key cd__law_key ct__law_key oc__law_rules kV__law_rules dc__law_rules pm__law_rules cd__law_rules ct__law_rules oc__law_pools kV__law_pools dc__law_pools pm__law_pools cd__law_pools ct__law_pools oc__law_base kV__law_base dc__law_base pm__law_base cd__law_base ct__law_base oc__law_letter kV__law_letter dc__law_letter pm__law_letter cd__law_letter ct__law_letter oc__law_letters kV__law_letters dc__law_letters pm__law_letters cd__law_letters ct__law_letters oc__law_candidates kV__law_candidates dc__law_candidates pm__law_candidates cd__law_candidates ct__law_candidates oc__law_greedy kV__law_greedy dc__law_greedy pm__law_greedy cd__law_greedy ct__law_greedy oc__law_forged kV__law_forged dc__law_forged pm__law_forged cd__law_forged ct__law_forged oc__law_asked kV__law_asked dc__law_asked pm__law_asked cd__law_asked ct__law_asked oc__law_refuses_index kV__law_refuses_index dc__law_refuses_index pm__law_refuses_index cd__law_refuses_index ct__law_refuses_index oc__law_is_open kV__law_is_open dc__law_is_open pm__law_is_open cd__law_is_open ct__law_is_open oc_law kV_law dc_law pm_law cd_law ct_law : Value} {u_LETTERS u_MOST_ADDRESS u_MOST_DELAY u_MOST_DOUBLES u_MOST_LABEL u_MOST_LABELS u_MOST_LETTERS u_MOST_MOMENT : Tok}
    {a_KINDS : Addr} {dx_KINDS : Option Addr} {n_KINDS : Nat} {sx_KINDS : Array (Option Value)} {u0_KINDS u1_KINDS u2_KINDS u3_KINDS : Tok}
    {C_Matcher : Addr}
    {C_BadRules fI_BadRules cc_BadRules cda_BadRules N_BadRules : Addr} {nm_BadRules q_BadRules : Str} {bs_BadRules bm_BadRules : List Value} {sn_BadRules : List Str} {sub_BadRules : List Value} {ab_BadRules : Bool} {col_BadRules : Option Bool} {dd_BadRules od2_BadRules an2_BadRules cld_BadRules cdd_BadRules : Option Addr} {m0_BadRules m1_BadRules m2_BadRules m3_BadRules m5_BadRules : Option Value} {kV2_BadRules doc2_BadRules pm2_BadRules ct2_BadRules oc2_BadRules cl_BadRules ccl_BadRules : Value} {osl_BadRules csl_BadRules ccs_BadRules : Array (Option Value)} {vs_BadRules : Array Value} {file_BadRules : Str} {tf_BadRules : Tok} {cdD_BadRules : ClassData}
    {C_TooMany fI_TooMany cc_TooMany cda_TooMany N_TooMany : Addr} {nm_TooMany q_TooMany : Str} {bs_TooMany bm_TooMany : List Value} {sn_TooMany : List Str} {sub_TooMany : List Value} {ab_TooMany : Bool} {col_TooMany : Option Bool} {dd_TooMany od2_TooMany an2_TooMany cld_TooMany cdd_TooMany : Option Addr} {m0_TooMany m1_TooMany m2_TooMany m3_TooMany m5_TooMany : Option Value} {kV2_TooMany doc2_TooMany pm2_TooMany ct2_TooMany oc2_TooMany cl_TooMany ccl_TooMany : Value} {osl_TooMany csl_TooMany ccs_TooMany : Array (Option Value)} {vs_TooMany : Array Value} {file_TooMany : Str} {tf_TooMany : Tok} {cdD_TooMany : ClassData}
    (aC_Matcher : PySem.W.nsIn K mainGlobals "Matcher" = some (some (.ref C_Matcher))) (pg_Matcher : PySem.W.plainGet K C_Matcher Str.empty = true) (hd_Matcher : PySem.W.hasDictIn K C_Matcher = true) (po_Matcher : PySem.W.plainOver K C_Matcher = true) (sa_Matcher : PySem.W.findIn K (.ref C_Matcher) "__setattr__" = some (some (.builtin "object.__setattr__"))) (mk_Matcher : PySem.W.makesIn K C_Matcher = true) (kC_Matcher : PySem.W.keepIn K (.ref C_Matcher) = true)
    (n_Matcher_candidates : PySem.W.findIn K (.ref C_Matcher) "candidates" = some none) (n_Matcher_doubles : PySem.W.findIn K (.ref C_Matcher) "doubles" = some none) (n_Matcher_taken : PySem.W.findIn K (.ref C_Matcher) "taken" = some none) (n_Matcher_came : PySem.W.findIn K (.ref C_Matcher) "came" = some none)
    (a_is_label : PySem.W.nsIn K mainGlobals "is_label" = some (some (.ref f_is_label))) (l_is_label : K.lookup f_is_label = some ⟨oc_is_label, od_is_label, .func (PySem.W.fnOf "is_label" "is_label" (defArgs s_is_label) (defBody s_is_label) (defScope s_is_label) .none kV_is_label dc_is_label pm_is_label an_is_label cd_is_label ct_is_label), sl_is_label⟩) (c_is_label : PySem.W.codeIn K cd_is_label "is_label" = true) (k_is_label : PySem.W.keepIn K (.ref f_is_label) = true)
    (a_is_name : PySem.W.nsIn K mainGlobals "is_name" = some (some (.ref f_is_name))) (l_is_name : K.lookup f_is_name = some ⟨oc_is_name, od_is_name, .func (PySem.W.fnOf "is_name" "is_name" (defArgs s_is_name) (defBody s_is_name) (defScope s_is_name) .none kV_is_name dc_is_name pm_is_name an_is_name cd_is_name ct_is_name), sl_is_name⟩) (c_is_name : PySem.W.codeIn K cd_is_name "is_name" = true) (k_is_name : PySem.W.keepIn K (.ref f_is_name) = true)
    (a_lies_under : PySem.W.nsIn K mainGlobals "lies_under" = some (some (.ref f_lies_under))) (l_lies_under : K.lookup f_lies_under = some ⟨oc_lies_under, od_lies_under, .func (PySem.W.fnOf "lies_under" "lies_under" (defArgs s_lies_under) (defBody s_lies_under) (defScope s_lies_under) .none kV_lies_under dc_lies_under pm_lies_under an_lies_under cd_lies_under ct_lies_under), sl_lies_under⟩) (c_lies_under : PySem.W.codeIn K cd_lies_under "lies_under" = true) (k_lies_under : PySem.W.keepIn K (.ref f_lies_under) = true)
    (a_is_integer : PySem.W.nsIn K mainGlobals "is_integer" = some (some (.ref f_is_integer))) (l_is_integer : K.lookup f_is_integer = some ⟨oc_is_integer, od_is_integer, .func (PySem.W.fnOf "is_integer" "is_integer" (defArgs s_is_integer) (defBody s_is_integer) (defScope s_is_integer) .none kV_is_integer dc_is_integer pm_is_integer an_is_integer cd_is_integer ct_is_integer), sl_is_integer⟩) (c_is_integer : PySem.W.codeIn K cd_is_integer "is_integer" = true) (k_is_integer : PySem.W.keepIn K (.ref f_is_integer) = true)
    (a_is_between : PySem.W.nsIn K mainGlobals "is_between" = some (some (.ref f_is_between))) (l_is_between : K.lookup f_is_between = some ⟨oc_is_between, od_is_between, .func (PySem.W.fnOf "is_between" "is_between" (defArgs s_is_between) (defBody s_is_between) (defScope s_is_between) .none kV_is_between dc_is_between pm_is_between an_is_between cd_is_between ct_is_between), sl_is_between⟩) (c_is_between : PySem.W.codeIn K cd_is_between "is_between" = true) (k_is_between : PySem.W.keepIn K (.ref f_is_between) = true)
    (a_is_letter : PySem.W.nsIn K mainGlobals "is_letter" = some (some (.ref f_is_letter))) (l_is_letter : K.lookup f_is_letter = some ⟨oc_is_letter, od_is_letter, .func (PySem.W.fnOf "is_letter" "is_letter" (defArgs s_is_letter) (defBody s_is_letter) (defScope s_is_letter) .none kV_is_letter dc_is_letter pm_is_letter an_is_letter cd_is_letter ct_is_letter), sl_is_letter⟩) (c_is_letter : PySem.W.codeIn K cd_is_letter "is_letter" = true) (k_is_letter : PySem.W.keepIn K (.ref f_is_letter) = true)
    (a_letter_order : PySem.W.nsIn K mainGlobals "letter_order" = some (some (.ref f_letter_order))) (l_letter_order : K.lookup f_letter_order = some ⟨oc_letter_order, od_letter_order, .func (PySem.W.fnOf "letter_order" "letter_order" (defArgs s_letter_order) (defBody s_letter_order) (defScope s_letter_order) .none kV_letter_order dc_letter_order pm_letter_order an_letter_order cd_letter_order ct_letter_order), sl_letter_order⟩) (c_letter_order : PySem.W.codeIn K cd_letter_order "letter_order" = true) (k_letter_order : PySem.W.keepIn K (.ref f_letter_order) = true)
    (a_are_letters : PySem.W.nsIn K mainGlobals "are_letters" = some (some (.ref f_are_letters))) (l_are_letters : K.lookup f_are_letters = some ⟨oc_are_letters, od_are_letters, .func (PySem.W.fnOf "are_letters" "are_letters" (defArgs s_are_letters) (defBody s_are_letters) (defScope s_are_letters) .none kV_are_letters dc_are_letters pm_are_letters an_are_letters cd_are_letters ct_are_letters), sl_are_letters⟩) (c_are_letters : PySem.W.codeIn K cd_are_letters "are_letters" = true) (k_are_letters : PySem.W.keepIn K (.ref f_are_letters) = true)
    (a_check_wire : PySem.W.nsIn K mainGlobals "check_wire" = some (some (.ref f_check_wire))) (l_check_wire : K.lookup f_check_wire = some ⟨oc_check_wire, od_check_wire, .func (PySem.W.fnOf "check_wire" "check_wire" (defArgs s_check_wire) (defBody s_check_wire) (defScope s_check_wire) .none kV_check_wire dc_check_wire pm_check_wire an_check_wire cd_check_wire ct_check_wire), sl_check_wire⟩) (c_check_wire : PySem.W.codeIn K cd_check_wire "check_wire" = true) (k_check_wire : PySem.W.keepIn K (.ref f_check_wire) = true)
    (a_check_row : PySem.W.nsIn K mainGlobals "check_row" = some (some (.ref f_check_row))) (l_check_row : K.lookup f_check_row = some ⟨oc_check_row, od_check_row, .func (PySem.W.fnOf "check_row" "check_row" (defArgs s_check_row) (defBody s_check_row) (defScope s_check_row) .none kV_check_row dc_check_row pm_check_row an_check_row cd_check_row ct_check_row), sl_check_row⟩) (c_check_row : PySem.W.codeIn K cd_check_row "check_row" = true) (k_check_row : PySem.W.keepIn K (.ref f_check_row) = true)
    (a_check_letters : PySem.W.nsIn K mainGlobals "check_letters" = some (some (.ref f_check_letters))) (l_check_letters : K.lookup f_check_letters = some ⟨oc_check_letters, od_check_letters, .func (PySem.W.fnOf "check_letters" "check_letters" (defArgs s_check_letters) (defBody s_check_letters) (defScope s_check_letters) .none kV_check_letters dc_check_letters pm_check_letters an_check_letters cd_check_letters ct_check_letters), sl_check_letters⟩) (c_check_letters : PySem.W.codeIn K cd_check_letters "check_letters" = true) (k_check_letters : PySem.W.keepIn K (.ref f_check_letters) = true)
    (a_is_candidate : PySem.W.nsIn K mainGlobals "is_candidate" = some (some (.ref f_is_candidate))) (l_is_candidate : K.lookup f_is_candidate = some ⟨oc_is_candidate, od_is_candidate, .func (PySem.W.fnOf "is_candidate" "is_candidate" (defArgs s_is_candidate) (defBody s_is_candidate) (defScope s_is_candidate) .none kV_is_candidate dc_is_candidate pm_is_candidate an_is_candidate cd_is_candidate ct_is_candidate), sl_is_candidate⟩) (c_is_candidate : PySem.W.codeIn K cd_is_candidate "is_candidate" = true) (k_is_candidate : PySem.W.keepIn K (.ref f_is_candidate) = true)
    (a_candidates_of : PySem.W.nsIn K mainGlobals "candidates_of" = some (some (.ref f_candidates_of))) (l_candidates_of : K.lookup f_candidates_of = some ⟨oc_candidates_of, od_candidates_of, .func (PySem.W.fnOf "candidates_of" "candidates_of" (defArgs s_candidates_of) (defBody s_candidates_of) (defScope s_candidates_of) .none kV_candidates_of dc_candidates_of pm_candidates_of an_candidates_of cd_candidates_of ct_candidates_of), sl_candidates_of⟩) (c_candidates_of : PySem.W.codeIn K cd_candidates_of "candidates_of" = true) (k_candidates_of : PySem.W.keepIn K (.ref f_candidates_of) = true)
    (a_Matcher___init__ : PySem.W.findIn K (.ref C_Matcher) "__init__" = some (some (.ref f_Matcher___init__))) (fn_Matcher___init__ : PySem.W.isFn K (.ref f_Matcher___init__) = true) (l_Matcher___init__ : K.lookup f_Matcher___init__ = some ⟨oc_Matcher___init__, od_Matcher___init__, .func (PySem.W.fnOf "__init__" "Matcher.__init__" (defArgs s_Matcher___init__) (defBody s_Matcher___init__) (defScope s_Matcher___init__) .none kV_Matcher___init__ dc_Matcher___init__ pm_Matcher___init__ an_Matcher___init__ cd_Matcher___init__ ct_Matcher___init__), sl_Matcher___init__⟩) (c_Matcher___init__ : PySem.W.codeIn K cd_Matcher___init__ "Matcher.__init__" = true) (k_Matcher___init__ : PySem.W.keepIn K (.ref f_Matcher___init__) = true)
    (a_Matcher_replies_of : PySem.W.findIn K (.ref C_Matcher) "replies_of" = some (some (.ref f_Matcher_replies_of))) (fn_Matcher_replies_of : PySem.W.isFn K (.ref f_Matcher_replies_of) = true) (l_Matcher_replies_of : K.lookup f_Matcher_replies_of = some ⟨oc_Matcher_replies_of, od_Matcher_replies_of, .func (PySem.W.fnOf "replies_of" "Matcher.replies_of" (defArgs s_Matcher_replies_of) (defBody s_Matcher_replies_of) (defScope s_Matcher_replies_of) .none kV_Matcher_replies_of dc_Matcher_replies_of pm_Matcher_replies_of an_Matcher_replies_of cd_Matcher_replies_of ct_Matcher_replies_of), sl_Matcher_replies_of⟩) (c_Matcher_replies_of : PySem.W.codeIn K cd_Matcher_replies_of "Matcher.replies_of" = true) (k_Matcher_replies_of : PySem.W.keepIn K (.ref f_Matcher_replies_of) = true)
    (a_Matcher_turn_over : PySem.W.findIn K (.ref C_Matcher) "turn_over" = some (some (.ref f_Matcher_turn_over))) (fn_Matcher_turn_over : PySem.W.isFn K (.ref f_Matcher_turn_over) = true) (l_Matcher_turn_over : K.lookup f_Matcher_turn_over = some ⟨oc_Matcher_turn_over, od_Matcher_turn_over, .func (PySem.W.fnOf "turn_over" "Matcher.turn_over" (defArgs s_Matcher_turn_over) (defBody s_Matcher_turn_over) (defScope s_Matcher_turn_over) .none kV_Matcher_turn_over dc_Matcher_turn_over pm_Matcher_turn_over an_Matcher_turn_over cd_Matcher_turn_over ct_Matcher_turn_over), sl_Matcher_turn_over⟩) (c_Matcher_turn_over : PySem.W.codeIn K cd_Matcher_turn_over "Matcher.turn_over" = true) (k_Matcher_turn_over : PySem.W.keepIn K (.ref f_Matcher_turn_over) = true)
    (a_Matcher_grow : PySem.W.findIn K (.ref C_Matcher) "grow" = some (some (.ref f_Matcher_grow))) (fn_Matcher_grow : PySem.W.isFn K (.ref f_Matcher_grow) = true) (l_Matcher_grow : K.lookup f_Matcher_grow = some ⟨oc_Matcher_grow, od_Matcher_grow, .func (PySem.W.fnOf "grow" "Matcher.grow" (defArgs s_Matcher_grow) (defBody s_Matcher_grow) (defScope s_Matcher_grow) .none kV_Matcher_grow dc_Matcher_grow pm_Matcher_grow an_Matcher_grow cd_Matcher_grow ct_Matcher_grow), sl_Matcher_grow⟩) (c_Matcher_grow : PySem.W.codeIn K cd_Matcher_grow "Matcher.grow" = true) (k_Matcher_grow : PySem.W.keepIn K (.ref f_Matcher_grow) = true)
    (a_match : PySem.W.nsIn K mainGlobals "match" = some (some (.ref f_match))) (l_match : K.lookup f_match = some ⟨oc_match, od_match, .func (PySem.W.fnOf "match" "match" (defArgs s_match) (defBody s_match) (defScope s_match) .none kV_match dc_match pm_match an_match cd_match ct_match), sl_match⟩) (c_match : PySem.W.codeIn K cd_match "match" = true) (k_match : PySem.W.keepIn K (.ref f_match) = true)
    (a_attribute : PySem.W.nsIn K mainGlobals "attribute" = some (some (.ref f_attribute))) (l_attribute : K.lookup f_attribute = some ⟨oc_attribute, od_attribute, .func (PySem.W.fnOf "attribute" "attribute" (defArgs s_attribute) (defBody s_attribute) (defScope s_attribute) .none kV_attribute dc_attribute pm_attribute an_attribute cd_attribute ct_attribute), sl_attribute⟩) (c_attribute : PySem.W.codeIn K cd_attribute "attribute" = true) (k_attribute : PySem.W.keepIn K (.ref f_attribute) = true)
    (a_least_forged : PySem.W.nsIn K mainGlobals "least_forged" = some (some (.ref f_least_forged))) (l_least_forged : K.lookup f_least_forged = some ⟨oc_least_forged, od_least_forged, .func (PySem.W.fnOf "least_forged" "least_forged" (defArgs s_least_forged) (defBody s_least_forged) (defScope s_least_forged) .none kV_least_forged dc_least_forged pm_least_forged an_least_forged cd_least_forged ct_least_forged), sl_least_forged⟩) (c_least_forged : PySem.W.codeIn K cd_least_forged "least_forged" = true) (k_least_forged : PySem.W.keepIn K (.ref f_least_forged) = true)
    (a_is_attribution : PySem.W.nsIn K mainGlobals "is_attribution" = some (some (.ref f_is_attribution))) (l_is_attribution : K.lookup f_is_attribution = some ⟨oc_is_attribution, od_is_attribution, .func (PySem.W.fnOf "is_attribution" "is_attribution" (defArgs s_is_attribution) (defBody s_is_attribution) (defScope s_is_attribution) .none kV_is_attribution dc_is_attribution pm_is_attribution an_is_attribution cd_is_attribution ct_is_attribution), sl_is_attribution⟩) (c_is_attribution : PySem.W.codeIn K cd_is_attribution "is_attribution" = true) (k_is_attribution : PySem.W.keepIn K (.ref f_is_attribution) = true)
    (a_crowd_of : PySem.W.nsIn K mainGlobals "crowd_of" = some (some (.ref f_crowd_of))) (l_crowd_of : K.lookup f_crowd_of = some ⟨oc_crowd_of, od_crowd_of, .func (PySem.W.fnOf "crowd_of" "crowd_of" (defArgs s_crowd_of) (defBody s_crowd_of) (defScope s_crowd_of) .none kV_crowd_of dc_crowd_of pm_crowd_of an_crowd_of cd_crowd_of ct_crowd_of), sl_crowd_of⟩) (c_crowd_of : PySem.W.codeIn K cd_crowd_of "crowd_of" = true) (k_crowd_of : PySem.W.keepIn K (.ref f_crowd_of) = true)
    (a_standing_of : PySem.W.nsIn K mainGlobals "standing_of" = some (some (.ref f_standing_of))) (l_standing_of : K.lookup f_standing_of = some ⟨oc_standing_of, od_standing_of, .func (PySem.W.fnOf "standing_of" "standing_of" (defArgs s_standing_of) (defBody s_standing_of) (defScope s_standing_of) .none kV_standing_of dc_standing_of pm_standing_of an_standing_of cd_standing_of ct_standing_of), sl_standing_of⟩) (c_standing_of : PySem.W.codeIn K cd_standing_of "standing_of" = true) (k_standing_of : PySem.W.keepIn K (.ref f_standing_of) = true)
    (a__law_number : PySem.W.nsIn K mainGlobals "_law_number" = some (some (.ref f__law_number))) (l__law_number : K.lookup f__law_number = some ⟨oc__law_number, od__law_number, .func (PySem.W.fnOf "_law_number" "_law_number" (defArgs s__law_number) (defBody s__law_number) (defScope s__law_number) .none kV__law_number dc__law_number pm__law_number an__law_number cd__law_number ct__law_number), sl__law_number⟩) (c__law_number : PySem.W.codeIn K cd__law_number "_law_number" = true) (k__law_number : PySem.W.keepIn K (.ref f__law_number) = true)
    (a__law_row : PySem.W.nsIn K mainGlobals "_law_row" = some (some (.ref f__law_row))) (l__law_row : K.lookup f__law_row = some ⟨oc__law_row, od__law_row, .func (PySem.W.fnOf "_law_row" "_law_row" (defArgs s__law_row) (defBody s__law_row) (defScope s__law_row) .none kV__law_row dc__law_row pm__law_row an__law_row cd__law_row ct__law_row), sl__law_row⟩) (c__law_row : PySem.W.codeIn K cd__law_row "_law_row" = true) (k__law_row : PySem.W.keepIn K (.ref f__law_row) = true)
    (a__law_label : PySem.W.nsIn K mainGlobals "_law_label" = some (some (.ref f__law_label))) (l__law_label : K.lookup f__law_label = some ⟨oc__law_label, od__law_label, .func (PySem.W.fnOf "_law_label" "_law_label" (defArgs s__law_label) (defBody s__law_label) (defScope s__law_label) .none kV__law_label dc__law_label pm__law_label an__law_label cd__law_label ct__law_label), sl__law_label⟩) (c__law_label : PySem.W.codeIn K cd__law_label "_law_label" = true) (k__law_label : PySem.W.keepIn K (.ref f__law_label) = true)
    (a__law_key : PySem.W.nsIn K mainGlobals "_law_key" = some (some (.ref f__law_key))) (l__law_key : K.lookup f__law_key = some ⟨oc__law_key, od__law_key, .func (PySem.W.fnOf "_law_key" "_law_key" (defArgs s__law_key) (defBody s__law_key) (defScope s__law_key) .none kV__law_key dc__law_key pm__law_key an__law_key cd__law_key ct__law_key), sl__law_key⟩) (c__law_key : PySem.W.codeIn K cd__law_key "_law_key" = true) (k__law_key : PySem.W.keepIn K (.ref f__law_key) = true)
    (a__law_rules : PySem.W.nsIn K mainGlobals "_law_rules" = some (some (.ref f__law_rules))) (l__law_rules : K.lookup f__law_rules = some ⟨oc__law_rules, od__law_rules, .func (PySem.W.fnOf "_law_rules" "_law_rules" (defArgs s__law_rules) (defBody s__law_rules) (defScope s__law_rules) .none kV__law_rules dc__law_rules pm__law_rules an__law_rules cd__law_rules ct__law_rules), sl__law_rules⟩) (c__law_rules : PySem.W.codeIn K cd__law_rules "_law_rules" = true) (k__law_rules : PySem.W.keepIn K (.ref f__law_rules) = true)
    (a__law_pools : PySem.W.nsIn K mainGlobals "_law_pools" = some (some (.ref f__law_pools))) (l__law_pools : K.lookup f__law_pools = some ⟨oc__law_pools, od__law_pools, .func (PySem.W.fnOf "_law_pools" "_law_pools" (defArgs s__law_pools) (defBody s__law_pools) (defScope s__law_pools) .none kV__law_pools dc__law_pools pm__law_pools an__law_pools cd__law_pools ct__law_pools), sl__law_pools⟩) (c__law_pools : PySem.W.codeIn K cd__law_pools "_law_pools" = true) (k__law_pools : PySem.W.keepIn K (.ref f__law_pools) = true)
    (a__law_base : PySem.W.nsIn K mainGlobals "_law_base" = some (some (.ref f__law_base))) (l__law_base : K.lookup f__law_base = some ⟨oc__law_base, od__law_base, .func (PySem.W.fnOf "_law_base" "_law_base" (defArgs s__law_base) (defBody s__law_base) (defScope s__law_base) .none kV__law_base dc__law_base pm__law_base an__law_base cd__law_base ct__law_base), sl__law_base⟩) (c__law_base : PySem.W.codeIn K cd__law_base "_law_base" = true) (k__law_base : PySem.W.keepIn K (.ref f__law_base) = true)
    (a__law_letter : PySem.W.nsIn K mainGlobals "_law_letter" = some (some (.ref f__law_letter))) (l__law_letter : K.lookup f__law_letter = some ⟨oc__law_letter, od__law_letter, .func (PySem.W.fnOf "_law_letter" "_law_letter" (defArgs s__law_letter) (defBody s__law_letter) (defScope s__law_letter) .none kV__law_letter dc__law_letter pm__law_letter an__law_letter cd__law_letter ct__law_letter), sl__law_letter⟩) (c__law_letter : PySem.W.codeIn K cd__law_letter "_law_letter" = true) (k__law_letter : PySem.W.keepIn K (.ref f__law_letter) = true)
    (a__law_letters : PySem.W.nsIn K mainGlobals "_law_letters" = some (some (.ref f__law_letters))) (l__law_letters : K.lookup f__law_letters = some ⟨oc__law_letters, od__law_letters, .func (PySem.W.fnOf "_law_letters" "_law_letters" (defArgs s__law_letters) (defBody s__law_letters) (defScope s__law_letters) .none kV__law_letters dc__law_letters pm__law_letters an__law_letters cd__law_letters ct__law_letters), sl__law_letters⟩) (c__law_letters : PySem.W.codeIn K cd__law_letters "_law_letters" = true) (k__law_letters : PySem.W.keepIn K (.ref f__law_letters) = true)
    (a__law_candidates : PySem.W.nsIn K mainGlobals "_law_candidates" = some (some (.ref f__law_candidates))) (l__law_candidates : K.lookup f__law_candidates = some ⟨oc__law_candidates, od__law_candidates, .func (PySem.W.fnOf "_law_candidates" "_law_candidates" (defArgs s__law_candidates) (defBody s__law_candidates) (defScope s__law_candidates) .none kV__law_candidates dc__law_candidates pm__law_candidates an__law_candidates cd__law_candidates ct__law_candidates), sl__law_candidates⟩) (c__law_candidates : PySem.W.codeIn K cd__law_candidates "_law_candidates" = true) (k__law_candidates : PySem.W.keepIn K (.ref f__law_candidates) = true)
    (a__law_greedy : PySem.W.nsIn K mainGlobals "_law_greedy" = some (some (.ref f__law_greedy))) (l__law_greedy : K.lookup f__law_greedy = some ⟨oc__law_greedy, od__law_greedy, .func (PySem.W.fnOf "_law_greedy" "_law_greedy" (defArgs s__law_greedy) (defBody s__law_greedy) (defScope s__law_greedy) .none kV__law_greedy dc__law_greedy pm__law_greedy an__law_greedy cd__law_greedy ct__law_greedy), sl__law_greedy⟩) (c__law_greedy : PySem.W.codeIn K cd__law_greedy "_law_greedy" = true) (k__law_greedy : PySem.W.keepIn K (.ref f__law_greedy) = true)
    (a__law_forged : PySem.W.nsIn K mainGlobals "_law_forged" = some (some (.ref f__law_forged))) (l__law_forged : K.lookup f__law_forged = some ⟨oc__law_forged, od__law_forged, .func (PySem.W.fnOf "_law_forged" "_law_forged" (defArgs s__law_forged) (defBody s__law_forged) (defScope s__law_forged) .none kV__law_forged dc__law_forged pm__law_forged an__law_forged cd__law_forged ct__law_forged), sl__law_forged⟩) (c__law_forged : PySem.W.codeIn K cd__law_forged "_law_forged" = true) (k__law_forged : PySem.W.keepIn K (.ref f__law_forged) = true)
    (a__law_asked : PySem.W.nsIn K mainGlobals "_law_asked" = some (some (.ref f__law_asked))) (l__law_asked : K.lookup f__law_asked = some ⟨oc__law_asked, od__law_asked, .func (PySem.W.fnOf "_law_asked" "_law_asked" (defArgs s__law_asked) (defBody s__law_asked) (defScope s__law_asked) .none kV__law_asked dc__law_asked pm__law_asked an__law_asked cd__law_asked ct__law_asked), sl__law_asked⟩) (c__law_asked : PySem.W.codeIn K cd__law_asked "_law_asked" = true) (k__law_asked : PySem.W.keepIn K (.ref f__law_asked) = true)
    (a__law_refuses_index : PySem.W.nsIn K mainGlobals "_law_refuses_index" = some (some (.ref f__law_refuses_index))) (l__law_refuses_index : K.lookup f__law_refuses_index = some ⟨oc__law_refuses_index, od__law_refuses_index, .func (PySem.W.fnOf "_law_refuses_index" "_law_refuses_index" (defArgs s__law_refuses_index) (defBody s__law_refuses_index) (defScope s__law_refuses_index) .none kV__law_refuses_index dc__law_refuses_index pm__law_refuses_index an__law_refuses_index cd__law_refuses_index ct__law_refuses_index), sl__law_refuses_index⟩) (c__law_refuses_index : PySem.W.codeIn K cd__law_refuses_index "_law_refuses_index" = true) (k__law_refuses_index : PySem.W.keepIn K (.ref f__law_refuses_index) = true)
    (a__law_is_open : PySem.W.nsIn K mainGlobals "_law_is_open" = some (some (.ref f__law_is_open))) (l__law_is_open : K.lookup f__law_is_open = some ⟨oc__law_is_open, od__law_is_open, .func (PySem.W.fnOf "_law_is_open" "_law_is_open" (defArgs s__law_is_open) (defBody s__law_is_open) (defScope s__law_is_open) .none kV__law_is_open dc__law_is_open pm__law_is_open an__law_is_open cd__law_is_open ct__law_is_open), sl__law_is_open⟩) (c__law_is_open : PySem.W.codeIn K cd__law_is_open "_law_is_open" = true) (k__law_is_open : PySem.W.keepIn K (.ref f__law_is_open) = true)
    (a_law : PySem.W.nsIn K mainGlobals "law" = some (some (.ref f_law))) (l_law : K.lookup f_law = some ⟨oc_law, od_law, .func (PySem.W.fnOf "law" "law" (defArgs s_law) (defBody s_law) (defScope s_law) .none kV_law dc_law pm_law an_law cd_law ct_law), sl_law⟩) (c_law : PySem.W.codeIn K cd_law "law" = true) (k_law : PySem.W.keepIn K (.ref f_law) = true)
    (z_bool : PySem.W.nsIn K mainGlobals "bool" = some none)
    (z_int : PySem.W.nsIn K mainGlobals "int" = some none)
    (z_isinstance : PySem.W.nsIn K mainGlobals "isinstance" = some none)
    (z_len : PySem.W.nsIn K mainGlobals "len" = some none)
    (z_range : PySem.W.nsIn K mainGlobals "range" = some none)
    (z_sorted : PySem.W.nsIn K mainGlobals "sorted" = some none)
    (z_str : PySem.W.nsIn K mainGlobals "str" = some none)
    (z_tuple : PySem.W.nsIn K mainGlobals "tuple" = some none)
    (g_KINDS : PySem.W.nsIn K mainGlobals "KINDS" = some (some (.ref a_KINDS))) (l_KINDS : K.lookup a_KINDS = some ⟨.type "tuple", dx_KINDS, .seq #[.str "addr" u0_KINDS, .str "alias" u1_KINDS, .str "serve" u2_KINDS, .str "text" u3_KINDS] n_KINDS, sx_KINDS⟩)
    (g_LETTERS : PySem.W.nsIn K mainGlobals "LETTERS" = some (some (.str "abcdefghijklmnopqrstuvwxyz0123456789-" u_LETTERS)))
    (g_MOST_ADDRESS : PySem.W.nsIn K mainGlobals "MOST_ADDRESS" = some (some (.int 65535 u_MOST_ADDRESS)))
    (g_MOST_DELAY : PySem.W.nsIn K mainGlobals "MOST_DELAY" = some (some (.int 1000 u_MOST_DELAY)))
    (g_MOST_DOUBLES : PySem.W.nsIn K mainGlobals "MOST_DOUBLES" = some (some (.int 3 u_MOST_DOUBLES)))
    (g_MOST_LABEL : PySem.W.nsIn K mainGlobals "MOST_LABEL" = some (some (.int 12 u_MOST_LABEL)))
    (g_MOST_LABELS : PySem.W.nsIn K mainGlobals "MOST_LABELS" = some (some (.int 6 u_MOST_LABELS)))
    (g_MOST_LETTERS : PySem.W.nsIn K mainGlobals "MOST_LETTERS" = some (some (.int 24 u_MOST_LETTERS)))
    (g_MOST_MOMENT : PySem.W.nsIn K mainGlobals "MOST_MOMENT" = some (some (.int 1000000 u_MOST_MOMENT)))
    (aC_BadRules : PySem.W.nsIn K mainGlobals "BadRules" = some (some (.ref C_BadRules)))
    (xC_BadRules : K.lookup C_BadRules = some (PySem.excClassObj nm_BadRules q_BadRules C_BadRules N_BadRules bs_BadRules bm_BadRules true sn_BadRules sub_BadRules ab_BadRules col_BadRules dd_BadRules m0_BadRules m1_BadRules m2_BadRules m3_BadRules m5_BadRules "ValueError.__new__"))
    (sa_BadRules : PySem.W.findIn K (.ref C_BadRules) "__setattr__" = some (some (.builtin "object.__setattr__")))
    (eC_BadRules : PySem.W.subIn K (.ref C_BadRules) (.type "BaseException") = some true)
    (tC_BadRules : PySem.W.typeIn K (.ref C_BadRules) = some (.type "type"))
    (kC_BadRules : PySem.W.keepIn K (.ref C_BadRules) = true)
    (iC_BadRules : PySem.W.findIn K (.ref C_BadRules) "__init__" = some (some (.ref fI_BadRules)))
    (tI_BadRules : PySem.W.typeIn K (.ref fI_BadRules) = some (.type "function"))
    (lI_BadRules : K.lookup fI_BadRules = some ⟨oc2_BadRules, od2_BadRules, .func (fdx (nf_BadRules cc_BadRules cda_BadRules) .none kV2_BadRules doc2_BadRules pm2_BadRules an2_BadRules ct2_BadRules), osl_BadRules⟩)
    (cI_BadRules : PySem.W.codeIn K (.ref cda_BadRules) "BadRules.__init__" = true)
    (cd_BadRules : K.lookup cda_BadRules = some ⟨ccl_BadRules, cdd_BadRules, .fields vs_BadRules, ccs_BadRules⟩)
    (ce_BadRules : K.lookup cc_BadRules = some ⟨cl_BadRules, cld_BadRules, .cell (some (.ref C_BadRules)), csl_BadRules⟩)
    (cs_BadRules : PySem.W.clsIn K C_BadRules = some cdD_BadRules)
    (mr_BadRules : PySem.W.mroIn K C_BadRules (.ref C_BadRules) = some true)
    (su_BadRules : PySem.W.ks_superIn K C_BadRules C_BadRules "__init__" = some (some (.builtin "ValueError.__init__")))
    (va_BadRules : PySem.W.subIn K (.ref C_BadRules) (.type "ValueError") = some true)
    (ga_BadRules : PySem.W.findIn K (.ref C_BadRules) "__getattribute__" = some (some (.builtin "BaseException.__getattribute__")))
    (gg_BadRules : PySem.W.findIn K (.ref C_BadRules) "__getattr__" = some none)
    (hd_BadRules : PySem.W.hasDictIn K C_BadRules = true)
    (rC_BadRules : PySem.HandSPX.refsVE bm_BadRules = true)
    (hv_BadRules : vs_BadRules[2]? = some (.str file_BadRules tf_BadRules))
    (hf_BadRules : ((l.prog.main.file : Str) == file_BadRules) = true)
    (n_BadRules_value : PySem.W.findIn K (.ref C_BadRules) "value" = some none)
    (n_BadRules_field : PySem.W.findIn K (.ref C_BadRules) "field" = some none)
    (aC_TooMany : PySem.W.nsIn K mainGlobals "TooMany" = some (some (.ref C_TooMany)))
    (xC_TooMany : K.lookup C_TooMany = some (PySem.excClassObj nm_TooMany q_TooMany C_TooMany N_TooMany bs_TooMany bm_TooMany true sn_TooMany sub_TooMany ab_TooMany col_TooMany dd_TooMany m0_TooMany m1_TooMany m2_TooMany m3_TooMany m5_TooMany "ValueError.__new__"))
    (sa_TooMany : PySem.W.findIn K (.ref C_TooMany) "__setattr__" = some (some (.builtin "object.__setattr__")))
    (eC_TooMany : PySem.W.subIn K (.ref C_TooMany) (.type "BaseException") = some true)
    (tC_TooMany : PySem.W.typeIn K (.ref C_TooMany) = some (.type "type"))
    (kC_TooMany : PySem.W.keepIn K (.ref C_TooMany) = true)
    (iC_TooMany : PySem.W.findIn K (.ref C_TooMany) "__init__" = some (some (.ref fI_TooMany)))
    (tI_TooMany : PySem.W.typeIn K (.ref fI_TooMany) = some (.type "function"))
    (lI_TooMany : K.lookup fI_TooMany = some ⟨oc2_TooMany, od2_TooMany, .func (fdx (nf_TooMany cc_TooMany cda_TooMany) .none kV2_TooMany doc2_TooMany pm2_TooMany an2_TooMany ct2_TooMany), osl_TooMany⟩)
    (cI_TooMany : PySem.W.codeIn K (.ref cda_TooMany) "TooMany.__init__" = true)
    (cd_TooMany : K.lookup cda_TooMany = some ⟨ccl_TooMany, cdd_TooMany, .fields vs_TooMany, ccs_TooMany⟩)
    (ce_TooMany : K.lookup cc_TooMany = some ⟨cl_TooMany, cld_TooMany, .cell (some (.ref C_TooMany)), csl_TooMany⟩)
    (cs_TooMany : PySem.W.clsIn K C_TooMany = some cdD_TooMany)
    (mr_TooMany : PySem.W.mroIn K C_TooMany (.ref C_TooMany) = some true)
    (su_TooMany : PySem.W.ks_superIn K C_TooMany C_TooMany "__init__" = some (some (.builtin "ValueError.__init__")))
    (va_TooMany : PySem.W.subIn K (.ref C_TooMany) (.type "ValueError") = some true)
    (ga_TooMany : PySem.W.findIn K (.ref C_TooMany) "__getattribute__" = some (some (.builtin "BaseException.__getattribute__")))
    (gg_TooMany : PySem.W.findIn K (.ref C_TooMany) "__getattr__" = some none)
    (hd_TooMany : PySem.W.hasDictIn K C_TooMany = true)
    (rC_TooMany : PySem.HandSPX.refsVE bm_TooMany = true)
    (hv_TooMany : vs_TooMany[2]? = some (.str file_TooMany tf_TooMany))
    (hf_TooMany : ((l.prog.main.file : Str) == file_TooMany) = true)
    (n_TooMany_what : PySem.W.findIn K (.ref C_TooMany) "what" = some none)
    (n_TooMany_count : PySem.W.findIn K (.ref C_TooMany) "count" = some none)
    (sup_ : PySem.W.nsIn K mainGlobals "super" = some none)
    (thi_ : PySem.W.nsIn K PySem.cStatics "thirdparty.any" = some none)
    (htop_ : (l.prog.main.scope.names.lookup ("super" : Str)).isSome = false)
    (sb_BadRules_BadRules : PySem.W.subIn K (.ref C_BadRules) (.ref C_BadRules) = some true)
    (sb_BadRules_TooMany : PySem.W.subIn K (.ref C_TooMany) (.ref C_BadRules) = some false)
    (sb_TooMany_BadRules : PySem.W.subIn K (.ref C_BadRules) (.ref C_TooMany) = some false)
    (sb_TooMany_TooMany : PySem.W.subIn K (.ref C_TooMany) (.ref C_TooMany) = some true) :
    ∃ (G : Cl) (fd : FuncData), (∀ (s : Shared) (v : Value), BindsTo s fd ⟨[v], []⟩ [("script", v)]) ∧ ∀ base : Heap, K.In base → base.Ns mainGlobals mg → FnOk l.prog w K mg base (L2.CX l.prog w) 11 fa fd ["script"] (spM K G 1 m_law) := by
  have e := hfa.symm.trans (PySem.W.mg_of X G a_law)
  cases e
  have T : Tx K mg := ⟨PySem.W.mg_none_of X G z_bool, PySem.W.mg_none_of X G z_int, PySem.W.mg_none_of X G z_isinstance, PySem.W.mg_none_of X G z_len, PySem.W.mg_none_of X G z_range, PySem.W.mg_none_of X G z_sorted, PySem.W.mg_none_of X G z_str, PySem.W.mg_none_of X G z_tuple, tupC_mk (PySem.W.mg_of X G g_KINDS) l_KINDS rfl rfl (by exact (by decide : 4 ≤ sizeLine)) ((.cons ⟨_, rfl⟩ (.cons ⟨_, rfl⟩ (.cons ⟨_, rfl⟩ (.cons ⟨_, rfl⟩ .nil))))) (by decide), ⟨_, PySem.W.mg_of X G g_LETTERS⟩, ⟨_, PySem.W.mg_of X G g_MOST_ADDRESS⟩, ⟨_, PySem.W.mg_of X G g_MOST_DELAY⟩, ⟨_, PySem.W.mg_of X G g_MOST_DOUBLES⟩, ⟨_, PySem.W.mg_of X G g_MOST_LABEL⟩, ⟨_, PySem.W.mg_of X G g_MOST_LABELS⟩, ⟨_, PySem.W.mg_of X G g_MOST_LETTERS⟩, ⟨_, PySem.W.mg_of X G g_MOST_MOMENT⟩⟩
  have F_is_label := fun_mk (st := s_is_label) l_is_label c_is_label k_is_label
  have b_is_label := F_is_label.binds (ps := ["value"]) fun _ _ _ _ _ _ us hl => match us, hl with | [_], _ => rfl
  have F_is_name := fun_mk (st := s_is_name) l_is_name c_is_name k_is_name
  have b_is_name := F_is_name.binds (ps := ["value"]) fun _ _ _ _ _ _ us hl => match us, hl with | [_], _ => rfl
  have F_lies_under := fun_mk (st := s_lies_under) l_lies_under c_lies_under k_lies_under
  have b_lies_under := F_lies_under.binds (ps := ["owner", "top"]) fun _ _ _ _ _ _ us hl => match us, hl with | [_, _], _ => rfl
  have F_is_integer := fun_mk (st := s_is_integer) l_is_integer c_is_integer k_is_integer
  have b_is_integer := F_is_integer.binds (ps := ["value"]) fun _ _ _ _ _ _ us hl => match us, hl with | [_], _ => rfl
  have F_is_between := fun_mk (st := s_is_between) l_is_between c_is_between k_is_between
  have b_is_between := F_is_between.binds (ps := ["value", "low", "high"]) fun _ _ _ _ _ _ us hl => match us, hl with | [_, _, _], _ => rfl
  have F_is_letter := fun_mk (st := s_is_letter) l_is_letter c_is_letter k_is_letter
  have b_is_letter := F_is_letter.binds (ps := ["value"]) fun _ _ _ _ _ _ us hl => match us, hl with | [_], _ => rfl
  have F_letter_order := fun_mk (st := s_letter_order) l_letter_order c_letter_order k_letter_order
  have b_letter_order := F_letter_order.binds (ps := ["letter"]) fun _ _ _ _ _ _ us hl => match us, hl with | [_], _ => rfl
  have F_are_letters := fun_mk (st := s_are_letters) l_are_letters c_are_letters k_are_letters
  have b_are_letters := F_are_letters.binds (ps := ["value"]) fun _ _ _ _ _ _ us hl => match us, hl with | [_], _ => rfl
  have F_check_wire := fun_mk (st := s_check_wire) l_check_wire c_check_wire k_check_wire
  have b_check_wire := F_check_wire.binds (ps := ["rules"]) fun _ _ _ _ _ _ us hl => match us, hl with | [_], _ => rfl
  have F_check_row := fun_mk (st := s_check_row) l_check_row c_check_row k_check_row
  have b_check_row := F_check_row.binds (ps := ["letters", "what"]) fun _ _ _ _ _ _ us hl => match us, hl with | [_, _], _ => rfl
  have F_check_letters := fun_mk (st := s_check_letters) l_check_letters c_check_letters k_check_letters
  have b_check_letters := F_check_letters.binds (ps := ["rules", "questions", "replies"]) fun _ _ _ _ _ _ us hl => match us, hl with | [_, _, _], _ => rfl
  have F_is_candidate := fun_mk (st := s_is_candidate) l_is_candidate c_is_candidate k_is_candidate
  have b_is_candidate := F_is_candidate.binds (ps := ["rules", "question", "reply"]) fun _ _ _ _ _ _ us hl => match us, hl with | [_, _, _], _ => rfl
  have F_candidates_of := fun_mk (st := s_candidates_of) l_candidates_of c_candidates_of k_candidates_of
  have b_candidates_of := F_candidates_of.binds (ps := ["rules", "questions", "replies"]) fun _ _ _ _ _ _ us hl => match us, hl with | [_, _, _], _ => rfl
  have F_Matcher___init__ := fun_mk (st := s_Matcher___init__) l_Matcher___init__ c_Matcher___init__ k_Matcher___init__
  have b_Matcher___init__ := F_Matcher___init__.binds (ps := ["self", "candidates", "doubles"]) fun _ _ _ _ _ _ us hl => match us, hl with | [_, _, _], _ => rfl
  have F_Matcher_replies_of := fun_mk (st := s_Matcher_replies_of) l_Matcher_replies_of c_Matcher_replies_of k_Matcher_replies_of
  have b_Matcher_replies_of := F_Matcher_replies_of.binds (ps := ["self", "question"]) fun _ _ _ _ _ _ us hl => match us, hl with | [_, _], _ => rfl
  have F_Matcher_turn_over := fun_mk (st := s_Matcher_turn_over) l_Matcher_turn_over c_Matcher_turn_over k_Matcher_turn_over
  have b_Matcher_turn_over := F_Matcher_turn_over.binds (ps := ["self", "question", "reply"]) fun _ _ _ _ _ _ us hl => match us, hl with | [_, _, _], _ => rfl
  have F_Matcher_grow := fun_mk (st := s_Matcher_grow) l_Matcher_grow c_Matcher_grow k_Matcher_grow
  have b_Matcher_grow := F_Matcher_grow.binds (ps := ["self", "reply"]) fun _ _ _ _ _ _ us hl => match us, hl with | [_, _], _ => rfl
  have F_match := fun_mk (st := s_match) l_match c_match k_match
  have b_match := F_match.binds (ps := ["candidates", "doubles"]) fun _ _ _ _ _ _ us hl => match us, hl with | [_, _], _ => rfl
  have F_attribute := fun_mk (st := s_attribute) l_attribute c_attribute k_attribute
  have b_attribute := F_attribute.binds (ps := ["rules", "questions", "replies"]) fun _ _ _ _ _ _ us hl => match us, hl with | [_, _, _], _ => rfl
  have F_least_forged := fun_mk (st := s_least_forged) l_least_forged c_least_forged k_least_forged
  have b_least_forged := F_least_forged.binds (ps := ["rules", "questions", "replies"]) fun _ _ _ _ _ _ us hl => match us, hl with | [_, _, _], _ => rfl
  have F_is_attribution := fun_mk (st := s_is_attribution) l_is_attribution c_is_attribution k_is_attribution
  have b_is_attribution := F_is_attribution.binds (ps := ["rules", "questions", "replies", "paper"]) fun _ _ _ _ _ _ us hl => match us, hl with | [_, _, _, _], _ => rfl
  have F_crowd_of := fun_mk (st := s_crowd_of) l_crowd_of c_crowd_of k_crowd_of
  have b_crowd_of := F_crowd_of.binds (ps := ["rules", "questions", "replies"]) fun _ _ _ _ _ _ us hl => match us, hl with | [_, _, _], _ => rfl
  have F_standing_of := fun_mk (st := s_standing_of) l_standing_of c_standing_of k_standing_of
  have b_standing_of := F_standing_of.binds (ps := ["rules", "questions", "replies", "index"]) fun _ _ _ _ _ _ us hl => match us, hl with | [_, _, _, _], _ => rfl
  have F__law_number := fun_mk (st := s__law_number) l__law_number c__law_number k__law_number
  have b__law_number := F__law_number.binds (ps := ["script", "k", "most"]) fun _ _ _ _ _ _ us hl => match us, hl with | [_, _, _], _ => rfl
  have F__law_row := fun_mk (st := s__law_row) l__law_row c__law_row k__law_row
  have b__law_row := F__law_row.binds (ps := ["script", "k", "sizes"]) fun _ _ _ _ _ _ us hl => match us, hl with | [_, _, _], _ => rfl
  have F__law_label := fun_mk (st := s__law_label) l__law_label c__law_label k__law_label
  have b__law_label := F__law_label.binds (ps := ["number"]) fun _ _ _ _ _ _ us hl => match us, hl with | [_], _ => rfl
  have F__law_key := fun_mk (st := s__law_key) l__law_key c__law_key k__law_key
  have b__law_key := F__law_key.binds (ps := ["letter"]) fun _ _ _ _ _ _ us hl => match us, hl with | [_], _ => rfl
  have F__law_rules := fun_mk (st := s__law_rules) l__law_rules c__law_rules k__law_rules
  have b__law_rules := F__law_rules.binds (ps := ["script"]) fun _ _ _ _ _ _ us hl => match us, hl with | [_], _ => rfl
  have F__law_pools := fun_mk (st := s__law_pools) l__law_pools c__law_pools k__law_pools
  have b__law_pools := F__law_pools.binds (ps := ["script"]) fun _ _ _ _ _ _ us hl => match us, hl with | [_], _ => rfl
  have F__law_base := fun_mk (st := s__law_base) l__law_base c__law_base k__law_base
  have b__law_base := F__law_base.binds (ps := ["script", "delay"]) fun _ _ _ _ _ _ us hl => match us, hl with | [_, _], _ => rfl
  have F__law_letter := fun_mk (st := s__law_letter) l__law_letter c__law_letter k__law_letter
  have b__law_letter := F__law_letter.binds (ps := ["pools", "variant", "moment"]) fun _ _ _ _ _ _ us hl => match us, hl with | [_, _, _], _ => rfl
  have F__law_letters := fun_mk (st := s__law_letters) l__law_letters c__law_letters k__law_letters
  have b__law_letters := F__law_letters.binds (ps := ["script", "at", "many", "pools", "base", "delay", "slots"]) fun _ _ _ _ _ _ us hl => match us, hl with | [_, _, _, _, _, _, _], _ => rfl
  have F__law_candidates := fun_mk (st := s__law_candidates) l__law_candidates c__law_candidates k__law_candidates
  have b__law_candidates := F__law_candidates.binds (ps := ["rules", "questions", "replies"]) fun _ _ _ _ _ _ us hl => match us, hl with | [_, _, _], _ => rfl
  have F__law_greedy := fun_mk (st := s__law_greedy) l__law_greedy c__law_greedy k__law_greedy
  have b__law_greedy := F__law_greedy.binds (ps := ["candidates", "doubles", "many", "left_out", "taken"]) fun _ _ _ _ _ _ us hl => match us, hl with | [_, _, _, _, _], _ => rfl
  have F__law_forged := fun_mk (st := s__law_forged) l__law_forged c__law_forged k__law_forged
  have b__law_forged := F__law_forged.binds (ps := ["paper"]) fun _ _ _ _ _ _ us hl => match us, hl with | [_], _ => rfl
  have F__law_asked := fun_mk (st := s__law_asked) l__law_asked c__law_asked k__law_asked
  have b__law_asked := F__law_asked.binds (ps := ["script", "many"]) fun _ _ _ _ _ _ us hl => match us, hl with | [_, _], _ => rfl
  have F__law_refuses_index := fun_mk (st := s__law_refuses_index) l__law_refuses_index c__law_refuses_index k__law_refuses_index
  have b__law_refuses_index := F__law_refuses_index.binds (ps := ["rules", "questions", "replies", "index"]) fun _ _ _ _ _ _ us hl => match us, hl with | [_, _, _, _], _ => rfl
  have F__law_is_open := fun_mk (st := s__law_is_open) l__law_is_open c__law_is_open k__law_is_open
  have b__law_is_open := F__law_is_open.binds (ps := ["rules", "questions", "replies", "due", "index", "least"]) fun _ _ _ _ _ _ us hl => match us, hl with | [_, _, _, _, _, _], _ => rfl
  have F_law := fun_mk (st := s_law) l_law c_law k_law
  have b_law := F_law.binds (ps := ["script"]) fun _ _ _ _ _ _ us hl => match us, hl with | [_], _ => rfl
  refine ⟨(⟨fun c => match c with | 0 => C_BadRules | 1 => C_TooMany | 2 => C_Matcher | _ => 0, fun c => match c with | 0 => ["value", "field"] | 1 => ["what", "count"] | 2 => ["candidates", "doubles", "taken", "came"] | _ => []⟩ : Cl), PySem.W.fnOf "law" "law" (defArgs s_law) (defBody s_law) (defScope s_law) .none kV_law dc_law pm_law an_law cd_law ct_law, fun s v => .of_eq rfl, fun base _ _ => ?_⟩
  have Z : Errs l.prog w K mg base (⟨fun c => match c with | 0 => C_BadRules | 1 => C_TooMany | 2 => C_Matcher | _ => 0, fun c => match c with | 0 => ["value", "field"] | 1 => ["what", "count"] | 2 => ["candidates", "doubles", "taken", "came"] | _ => []⟩ : Cl) := ⟨PySem.W.mg_of X G aC_BadRules, err_mk_BadRules X G aC_BadRules xC_BadRules sa_BadRules eC_BadRules tC_BadRules kC_BadRules iC_BadRules tI_BadRules lI_BadRules cI_BadRules cd_BadRules ce_BadRules cs_BadRules mr_BadRules su_BadRules va_BadRules ga_BadRules gg_BadRules hd_BadRules rC_BadRules hv_BadRules hf_BadRules n_BadRules_value n_BadRules_field sup_ thi_ htop_ rfl rfl, rfl, ⟨ga_BadRules, gg_BadRules, eC_BadRules, hd_BadRules⟩, n_BadRules_value, n_BadRules_field, PySem.W.mg_of X G aC_TooMany, err_mk_TooMany X G aC_TooMany xC_TooMany sa_TooMany eC_TooMany tC_TooMany kC_TooMany iC_TooMany tI_TooMany lI_TooMany cI_TooMany cd_TooMany ce_TooMany cs_TooMany mr_TooMany su_TooMany va_TooMany ga_TooMany gg_TooMany hd_TooMany rC_TooMany hv_TooMany hf_TooMany n_TooMany_what n_TooMany_count sup_ thi_ htop_ rfl rfl, rfl, ⟨ga_TooMany, gg_TooMany, eC_TooMany, hd_TooMany⟩, n_TooMany_what, n_TooMany_count, ⟨⟨pg_Matcher, hd_Matcher, po_Matcher, sa_Matcher⟩, (List.forall_mem_cons.2 ⟨n_Matcher_candidates, (List.forall_mem_cons.2 ⟨n_Matcher_doubles, (List.forall_mem_cons.2 ⟨n_Matcher_taken, (List.forall_mem_cons.2 ⟨n_Matcher_came, (by intro f hf; cases hf)⟩)⟩)⟩)⟩), (show (["candidates", "doubles", "taken", "came"] : List Str).Nodup by decide +kernel), (show (["candidates", "doubles", "taken", "came"] : List Str).length < 900 by decide +kernel)⟩, rfl, fun c c2 b h => by
    unfold mtab at h
    split at h
    · rename_i hlt
      obtain ⟨h1, h2⟩ := hlt
      have hc : c = 0 ∨ c = 1 := by omega
      have hc2 : c2 = 0 ∨ c2 = 1 := by omega
      rcases hc with rfl | rfl <;> rcases hc2 with rfl | rfl
      · simp at h; subst h; exact exm_mk eC_BadRules cs_BadRules tC_BadRules sb_BadRules_BadRules
      · simp at h; subst h; exact exm_mk eC_BadRules cs_BadRules tC_BadRules sb_BadRules_TooMany
      · simp at h; subst h; exact exm_mk eC_TooMany cs_TooMany tC_TooMany sb_TooMany_BadRules
      · simp at h; subst h; exact exm_mk eC_TooMany cs_TooMany tC_TooMany sb_TooMany_TooMany
    · cases h⟩
  have O_is_label : Ok l.prog w K mg base (⟨fun c => match c with | 0 => C_BadRules | 1 => C_TooMany | 2 => C_Matcher | _ => 0, fun c => match c with | 0 => ["value", "field"] | 1 => ["what", "count"] | 2 => ["candidates", "doubles", "taken", "came"] | _ => []⟩ : Cl) 1 "is_label" ["value"] m_is_label := ⟨_, _, PySem.W.mg_of X G a_is_label, F_is_label.kp, b_is_label, d_is_label F_is_label T Z ⟩
  have O_is_name : Ok l.prog w K mg base (⟨fun c => match c with | 0 => C_BadRules | 1 => C_TooMany | 2 => C_Matcher | _ => 0, fun c => match c with | 0 => ["value", "field"] | 1 => ["what", "count"] | 2 => ["candidates", "doubles", "taken", "came"] | _ => []⟩ : Cl) 2 "is_name" ["value"] m_is_name := ⟨_, _, PySem.W.mg_of X G a_is_name, F_is_name.kp, b_is_name, d_is_name F_is_name T Z O_is_label⟩
  have O_lies_under : Ok l.prog w K mg base (⟨fun c => match c with | 0 => C_BadRules | 1 => C_TooMany | 2 => C_Matcher | _ => 0, fun c => match c with | 0 => ["value", "field"] | 1 => ["what", "count"] | 2 => ["candidates", "doubles", "taken", "came"] | _ => []⟩ : Cl) 1 "lies_under" ["owner", "top"] m_lies_under := ⟨_, _, PySem.W.mg_of X G a_lies_under, F_lies_under.kp, b_lies_under, d_lies_under F_lies_under T Z ⟩
  have O_is_integer : Ok l.prog w K mg base (⟨fun c => match c with | 0 => C_BadRules | 1 => C_TooMany | 2 => C_Matcher | _ => 0, fun c => match c with | 0 => ["value", "field"] | 1 => ["what", "count"] | 2 => ["candidates", "doubles", "taken", "came"] | _ => []⟩ : Cl) 1 "is_integer" ["value"] m_is_integer := ⟨_, _, PySem.W.mg_of X G a_is_integer, F_is_integer.kp, b_is_integer, d_is_integer F_is_integer T Z ⟩
  have O_is_between : Ok l.prog w K mg base (⟨fun c => match c with | 0 => C_BadRules | 1 => C_TooMany | 2 => C_Matcher | _ => 0, fun c => match c with | 0 => ["value", "field"] | 1 => ["what", "count"] | 2 => ["candidates", "doubles", "taken", "came"] | _ => []⟩ : Cl) 2 "is_between" ["value", "low", "high"] m_is_between := ⟨_, _, PySem.W.mg_of X G a_is_between, F_is_between.kp, b_is_between, d_is_between F_is_between T Z O_is_integer⟩
  have O_is_letter : Ok l.prog w K mg base (⟨fun c => match c with | 0 => C_BadRules | 1 => C_TooMany | 2 => C_Matcher | _ => 0, fun c => match c with | 0 => ["value", "field"] | 1 => ["what", "count"] | 2 => ["candidates", "doubles", "taken", "came"] | _ => []⟩ : Cl) 3 "is_letter" ["value"] m_is_letter := ⟨_, _, PySem.W.mg_of X G a_is_letter, F_is_letter.kp, b_is_letter, d_is_letter F_is_letter T Z O_is_name O_lies_under O_is_between⟩
  have O_letter_order : Ok l.prog w K mg base (⟨fun c => match c with | 0 => C_BadRules | 1 => C_TooMany | 2 => C_Matcher | _ => 0, fun c => match c with | 0 => ["value", "field"] | 1 => ["what", "count"] | 2 => ["candidates", "doubles", "taken", "came"] | _ => []⟩ : Cl) 1 "letter_order" ["letter"] m_letter_order := ⟨_, _, PySem.W.mg_of X G a_letter_order, F_letter_order.kp, b_letter_order, d_letter_order F_letter_order T Z ⟩
  have O_are_letters : Ok l.prog w K mg base (⟨fun c => match c with | 0 => C_BadRules | 1 => C_TooMany | 2 => C_Matcher | _ => 0, fun c => match c with | 0 => ["value", "field"] | 1 => ["what", "count"] | 2 => ["candidates", "doubles", "taken", "came"] | _ => []⟩ : Cl) 4 "are_letters" ["value"] m_are_letters := ⟨_, _, PySem.W.mg_of X G a_are_letters, F_are_letters.kp, b_are_letters, d_are_letters F_are_letters T Z O_is_letter O_letter_order⟩
  have O_check_wire : Ok l.prog w K mg base (⟨fun c => match c with | 0 => C_BadRules | 1 => C_TooMany | 2 => C_Matcher | _ => 0, fun c => match c with | 0 => ["value", "field"] | 1 => ["what", "count"] | 2 => ["candidates", "doubles", "taken", "came"] | _ => []⟩ : Cl) 3 "check_wire" ["rules"] m_check_wire := ⟨_, _, PySem.W.mg_of X G a_check_wire, F_check_wire.kp, b_check_wire, d_check_wire F_check_wire T Z O_is_between⟩
  have O_check_row : Ok l.prog w K mg base (⟨fun c => match c with | 0 => C_BadRules | 1 => C_TooMany | 2 => C_Matcher | _ => 0, fun c => match c with | 0 => ["value", "field"] | 1 => ["what", "count"] | 2 => ["candidates", "doubles", "taken", "came"] | _ => []⟩ : Cl) 5 "check_row" ["letters", "what"] m_check_row := ⟨_, _, PySem.W.mg_of X G a_check_row, F_check_row.kp, b_check_row, d_check_row F_check_row T Z O_are_letters⟩
  have O_check_letters : Ok l.prog w K mg base (⟨fun c => match c with | 0 => C_BadRules | 1 => C_TooMany | 2 => C_Matcher | _ => 0, fun c => match c with | 0 => ["value", "field"] | 1 => ["what", "count"] | 2 => ["candidates", "doubles", "taken", "came"] | _ => []⟩ : Cl) 6 "check_letters" ["rules", "questions", "replies"] m_check_letters := ⟨_, _, PySem.W.mg_of X G a_check_letters, F_check_letters.kp, b_check_letters, d_check_letters F_check_letters T Z O_check_wire O_check_row⟩
  have O_is_candidate : Ok l.prog w K mg base (⟨fun c => match c with | 0 => C_BadRules | 1 => C_TooMany | 2 => C_Matcher | _ => 0, fun c => match c with | 0 => ["value", "field"] | 1 => ["what", "count"] | 2 => ["candidates", "doubles", "taken", "came"] | _ => []⟩ : Cl) 3 "is_candidate" ["rules", "question", "reply"] m_is_candidate := ⟨_, _, PySem.W.mg_of X G a_is_candidate, F_is_candidate.kp, b_is_candidate, d_is_candidate F_is_candidate T Z O_is_between⟩
  have O_candidates_of : Ok l.prog w K mg base (⟨fun c => match c with | 0 => C_BadRules | 1 => C_TooMany | 2 => C_Matcher | _ => 0, fun c => match c with | 0 => ["value", "field"] | 1 => ["what", "count"] | 2 => ["candidates", "doubles", "taken", "came"] | _ => []⟩ : Cl) 7 "candidates_of" ["rules", "questions", "replies"] m_candidates_of := ⟨_, _, PySem.W.mg_of X G a_candidates_of, F_candidates_of.kp, b_candidates_of, d_candidates_of F_candidates_of T Z O_check_letters O_is_candidate⟩
  have O_Matcher___init__ : OkC l.prog w K mg base (⟨fun c => match c with | 0 => C_BadRules | 1 => C_TooMany | 2 => C_Matcher | _ => 0, fun c => match c with | 0 => ["value", "field"] | 1 => ["what", "count"] | 2 => ["candidates", "doubles", "taken", "came"] | _ => []⟩ : Cl) 1 2 "Matcher" ["self", "candidates", "doubles"] m_Matcher___init__ := ⟨_, _, PySem.W.mg_of X G aC_Matcher, ⟨mk_Matcher, a_Matcher___init__, fn_Matcher___init__, kC_Matcher⟩, b_Matcher___init__, d_Matcher___init__ F_Matcher___init__ T Z ⟩
  have O_Matcher_replies_of : OkM l.prog w K mg base (⟨fun c => match c with | 0 => C_BadRules | 1 => C_TooMany | 2 => C_Matcher | _ => 0, fun c => match c with | 0 => ["value", "field"] | 1 => ["what", "count"] | 2 => ["candidates", "doubles", "taken", "came"] | _ => []⟩ : Cl) 1 2 "replies_of" ["self", "question"] m_Matcher_replies_of := ⟨_, _, ⟨a_Matcher_replies_of, fn_Matcher_replies_of, k_Matcher_replies_of⟩, b_Matcher_replies_of, (show ("replies_of" : Str) ∉ (["candidates", "doubles", "taken", "came"] : List Str) by decide +kernel), d_Matcher_replies_of F_Matcher_replies_of T Z ⟩
  have O_Matcher_turn_over : OkM l.prog w K mg base (⟨fun c => match c with | 0 => C_BadRules | 1 => C_TooMany | 2 => C_Matcher | _ => 0, fun c => match c with | 0 => ["value", "field"] | 1 => ["what", "count"] | 2 => ["candidates", "doubles", "taken", "came"] | _ => []⟩ : Cl) 1 2 "turn_over" ["self", "question", "reply"] m_Matcher_turn_over := ⟨_, _, ⟨a_Matcher_turn_over, fn_Matcher_turn_over, k_Matcher_turn_over⟩, b_Matcher_turn_over, (show ("turn_over" : Str) ∉ (["candidates", "doubles", "taken", "came"] : List Str) by decide +kernel), d_Matcher_turn_over F_Matcher_turn_over T Z ⟩
  have O_Matcher_grow : OkM l.prog w K mg base (⟨fun c => match c with | 0 => C_BadRules | 1 => C_TooMany | 2 => C_Matcher | _ => 0, fun c => match c with | 0 => ["value", "field"] | 1 => ["what", "count"] | 2 => ["candidates", "doubles", "taken", "came"] | _ => []⟩ : Cl) 2 2 "grow" ["self", "reply"] m_Matcher_grow := ⟨_, _, ⟨a_Matcher_grow, fn_Matcher_grow, k_Matcher_grow⟩, b_Matcher_grow, (show ("grow" : Str) ∉ (["candidates", "doubles", "taken", "came"] : List Str) by decide +kernel), d_Matcher_grow F_Matcher_grow T Z O_Matcher_replies_of O_Matcher_turn_over⟩
  have O_match : Ok l.prog w K mg base (⟨fun c => match c with | 0 => C_BadRules | 1 => C_TooMany | 2 => C_Matcher | _ => 0, fun c => match c with | 0 => ["value", "field"] | 1 => ["what", "count"] | 2 => ["candidates", "doubles", "taken", "came"] | _ => []⟩ : Cl) 3 "match" ["candidates", "doubles"] m_match := ⟨_, _, PySem.W.mg_of X G a_match, F_match.kp, b_match, d_match F_match T Z O_Matcher___init__ O_Matcher_grow⟩
  have O_attribute : Ok l.prog w K mg base (⟨fun c => match c with | 0 => C_BadRules | 1 => C_TooMany | 2 => C_Matcher | _ => 0, fun c => match c with | 0 => ["value", "field"] | 1 => ["what", "count"] | 2 => ["candidates", "doubles", "taken", "came"] | _ => []⟩ : Cl) 8 "attribute" ["rules", "questions", "replies"] m_attribute := ⟨_, _, PySem.W.mg_of X G a_attribute, F_attribute.kp, b_attribute, d_attribute F_attribute T Z O_candidates_of O_match⟩
  have O_least_forged : Ok l.prog w K mg base (⟨fun c => match c with | 0 => C_BadRules | 1 => C_TooMany | 2 => C_Matcher | _ => 0, fun c => match c with | 0 => ["value", "field"] | 1 => ["what", "count"] | 2 => ["candidates", "doubles", "taken", "came"] | _ => []⟩ : Cl) 9 "least_forged" ["rules", "questions", "replies"] m_least_forged := ⟨_, _, PySem.W.mg_of X G a_least_forged, F_least_forged.kp, b_least_forged, d_least_forged F_least_forged T Z O_attribute⟩
  have O_is_attribution : Ok l.prog w K mg base (⟨fun c => match c with | 0 => C_BadRules | 1 => C_TooMany | 2 => C_Matcher | _ => 0, fun c => match c with | 0 => ["value", "field"] | 1 => ["what", "count"] | 2 => ["candidates", "doubles", "taken", "came"] | _ => []⟩ : Cl) 8 "is_attribution" ["rules", "questions", "replies", "paper"] m_is_attribution := ⟨_, _, PySem.W.mg_of X G a_is_attribution, F_is_attribution.kp, b_is_attribution, d_is_attribution F_is_attribution T Z O_is_between O_candidates_of⟩
  have O_crowd_of : Ok l.prog w K mg base (⟨fun c => match c with | 0 => C_BadRules | 1 => C_TooMany | 2 => C_Matcher | _ => 0, fun c => match c with | 0 => ["value", "field"] | 1 => ["what", "count"] | 2 => ["candidates", "doubles", "taken", "came"] | _ => []⟩ : Cl) 8 "crowd_of" ["rules", "questions", "replies"] m_crowd_of := ⟨_, _, PySem.W.mg_of X G a_crowd_of, F_crowd_of.kp, b_crowd_of, d_crowd_of F_crowd_of T Z O_candidates_of O_Matcher_replies_of O_match⟩
  have O_standing_of : Ok l.prog w K mg base (⟨fun c => match c with | 0 => C_BadRules | 1 => C_TooMany | 2 => C_Matcher | _ => 0, fun c => match c with | 0 => ["value", "field"] | 1 => ["what", "count"] | 2 => ["candidates", "doubles", "taken", "came"] | _ => []⟩ : Cl) 9 "standing_of" ["rules", "questions", "replies", "index"] m_standing_of := ⟨_, _, PySem.W.mg_of X G a_standing_of, F_standing_of.kp, b_standing_of, d_standing_of F_standing_of T Z O_is_between O_check_letters O_candidates_of O_crowd_of⟩
  have O__law_number : Ok l.prog w K mg base (⟨fun c => match c with | 0 => C_BadRules | 1 => C_TooMany | 2 => C_Matcher | _ => 0, fun c => match c with | 0 => ["value", "field"] | 1 => ["what", "count"] | 2 => ["candidates", "doubles", "taken", "came"] | _ => []⟩ : Cl) 1 "_law_number" ["script", "k", "most"] m__law_number := ⟨_, _, PySem.W.mg_of X G a__law_number, F__law_number.kp, b__law_number, d__law_number F__law_number T Z ⟩
  have O__law_row : Ok l.prog w K mg base (⟨fun c => match c with | 0 => C_BadRules | 1 => C_TooMany | 2 => C_Matcher | _ => 0, fun c => match c with | 0 => ["value", "field"] | 1 => ["what", "count"] | 2 => ["candidates", "doubles", "taken", "came"] | _ => []⟩ : Cl) 2 "_law_row" ["script", "k", "sizes"] m__law_row := ⟨_, _, PySem.W.mg_of X G a__law_row, F__law_row.kp, b__law_row, d__law_row F__law_row T Z O__law_number⟩
  have O__law_label : Ok l.prog w K mg base (⟨fun c => match c with | 0 => C_BadRules | 1 => C_TooMany | 2 => C_Matcher | _ => 0, fun c => match c with | 0 => ["value", "field"] | 1 => ["what", "count"] | 2 => ["candidates", "doubles", "taken", "came"] | _ => []⟩ : Cl) 1 "_law_label" ["number"] m__law_label := ⟨_, _, PySem.W.mg_of X G a__law_label, F__law_label.kp, b__law_label, d__law_label F__law_label T Z ⟩
  have O__law_key : Ok l.prog w K mg base (⟨fun c => match c with | 0 => C_BadRules | 1 => C_TooMany | 2 => C_Matcher | _ => 0, fun c => match c with | 0 => ["value", "field"] | 1 => ["what", "count"] | 2 => ["candidates", "doubles", "taken", "came"] | _ => []⟩ : Cl) 1 "_law_key" ["letter"] m__law_key := ⟨_, _, PySem.W.mg_of X G a__law_key, F__law_key.kp, b__law_key, d__law_key F__law_key T Z ⟩
  have O__law_rules : Ok l.prog w K mg base (⟨fun c => match c with | 0 => C_BadRules | 1 => C_TooMany | 2 => C_Matcher | _ => 0, fun c => match c with | 0 => ["value", "field"] | 1 => ["what", "count"] | 2 => ["candidates", "doubles", "taken", "came"] | _ => []⟩ : Cl) 3 "_law_rules" ["script"] m__law_rules := ⟨_, _, PySem.W.mg_of X G a__law_rules, F__law_rules.kp, b__law_rules, d__law_rules F__law_rules T Z O__law_row⟩
  have O__law_pools : Ok l.prog w K mg base (⟨fun c => match c with | 0 => C_BadRules | 1 => C_TooMany | 2 => C_Matcher | _ => 0, fun c => match c with | 0 => ["value", "field"] | 1 => ["what", "count"] | 2 => ["candidates", "doubles", "taken", "came"] | _ => []⟩ : Cl) 3 "_law_pools" ["script"] m__law_pools := ⟨_, _, PySem.W.mg_of X G a__law_pools, F__law_pools.kp, b__law_pools, d__law_pools F__law_pools T Z O__law_number O__law_row O__law_label⟩
  have O__law_base : Ok l.prog w K mg base (⟨fun c => match c with | 0 => C_BadRules | 1 => C_TooMany | 2 => C_Matcher | _ => 0, fun c => match c with | 0 => ["value", "field"] | 1 => ["what", "count"] | 2 => ["candidates", "doubles", "taken", "came"] | _ => []⟩ : Cl) 3 "_law_base" ["script", "delay"] m__law_base := ⟨_, _, PySem.W.mg_of X G a__law_base, F__law_base.kp, b__law_base, d__law_base F__law_base T Z O__law_row⟩
  have O__law_letter : Ok l.prog w K mg base (⟨fun c => match c with | 0 => C_BadRules | 1 => C_TooMany | 2 => C_Matcher | _ => 0, fun c => match c with | 0 => ["value", "field"] | 1 => ["what", "count"] | 2 => ["candidates", "doubles", "taken", "came"] | _ => []⟩ : Cl) 1 "_law_letter" ["pools", "variant", "moment"] m__law_letter := ⟨_, _, PySem.W.mg_of X G a__law_letter, F__law_letter.kp, b__law_letter, d__law_letter F__law_letter T Z ⟩
  have O__law_letters : Ok l.prog w K mg base (⟨fun c => match c with | 0 => C_BadRules | 1 => C_TooMany | 2 => C_Matcher | _ => 0, fun c => match c with | 0 => ["value", "field"] | 1 => ["what", "count"] | 2 => ["candidates", "doubles", "taken", "came"] | _ => []⟩ : Cl) 3 "_law_letters" ["script", "at", "many", "pools", "base", "delay", "slots"] m__law_letters := ⟨_, _, PySem.W.mg_of X G a__law_letters, F__law_letters.kp, b__law_letters, d__law_letters F__law_letters T Z O__law_row O__law_key O__law_letter⟩
  have O__law_candidates : Ok l.prog w K mg base (⟨fun c => match c with | 0 => C_BadRules | 1 => C_TooMany | 2 => C_Matcher | _ => 0, fun c => match c with | 0 => ["value", "field"] | 1 => ["what", "count"] | 2 => ["candidates", "doubles", "taken", "came"] | _ => []⟩ : Cl) 1 "_law_candidates" ["rules", "questions", "replies"] m__law_candidates := ⟨_, _, PySem.W.mg_of X G a__law_candidates, F__law_candidates.kp, b__law_candidates, d__law_candidates F__law_candidates T Z ⟩
  have O__law_greedy : Ok l.prog w K mg base (⟨fun c => match c with | 0 => C_BadRules | 1 => C_TooMany | 2 => C_Matcher | _ => 0, fun c => match c with | 0 => ["value", "field"] | 1 => ["what", "count"] | 2 => ["candidates", "doubles", "taken", "came"] | _ => []⟩ : Cl) 1 "_law_greedy" ["candidates", "doubles", "many", "left_out", "taken"] m__law_greedy := ⟨_, _, PySem.W.mg_of X G a__law_greedy, F__law_greedy.kp, b__law_greedy, d__law_greedy F__law_greedy T Z ⟩
  have O__law_forged : Ok l.prog w K mg base (⟨fun c => match c with | 0 => C_BadRules | 1 => C_TooMany | 2 => C_Matcher | _ => 0, fun c => match c with | 0 => ["value", "field"] | 1 => ["what", "count"] | 2 => ["candidates", "doubles", "taken", "came"] | _ => []⟩ : Cl) 1 "_law_forged" ["paper"] m__law_forged := ⟨_, _, PySem.W.mg_of X G a__law_forged, F__law_forged.kp, b__law_forged, d__law_forged F__law_forged T Z ⟩
  have O__law_asked : Ok l.prog w K mg base (⟨fun c => match c with | 0 => C_BadRules | 1 => C_TooMany | 2 => C_Matcher | _ => 0, fun c => match c with | 0 => ["value", "field"] | 1 => ["what", "count"] | 2 => ["candidates", "doubles", "taken", "came"] | _ => []⟩ : Cl) 3 "_law_asked" ["script", "many"] m__law_asked := ⟨_, _, PySem.W.mg_of X G a__law_asked, F__law_asked.kp, b__law_asked, d__law_asked F__law_asked T Z O__law_row⟩
  have O__law_refuses_index : Ok l.prog w K mg base (⟨fun c => match c with | 0 => C_BadRules | 1 => C_TooMany | 2 => C_Matcher | _ => 0, fun c => match c with | 0 => ["value", "field"] | 1 => ["what", "count"] | 2 => ["candidates", "doubles", "taken", "came"] | _ => []⟩ : Cl) 10 "_law_refuses_index" ["rules", "questions", "replies", "index"] m__law_refuses_index := ⟨_, _, PySem.W.mg_of X G a__law_refuses_index, F__law_refuses_index.kp, b__law_refuses_index, d__law_refuses_index F__law_refuses_index T Z O_standing_of⟩
  have O__law_is_open : Ok l.prog w K mg base (⟨fun c => match c with | 0 => C_BadRules | 1 => C_TooMany | 2 => C_Matcher | _ => 0, fun c => match c with | 0 => ["value", "field"] | 1 => ["what", "count"] | 2 => ["candidates", "doubles", "taken", "came"] | _ => []⟩ : Cl) 9 "_law_is_open" ["rules", "questions", "replies", "due", "index", "least"] m__law_is_open := ⟨_, _, PySem.W.mg_of X G a__law_is_open, F__law_is_open.kp, b__law_is_open, d__law_is_open F__law_is_open T Z O_is_attribution O__law_greedy O__law_forged⟩
  exact d_law (P := l.prog) (w := w) (base := base) F_law T Z O_attribute O_least_forged O_standing_of O__law_number O__law_row O__law_rules O__law_pools O__law_base O__law_letters O__law_candidates O__law_greedy O__law_forged O__law_asked O__law_refuses_index O__law_is_open
end Lk34
open PySem PySem.W PyProof.Rows
set_option maxRecDepth 100000 in
set_option maxHeartbeats 0 in
theorem PySem.Challenge.cw_surely_k34_whole_standings_holds : PySem.Challenge.rw_surely_k34_whole_standings.Holds := by
  w_on; o_law; k_head; (case hw => w_witness2)
  k_fill
  refine Sm.walk_lawG (l := PySem.Challenge.rw_surely_k34_whole_standings) (f := Lk34.m_law) (k := 11) rfl rfl (by exact ⟨rfl, by decide, by decide⟩) (fun w h Y => PySem.W.kIn_of Y) Lk34.main ?F
  case F =>
    intro w mg fa h KX G hmg
    refine' Lk34.all_mk KX G hmg ?aC_Matcher ?pg_Matcher ?hd_Matcher ?po_Matcher ?sa_Matcher ?mk_Matcher ?kC_Matcher ?n_Matcher_candidates ?n_Matcher_doubles ?n_Matcher_taken ?n_Matcher_came ?a_is_label ?l_is_label ?c_is_label ?k_is_label ?a_is_name ?l_is_name ?c_is_name ?k_is_name ?a_lies_under ?l_lies_under ?c_lies_under ?k_lies_under ?a_is_integer ?l_is_integer ?c_is_integer ?k_is_integer ?a_is_between ?l_is_between ?c_is_between ?k_is_between ?a_is_letter ?l_is_letter ?c_is_letter ?k_is_letter ?a_letter_order ?l_letter_order ?c_letter_order ?k_letter_order ?a_are_letters ?l_are_letters ?c_are_letters ?k_are_letters ?a_check_wire ?l_check_wire ?c_check_wire ?k_check_wire ?a_check_row ?l_check_row ?c_check_row ?k_check_row ?a_check_letters ?l_check_letters ?c_check_letters ?k_check_letters ?a_is_candidate ?l_is_candidate ?c_is_candidate ?k_is_candidate ?a_candidates_of ?l_candidates_of ?c_candidates_of ?k_candidates_of ?a_Matcher___init__ ?fn_Matcher___init__ ?l_Matcher___init__ ?c_Matcher___init__ ?k_Matcher___init__ ?a_Matcher_replies_of ?fn_Matcher_replies_of ?l_Matcher_replies_of ?c_Matcher_replies_of ?k_Matcher_replies_of ?a_Matcher_turn_over ?fn_Matcher_turn_over ?l_Matcher_turn_over ?c_Matcher_turn_over ?k_Matcher_turn_over ?a_Matcher_grow ?fn_Matcher_grow ?l_Matcher_grow ?c_Matcher_grow ?k_Matcher_grow ?a_match ?l_match ?c_match ?k_match ?a_attribute ?l_attribute ?c_attribute ?k_attribute ?a_least_forged ?l_least_forged ?c_least_forged ?k_least_forged ?a_is_attribution ?l_is_attribution ?c_is_attribution ?k_is_attribution ?a_crowd_of ?l_crowd_of ?c_crowd_of ?k_crowd_of ?a_standing_of ?l_standing_of ?c_standing_of ?k_standing_of ?a__law_number ?l__law_number ?c__law_number ?k__law_number ?a__law_row ?l__law_row ?c__law_row ?k__law_row ?a__law_label ?l__law_label ?c__law_label ?k__law_label ?a__law_key ?l__law_key ?c__law_key ?k__law_key ?a__law_rules ?l__law_rules ?c__law_rules ?k__law_rules ?a__law_pools ?l__law_pools ?c__law_pools ?k__law_pools ?a__law_base ?l__law_base ?c__law_base ?k__law_base ?a__law_letter ?l__law_letter ?c__law_letter ?k__law_letter ?a__law_letters ?l__law_letters ?c__law_letters ?k__law_letters ?a__law_candidates ?l__law_candidates ?c__law_candidates ?k__law_candidates ?a__law_greedy ?l__law_greedy ?c__law_greedy ?k__law_greedy ?a__law_forged ?l__law_forged ?c__law_forged ?k__law_forged ?a__law_asked ?l__law_asked ?c__law_asked ?k__law_asked ?a__law_refuses_index ?l__law_refuses_index ?c__law_refuses_index ?k__law_refuses_index ?a__law_is_open ?l__law_is_open ?c__law_is_open ?k__law_is_open ?a_law ?l_law ?c_law ?k_law ?z_bool ?z_int ?z_isinstance ?z_len ?z_range ?z_sorted ?z_str ?z_tuple ?g_KINDS ?l_KINDS ?g_LETTERS ?g_MOST_ADDRESS ?g_MOST_DELAY ?g_MOST_DOUBLES ?g_MOST_LABEL ?g_MOST_LABELS ?g_MOST_LETTERS ?g_MOST_MOMENT ?aC_BadRules ?xC_BadRules ?sa_BadRules ?eC_BadRules ?tC_BadRules ?kC_BadRules ?iC_BadRules ?tI_BadRules ?lI_BadRules ?cI_BadRules ?cd_BadRules ?ce_BadRules ?cs_BadRules ?mr_BadRules ?su_BadRules ?va_BadRules ?ga_BadRules ?gg_BadRules ?hd_BadRules ?rC_BadRules ?hv_BadRules ?hf_BadRules ?n_BadRules_value ?n_BadRules_field ?aC_TooMany ?xC_TooMany ?sa_TooMany ?eC_TooMany ?tC_TooMany ?kC_TooMany ?iC_TooMany ?tI_TooMany ?lI_TooMany ?cI_TooMany ?cd_TooMany ?ce_TooMany ?cs_TooMany ?mr_TooMany ?su_TooMany ?va_TooMany ?ga_TooMany ?gg_TooMany ?hd_TooMany ?rC_TooMany ?hv_TooMany ?hf_TooMany ?n_TooMany_what ?n_TooMany_count ?sup_ ?thi_ ?htop_ ?sb_BadRules_BadRules ?sb_BadRules_TooMany ?sb_TooMany_BadRules ?sb_TooMany_TooMany
    (case aC_Matcher => first | k_is | ks_is); (case pg_Matcher => first | k_is | ks_is); (case hd_Matcher => first | k_is | ks_is); (case po_Matcher => first | k_is | ks_is); (case sa_Matcher => first | k_is | ks_is); (case mk_Matcher => first | k_is | ks_is); (case kC_Matcher => first | k_is | ks_is); (case n_Matcher_candidates => first | k_is | ks_is); (case n_Matcher_doubles => first | k_is | ks_is); (case n_Matcher_taken => first | k_is | ks_is); (case n_Matcher_came => first | k_is | ks_is); (case a_is_label => first | k_is | ks_is); (case l_is_label => first | k_is | ks_is); (case c_is_label => first | k_is | ks_is); (case k_is_label => first | k_is | ks_is); (case a_is_name => first | k_is | ks_is); (case l_is_name => first | k_is | ks_is); (case c_is_name => first | k_is | ks_is); (case k_is_name => first | k_is | ks_is); (case a_lies_under => first | k_is | ks_is); (case l_lies_under => first | k_is | ks_is); (case c_lies_under => first | k_is | ks_is); (case k_lies_under => first | k_is | ks_is); (case a_is_integer => first | k_is | ks_is); (case l_is_integer => first | k_is | ks_is); (case c_is_integer => first | k_is | ks_is); (case k_is_integer => first | k_is | ks_is); (case a_is_between => first | k_is | ks_is); (case l_is_between => first | k_is | ks_is); (case c_is_between => first | k_is | ks_is); (case k_is_between => first | k_is | ks_is); (case a_is_letter => first | k_is | ks_is); (case l_is_letter => first | k_is | ks_is); (case c_is_letter => first | k_is | ks_is); (case k_is_letter => first | k_is | ks_is); (case a_letter_order => first | k_is | ks_is); (case l_letter_order => first | k_is | ks_is); (case c_letter_order => first | k_is | ks_is); (case k_letter_order => first | k_is | ks_is); (case a_are_letters => first | k_is | ks_is); (case l_are_letters => first | k_is | ks_is); (case c_are_letters => first | k_is | ks_is); (case k_are_letters => first | k_is | ks_is); (case a_check_wire => first | k_is | ks_is); (case l_check_wire => first | k_is | ks_is); (case c_check_wire => first | k_is | ks_is); (case k_check_wire => first | k_is | ks_is); (case a_check_row => first | k_is | ks_is); (case l_check_row => first | k_is | ks_is); (case c_check_row => first | k_is | ks_is); (case k_check_row => first | k_is | ks_is); (case a_check_letters => first | k_is | ks_is); (case l_check_letters => first | k_is | ks_is); (case c_check_letters => first | k_is | ks_is); (case k_check_letters => first | k_is | ks_is); (case a_is_candidate => first | k_is | ks_is); (case l_is_candidate => first | k_is | ks_is); (case c_is_candidate => first | k_is | ks_is); (case k_is_candidate => first | k_is | ks_is); (case a_candidates_of => first | k_is | ks_is); (case l_candidates_of => first | k_is | ks_is); (case c_candidates_of => first | k_is | ks_is); (case k_candidates_of => first | k_is | ks_is); (case a_Matcher___init__ => first | k_is | ks_is); (case fn_Matcher___init__ => first | k_is | ks_is); (case l_Matcher___init__ => first | k_is | ks_is); (case c_Matcher___init__ => first | k_is | ks_is); (case k_Matcher___init__ => first | k_is | ks_is); (case a_Matcher_replies_of => first | k_is | ks_is); (case fn_Matcher_replies_of => first | k_is | ks_is); (case l_Matcher_replies_of => first | k_is | ks_is); (case c_Matcher_replies_of => first | k_is | ks_is); (case k_Matcher_replies_of => first | k_is | ks_is); (case a_Matcher_turn_over => first | k_is | ks_is); (case fn_Matcher_turn_over => first | k_is | ks_is); (case l_Matcher_turn_over => first | k_is | ks_is); (case c_Matcher_turn_over => first | k_is | ks_is); (case k_Matcher_turn_over => first | k_is | ks_is); (case a_Matcher_grow => first | k_is | ks_is); (case fn_Matcher_grow => first | k_is | ks_is); (case l_Matcher_grow => first | k_is | ks_is); (case c_Matcher_grow => first | k_is | ks_is); (case k_Matcher_grow => first | k_is | ks_is); (case a_match => first | k_is | ks_is); (case l_match => first | k_is | ks_is); (case c_match => first | k_is | ks_is); (case k_match => first | k_is | ks_is); (case a_attribute => first | k_is | ks_is); (case l_attribute => first | k_is | ks_is); (case c_attribute => first | k_is | ks_is); (case k_attribute => first | k_is | ks_is); (case a_least_forged => first | k_is | ks_is); (case l_least_forged => first | k_is | ks_is); (case c_least_forged => first | k_is | ks_is); (case k_least_forged => first | k_is | ks_is); (case a_is_attribution => first | k_is | ks_is); (case l_is_attribution => first | k_is | ks_is); (case c_is_attribution => first | k_is | ks_is); (case k_is_attribution => first | k_is | ks_is); (case a_crowd_of => first | k_is | ks_is); (case l_crowd_of => first | k_is | ks_is); (case c_crowd_of => first | k_is | ks_is); (case k_crowd_of => first | k_is | ks_is); (case a_standing_of => first | k_is | ks_is); (case l_standing_of => first | k_is | ks_is); (case c_standing_of => first | k_is | ks_is); (case k_standing_of => first | k_is | ks_is); (case a__law_number => first | k_is | ks_is); (case l__law_number => first | k_is | ks_is); (case c__law_number => first | k_is | ks_is); (case k__law_number => first | k_is | ks_is); (case a__law_row => first | k_is | ks_is); (case l__law_row => first | k_is | ks_is); (case c__law_row => first | k_is | ks_is); (case k__law_row => first | k_is | ks_is); (case a__law_label => first | k_is | ks_is); (case l__law_label => first | k_is | ks_is); (case c__law_label => first | k_is | ks_is); (case k__law_label => first | k_is | ks_is); (case a__law_key => first | k_is | ks_is); (case l__law_key => first | k_is | ks_is); (case c__law_key => first | k_is | ks_is); (case k__law_key => first | k_is | ks_is); (case a__law_rules => first | k_is | ks_is); (case l__law_rules => first | k_is | ks_is); (case c__law_rules => first | k_is | ks_is); (case k__law_rules => first | k_is | ks_is); (case a__law_pools => first | k_is | ks_is); (case l__law_pools => first | k_is | ks_is); (case c__law_pools => first | k_is | ks_is); (case k__law_pools => first | k_is | ks_is); (case a__law_base => first | k_is | ks_is); (case l__law_base => first | k_is | ks_is); (case c__law_base => first | k_is | ks_is); (case k__law_base => first | k_is | ks_is); (case a__law_letter => first | k_is | ks_is); (case l__law_letter => first | k_is | ks_is); (case c__law_letter => first | k_is | ks_is); (case k__law_letter => first | k_is | ks_is); (case a__law_letters => first | k_is | ks_is); (case l__law_letters => first | k_is | ks_is); (case c__law_letters => first | k_is | ks_is); (case k__law_letters => first | k_is | ks_is); (case a__law_candidates => first | k_is | ks_is); (case l__law_candidates => first | k_is | ks_is); (case c__law_candidates => first | k_is | ks_is); (case k__law_candidates => first | k_is | ks_is); (case a__law_greedy => first | k_is | ks_is); (case l__law_greedy => first | k_is | ks_is); (case c__law_greedy => first | k_is | ks_is); (case k__law_greedy => first | k_is | ks_is); (case a__law_forged => first | k_is | ks_is); (case l__law_forged => first | k_is | ks_is); (case c__law_forged => first | k_is | ks_is); (case k__law_forged => first | k_is | ks_is); (case a__law_asked => first | k_is | ks_is); (case l__law_asked => first | k_is | ks_is); (case c__law_asked => first | k_is | ks_is); (case k__law_asked => first | k_is | ks_is); (case a__law_refuses_index => first | k_is | ks_is); (case l__law_refuses_index => first | k_is | ks_is); (case c__law_refuses_index => first | k_is | ks_is); (case k__law_refuses_index => first | k_is | ks_is); (case a__law_is_open => first | k_is | ks_is); (case l__law_is_open => first | k_is | ks_is); (case c__law_is_open => first | k_is | ks_is); (case k__law_is_open => first | k_is | ks_is); (case a_law => first | k_is | ks_is); (case l_law => first | k_is | ks_is); (case c_law => first | k_is | ks_is); (case k_law => first | k_is | ks_is); (case z_bool => first | k_is | ks_is); (case z_int => first | k_is | ks_is); (case z_isinstance => first | k_is | ks_is); (case z_len => first | k_is | ks_is); (case z_range => first | k_is | ks_is); (case z_sorted => first | k_is | ks_is); (case z_str => first | k_is | ks_is); (case z_tuple => first | k_is | ks_is); (case g_KINDS => first | k_is | ks_is); (case l_KINDS => first | k_is | ks_is); (case g_LETTERS => first | k_is | ks_is); (case g_MOST_ADDRESS => first | k_is | ks_is); (case g_MOST_DELAY => first | k_is | ks_is); (case g_MOST_DOUBLES => first | k_is | ks_is); (case g_MOST_LABEL => first | k_is | ks_is); (case g_MOST_LABELS => first | k_is | ks_is); (case g_MOST_LETTERS => first | k_is | ks_is); (case g_MOST_MOMENT => first | k_is | ks_is); (case aC_BadRules => first | k_is | ks_is); (case xC_BadRules => first | k_is | ks_is); (case sa_BadRules => first | k_is | ks_is); (case eC_BadRules => first | k_is | ks_is); (case tC_BadRules => first | k_is | ks_is); (case kC_BadRules => first | k_is | ks_is); (case iC_BadRules => first | k_is | ks_is); (case tI_BadRules => first | k_is | ks_is); (case lI_BadRules => first | k_is | ks_is); (case cI_BadRules => first | k_is | ks_is); (case cd_BadRules => first | k_is | ks_is); (case ce_BadRules => first | k_is | ks_is); (case cs_BadRules => first | k_is | ks_is); (case mr_BadRules => first | k_is | ks_is); (case su_BadRules => first | k_is | ks_is); (case va_BadRules => first | k_is | ks_is); (case ga_BadRules => first | k_is | ks_is); (case gg_BadRules => first | k_is | ks_is); (case hd_BadRules => first | k_is | ks_is); (case n_BadRules_value => first | k_is | ks_is); (case n_BadRules_field => first | k_is | ks_is); (case aC_TooMany => first | k_is | ks_is); (case xC_TooMany => first | k_is | ks_is); (case sa_TooMany => first | k_is | ks_is); (case eC_TooMany => first | k_is | ks_is); (case tC_TooMany => first | k_is | ks_is); (case kC_TooMany => first | k_is | ks_is); (case iC_TooMany => first | k_is | ks_is); (case tI_TooMany => first | k_is | ks_is); (case lI_TooMany => first | k_is | ks_is); (case cI_TooMany => first | k_is | ks_is); (case cd_TooMany => first | k_is | ks_is); (case ce_TooMany => first | k_is | ks_is); (case cs_TooMany => first | k_is | ks_is); (case mr_TooMany => first | k_is | ks_is); (case su_TooMany => first | k_is | ks_is); (case va_TooMany => first | k_is | ks_is); (case ga_TooMany => first | k_is | ks_is); (case gg_TooMany => first | k_is | ks_is); (case hd_TooMany => first | k_is | ks_is); (case n_TooMany_what => first | k_is | ks_is); (case n_TooMany_count => first | k_is | ks_is); (case sup_ => first | k_is | ks_is); (case thi_ => first | k_is | ks_is); (case htop_ => first | rfl | decide +kernel); (case sb_BadRules_BadRules => first | k_is | ks_is); (case sb_BadRules_TooMany => first | k_is | ks_is); (case sb_TooMany_BadRules => first | k_is | ks_is); (case sb_TooMany_TooMany => first | k_is | ks_is); (case rC_BadRules => decide +kernel); (case hv_BadRules => rfl); (case hf_BadRules => first | rfl | decide +kernel); (case rC_TooMany => decide +kernel); (case hv_TooMany => rfl); (case hf_TooMany => first | rfl | decide +kernel)
