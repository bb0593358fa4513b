import PyProof.Rows.All
import Wide.All
import OpenK.AllK
import Wide.FinOn
import HandS.ForMost
import HandS.ForExc
import HandS.CallSlots
import HandS.IsInst
import HandS.TupAny
import HandS.Style
import HandS.TupLe
import HandS.SortInts
import HandS.Conv
import HandS.TupLen
import HandS.Small
import HandS.More
import KE.KSortedM
import PySem.Challenge.RW_surely_k25_window_of_a_line
set_option Elab.async false
set_option linter.all false
set_option maxRecDepth 100000
set_option maxHeartbeats 4000000
/-! SmA: plain data, a plain heap, how both stand in the model's abstract heap; results; readings by a plain function. -/
namespace Sm
open PySem L2

/-! ### plain data -/
inductive D where
  | non | bl (b : Bool) | int (i : Int) | str (x : Str) | tup (ds : List D) | fls (ds : List D) | ref (n : Nat)
inductive O where
  | lst (xs : List D) | dK (kvs : List (Key × D)) | dT (kvs : List (List Key × D)) | ins (c : Nat) (fs : List (Option D))
abbrev Hh := List O
abbrev Ev := List (Option D)
/-- classes by number: where they stand, their attributes in order -/
structure Cl where
  at_ : Nat → Addr
  nm : Nat → List Str

/-- a tuple of the module's own top -/
def KT (K : PySem.W.Frag) (a : Addr) (xs : List V) : Prop := ∃ (o : Obj) (its : Array Value) (n : Nat), K.lookup a = some o ∧ o.cls = .type "tuple" ∧ o.data = .seq its n ∧ its.size ≤ sizeLine ∧ Vals xs its.toList
/-- a list that stands still: the script -/
def FL (K : PySem.W.Frag) (H : Hp) (a : Addr) (xs : List V) : Prop := (∃ o, H a = some (.frz o (.lst xs))) ∨
  ∃ (o : Obj) (its : Array Value) (n : Nat), K.lookup a = some o ∧ o.cls = .type "list" ∧ o.dict = none ∧ o.data = .seq its n ∧ its.size ≤ sizeLine ∧ Vals xs its.toList
theorem FL.sq {K : PySem.W.Frag} {H : Hp} {a : Addr} {xs : List V} (h : FL K H a xs) : SqL K H a xs := h.elim (fun ⟨o, e⟩ => .inl (.inr ⟨o, e⟩)) .inr
def D.isStr : D → Bool
  | .str _ => true
  | _ => false
/-- what such a tuple looks like: words, or ((), 0) -/
def isK : List D → Bool
  | [.str _] => true
  | [.tup [], .int _] => true
  | ds => decide (2 ≤ ds.length) && ds.all D.isStr
section
variable (K : PySem.W.Frag) (ρ : List Addr) (H : Hp)
mutual
inductive Rv : V → D → Prop where
  | non : Rv .non .non
  | bl (b : Bool) : Rv (.bl b) (.bl b)
  | int (i : Int) : Rv (.int i) (.int i)
  | str (x : Str) : Rv (.str x) (.str x)
  | tup {a : Addr} {vs : List V} {ds : List D} : H a = some (.tup vs) → Rvs vs ds → Rv (.ref a) (.tup ds)
  | ktp {a : Addr} {vs : List V} {ds : List D} : KT K a vs → isK ds = true → Rvs vs ds → Rv (.ref a) (.tup ds)
  | fls {a : Addr} {vs : List V} {ds : List D} : FL K H a vs → Rvs vs ds → Rv (.ref a) (.fls ds)
  | ref {n : Nat} {a : Addr} : ρ[n]? = some a → Rv (.ref a) (.ref n)
inductive Rvs : List V → List D → Prop where
  | nil : Rvs [] []
  | cons {v : V} {vs : List V} {d : D} {ds : List D} : Rv v d → Rvs vs ds → Rvs (v :: vs) (d :: ds)
end
end

/-- later: more addresses are known, tuples stand as they did -/
structure Ex (K : PySem.W.Frag) (ρ : List Addr) (H : Hp) (ρ' : List Addr) (H' : Hp) : Prop where
  pre : ∀ (n : Nat) (a : Addr), ρ[n]? = some a → ρ'[n]? = some a
  tup : ∀ a vs, H a = some (.tup vs) → H' a = some (.tup vs)
  frz : ∀ a o u, H a = some (.frz o u) → H' a = some (.frz o u)
theorem Ex.refl {K : PySem.W.Frag} {ρ : List Addr} {H : Hp} : Ex K ρ H ρ H := ⟨fun _ _ h => h, fun _ _ h => h, fun _ _ _ h => h⟩
theorem Ex.trans {K : PySem.W.Frag} {ρ ρ1 ρ2 : List Addr} {H H1 H2 : Hp} (a : Ex K ρ H ρ1 H1) (b : Ex K ρ1 H1 ρ2 H2) : Ex K ρ H ρ2 H2 :=
  ⟨fun n x h => b.pre n x (a.pre n x h), fun x vs h => b.tup x vs (a.tup x vs h), fun x o u h => b.frz x o u (a.frz x o u h)⟩

section
variable {K : PySem.W.Frag} {ρ ρ' : List Addr} {H H' : Hp}
mutual
theorem Rv.mono (e : Ex K ρ H ρ' H') : ∀ {v : V} {d : D}, Rv K ρ H v d → Rv K ρ' H' v d
  | _, _, .non => .non
  | _, _, .bl b => .bl b
  | _, _, .int i => .int i
  | _, _, .str x => .str x
  | _, _, .tup h r => .tup (e.tup _ _ h) (Rvs.mono e r)
  | _, _, .ktp h q r => .ktp h q (Rvs.mono e r)
  | _, _, .fls h r => .fls (h.imp (fun ⟨o, z⟩ => ⟨o, e.frz _ _ _ z⟩) id) (Rvs.mono e r)
  | _, _, .ref h => .ref (e.pre _ _ h)
theorem Rvs.mono (e : Ex K ρ H ρ' H') : ∀ {vs : List V} {ds : List D}, Rvs K ρ H vs ds → Rvs K ρ' H' vs ds
  | _, _, .nil => .nil
  | _, _, .cons h r => .cons (Rv.mono e h) (Rvs.mono e r)
end
theorem Rv.sqT {v : V} {ds : List D} (r : Rv K ρ H v (.tup ds)) : ∃ a vs, v = .ref a ∧ SqT K H a vs ∧ Rvs K ρ H vs ds := by
  cases r with
  | tup h r => exact ⟨_, _, rfl, SqT.of h, r⟩
  | ktp h _ r => exact ⟨_, _, rfl, .inr h, r⟩
theorem Rvs.length : ∀ {vs : List V} {ds : List D}, Rvs K ρ H vs ds → vs.length = ds.length
  | _, _, .nil => rfl
  | _, _, .cons _ r => by rw [List.length_cons, List.length_cons, Rvs.length r]
theorem Rvs.get : ∀ {vs : List V} {ds : List D} {i : Nat} {d : D}, Rvs K ρ H vs ds → ds[i]? = some d → ∃ v, vs[i]? = some v ∧ Rv K ρ H v d
  | _, _, _, _, .nil, e => by simp at e
  | _, _, 0, _, .cons h r, e => by simp at e; subst e; exact ⟨_, rfl, h⟩
  | _, _, i + 1, _, .cons h r, e => by
    obtain ⟨v, h1, h2⟩ := Rvs.get (i := i) r (by simpa using e)
    exact ⟨v, by simpa using h1, h2⟩
theorem Rvs.getV : ∀ {vs : List V} {ds : List D} {i : Nat} {v : V}, Rvs K ρ H vs ds → vs[i]? = some v → ∃ d, ds[i]? = some d ∧ Rv K ρ H v d
  | _, _, _, _, .nil, e => by simp at e
  | _, _, 0, _, .cons h r, e => by simp at e; subst e; exact ⟨_, rfl, h⟩
  | _, _, i + 1, _, .cons h r, e => by
    obtain ⟨v, h1, h2⟩ := Rvs.getV (i := i) r (by simpa using e)
    exact ⟨v, by simpa using h1, h2⟩
theorem Rvs.append : ∀ {vs ws : List V} {ds es : List D}, Rvs K ρ H vs ds → Rvs K ρ H ws es → Rvs K ρ H (vs ++ ws) (ds ++ es)
  | _, _, _, _, .nil, s => s
  | _, _, _, _, .cons h r, s => .cons h (Rvs.append r s)
theorem Rvs.set {v : V} {d : D} (h : Rv K ρ H v d) : ∀ {vs : List V} {ds : List D} (i : Nat), Rvs K ρ H vs ds → Rvs K ρ H (vs.set i v) (ds.set i d)
  | _, _, _, .nil => .nil
  | _, _, 0, .cons _ r => .cons h r
  | _, _, i + 1, .cons q r => .cons q (Rvs.set h i r)
theorem Rvs.take : ∀ {vs : List V} {ds : List D} (n : Nat), Rvs K ρ H vs ds → Rvs K ρ H (vs.take n) (ds.take n)
  | _, _, 0, _ => .nil
  | _, _, _ + 1, .nil => .nil
  | _, _, n + 1, .cons h r => .cons h (Rvs.take n r)
theorem Rvs.drop : ∀ {vs : List V} {ds : List D} (n : Nat), Rvs K ρ H vs ds → Rvs K ρ H (vs.drop n) (ds.drop n)
  | _, _, 0, r => r
  | _, _, _ + 1, .nil => .nil
  | _, _, n + 1, .cons _ r => Rvs.drop n r
theorem Rvs.reverse {vs : List V} {ds : List D} (h : Rvs K ρ H vs ds) : Rvs K ρ H vs.reverse ds.reverse := by
  induction vs generalizing ds with
  | nil => cases h; exact .nil
  | cons v vs ih =>
    cases h with
    | cons h r =>
      rw [List.reverse_cons, List.reverse_cons]
      exact (ih r).append (.cons h .nil)
theorem Rvs.dropLast {vs : List V} {ds : List D} (h : Rvs K ρ H vs ds) : Rvs K ρ H vs.dropLast ds.dropLast := by
  rw [List.dropLast_eq_take, List.dropLast_eq_take, h.length]
  exact h.take _
theorem Rvs.ints : ∀ {vs : List V} {ns : List Int}, Rvs K ρ H vs (ns.map D.int) → vs = ns.map V.int
  | _, [], h => by cases h; rfl
  | _, n :: ns, h => by
    cases h with
    | cons h r =>
      cases h
      rw [Rvs.ints r]
      rfl
theorem Rvs.of_ints : ∀ ns : List Int, Rvs K ρ H (ns.map V.int) (ns.map D.int)
  | [] => .nil
  | n :: ns => .cons (.int n) (Rvs.of_ints ns)
end

/-! ### the plain heap in the abstract one -/
section
variable (K : PySem.W.Frag) (G : Cl) (ρ : List Addr) (H : Hp)
def RoF : Option V → Option D → Prop
  | some v, some d => Rv K ρ H v d
  | none, none => True
  | _, _ => False
inductive Ro (a : Addr) : O → Prop where
  | lst {vs : List V} {ds : List D} : H a = some (.lst vs) → Rvs K ρ H vs ds → Ro a (.lst ds)
  | dK {kvs : List (Key × V)} {ds : List (Key × D)} : H a = some (.dK kvs) → Paired (fun (p : Key × V) (q : Key × D) => p.1 = q.1 ∧ Rv K ρ H p.2 q.2) kvs ds → Ro a (.dK ds)
  | dT {kvs : List (List Key × V)} {ds : List (List Key × D)} : H a = some (.dT kvs) → Paired (fun (p : List Key × V) (q : List Key × D) => p.1 = q.1 ∧ Rv K ρ H p.2 q.2) kvs ds → Ro a (.dT ds)
  | ins {c : Nat} {dx : Addr} {fs : List (Str × V)} {ds : List (Option D)} : H a = some (.ins (G.at_ c) dx fs) → ds.length = (G.nm c).length → (∀ (i : Nat) (f : Str), (G.nm c)[i]? = some f → RoF K ρ H (fs.lookup f) (ds[i]?.join)) →
      (∀ f, f ∉ G.nm c → fs.lookup f = none) → fs.length ≤ ds.length → Ro a (.ins c ds)
structure Rh (h : Hh) : Prop where
  len : ρ.length = h.length
  inj : ∀ (i j : Nat) (a : Addr), ρ[i]? = some a → ρ[j]? = some a → i = j
  obj : ∀ (n : Nat) (o : O), h[n]? = some o → ∃ a : Addr, ρ[n]? = some a ∧ Ro K G ρ H a o
structure Re (σ : L2.St) (env : Ev) : Prop where
  len : σ.length = env.length
  get : ∀ (i : Nat) (d : D), env[i]? = some (some d) → ∃ v : V, σ[i]? = some (some v) ∧ Rv K ρ H v d
/-- an exception's dict -/
def Rx (d : Option Addr) (c : Nat) (fs : List D) : Prop := ∃ (x : Addr) (vfs : List (Str × V)), d = some x ∧ H x = some (.xd vfs) ∧ fs.length = (G.nm c).length ∧ ∀ (i : Nat) (f : Str), (G.nm c)[i]? = some f → ∃ (v : V) (y : D), vfs.lookup f = some v ∧ fs[i]? = some y ∧ Rv K ρ H v y
end

section
variable {K : PySem.W.Frag} {G : Cl} {ρ ρ' : List Addr} {H H' : Hp} {h h' : Hh} {a : Addr} {o : O} {σ : L2.St} {env : Ev}
theorem RoF.mono (e : Ex K ρ H ρ' H') {v : Option V} {d : Option D} (r : RoF K ρ H v d) : RoF K ρ' H' v d := by
  cases v with
  | none => cases d with | none => trivial | some d => exact r.elim
  | some v => cases d with | none => exact r.elim | some d => exact Rv.mono e r
theorem Ro.mono (e : Ex K ρ H ρ' H') (ha : H' a = H a) (r : Ro K G ρ H a o) : Ro K G ρ' H' a o := by
  cases r with
  | lst q r => exact .lst (ha.trans q) (r.mono e)
  | dK q r => exact .dK (ha.trans q) (Paired.mapP r fun _ _ z => ⟨z.1, z.2.mono e⟩)
  | dT q r => exact .dT (ha.trans q) (Paired.mapP r fun _ _ z => ⟨z.1, z.2.mono e⟩)
  | ins q l r n z => exact .ins (ha.trans q) l (fun i f hf => (r i f hf).mono e) n z
theorem Ro.there (r : Ro K G ρ H a o) : ∃ u, H a = some u ∧ (∀ xs, u ≠ .tup xs) ∧ (∀ ob w, u ≠ .frz ob w) := by
  cases r with
  | lst q _ => exact ⟨_, q, (fun xs z => by cases z), (fun ob xs z => by cases z)⟩
  | dK q _ => exact ⟨_, q, (fun xs z => by cases z), (fun ob xs z => by cases z)⟩
  | dT q _ => exact ⟨_, q, (fun xs z => by cases z), (fun ob xs z => by cases z)⟩
  | ins q _ _ _ _ => exact ⟨_, q, (fun xs z => by cases z), (fun ob xs z => by cases z)⟩
theorem Re.mono (e : Ex K ρ H ρ' H') (r : Re K ρ H σ env) : Re K ρ' H' σ env := ⟨r.len, fun i d h => by
  obtain ⟨v, h1, h2⟩ := r.get i d h
  exact ⟨v, h1, h2.mono e⟩⟩
theorem Re.set (r : Re K ρ H σ env) {v : V} {d : D} (q : Rv K ρ H v d) (i : Nat) : Re K ρ H (σ.set i (some v)) (env.set i (some d)) := ⟨by rw [List.length_set, List.length_set, r.len], fun j x h => by
  by_cases e : i = j
  · subst e
    by_cases l : i < env.length
    · rw [List.getElem?_set_self l] at h
      cases h
      exact ⟨v, List.getElem?_set_self (by rw [r.len]; exact l), q⟩
    · rw [List.getElem?_eq_none (by rw [List.length_set]; omega)] at h
      cases h
  · rw [List.getElem?_set_ne e] at h ⊢
    exact r.get j x h⟩
theorem tup_upd {p : Addr} {u : HO} (n : ∀ vs, H p ≠ some (.tup vs)) {a : Addr} {vs : List V} (h : H a = some (.tup vs)) : upd H p u a = some (.tup vs) := by
  rw [upd_ne (fun z => by rw [z] at h; exact n _ h)]
  exact h
theorem frz_upd {p : Addr} {u : HO} (n : ∀ o w, H p ≠ some (.frz o w)) {a : Addr} {o : Obj} {w : HO} (h : H a = some (.frz o w)) : upd H p u a = some (.frz o w) := by
  rw [upd_ne (fun z => by rw [z] at h; exact n _ _ h)]
  exact h
theorem Ex.fresh {p : Addr} {u : HO} (n : H p = none) : Ex K ρ H ρ (upd H p u) := ⟨fun _ _ h => h, fun a vs h => tup_upd (fun vs z => by rw [n] at z; cases z) h, fun a o w h => frz_upd (fun o w z => by rw [n] at z; cases z) h⟩
/-- a further object, not of the plain heap -/
theorem Rh.aux {p : Addr} {u : HO} (r : Rh K G ρ H h) (n : H p = none) : Rh K G ρ (upd H p u) h := ⟨r.len, r.inj, fun m o q => by
  obtain ⟨a, h1, h2⟩ := r.obj m o q
  obtain ⟨w, hw, _⟩ := h2.there
  exact ⟨a, h1, h2.mono (Ex.fresh n) (upd_ne (ne_of_none hw n))⟩⟩
theorem get_push {α : Type} {l : List α} {x y : α} {n : Nat} (e : (l ++ [x])[n]? = some y) : (n < l.length ∧ l[n]? = some y) ∨ (n = l.length ∧ x = y) := by
  by_cases q : n < l.length
  · rw [List.getElem?_append_left q] at e
    exact .inl ⟨q, e⟩
  · rw [List.getElem?_append_right (by omega)] at e
    by_cases q2 : n = l.length
    · subst q2
      simp at e
      exact .inr ⟨rfl, e⟩
    · rw [List.getElem?_eq_none (by simp; omega)] at e
      cases e
theorem get_push_lt {α : Type} {l : List α} {x y : α} {n : Nat} (e : l[n]? = some y) : (l ++ [x])[n]? = some y := by
  have q : n < l.length := (List.getElem?_eq_some_iff.mp e).1
  rw [List.getElem?_append_left q]
  exact e
theorem get_push_eq {α : Type} {l : List α} {x : α} : (l ++ [x])[l.length]? = some x := by simp
theorem Ex.push {p : Addr} {u : HO} (n : H p = none) : Ex K ρ H (ρ ++ [p]) (upd H p u) := ⟨fun m a e => get_push_lt e, (Ex.fresh (K := K) (ρ := ρ) n).tup, (Ex.fresh (K := K) (ρ := ρ) n).frz⟩
/-- a new object of the plain heap -/
theorem Rh.new {p : Addr} {u : HO} (r : Rh K G ρ H h) (n : H p = none) (ro : Ro K G (ρ ++ [p]) (upd H p u) p o) : Rh K G (ρ ++ [p]) (upd H p u) (h ++ [o]) := by
  have far : ∀ (m : Nat), ρ[m]? ≠ some p := fun m z => by
    have hm : m < h.length := by rw [← r.len]; exact (List.getElem?_eq_some_iff.mp z).1
    obtain ⟨a, h1, h2⟩ := r.obj m h[m] (by simp [hm])
    rw [z] at h1
    cases h1
    obtain ⟨w, hw, _⟩ := h2.there
    rw [n] at hw
    cases hw
  refine ⟨by rw [List.length_append, List.length_append, r.len]; rfl, fun i j a h1 h2 => ?_, fun m o' q => ?_⟩
  · rcases get_push h1 with ⟨l1, e1⟩ | ⟨l1, e1⟩
    · rcases get_push h2 with ⟨l2, e2⟩ | ⟨l2, e2⟩
      · exact r.inj i j a e1 e2
      · subst e2
        exact absurd e1 (far i)
    · rcases get_push h2 with ⟨l2, e2⟩ | ⟨l2, e2⟩
      · subst e1
        exact absurd e2 (far j)
      · rw [l1, l2]
  · rcases get_push q with ⟨l1, e1⟩ | ⟨l1, e1⟩
    · obtain ⟨a, h1, h2⟩ := r.obj m o' e1
      obtain ⟨w, hw, _⟩ := h2.there
      exact ⟨a, get_push_lt h1, h2.mono (Ex.push n) (upd_ne (ne_of_none hw n))⟩
    · subst e1
      refine ⟨p, ?_, ro⟩
      rw [l1, ← r.len]
      exact get_push_eq
/-- an object of the plain heap is changed -/
theorem Ex.write {n : Nat} {u : HO} (r : Rh K G ρ H h) (ha : ρ[n]? = some a) (ho : h[n]? = some o) : Ex K ρ H ρ (upd H a u) := by
  obtain ⟨a', h1, h2⟩ := r.obj n o ho
  rw [ha] at h1
  cases h1
  obtain ⟨w, hw, t1, t2⟩ := h2.there
  refine ⟨fun _ _ h => h, fun b vs h => tup_upd (fun vs z => ?_) h, fun b o w h => frz_upd (fun o w z => ?_) h⟩
  · rw [hw] at z
    exact t1 vs (Option.some.inj z)
  · rw [hw] at z
    exact t2 o w (Option.some.inj z)
theorem Rh.write {n : Nat} {u : HO} {o' : O} (r : Rh K G ρ H h) (ha : ρ[n]? = some a) (ho : h[n]? = some o) (ro : Ro K G ρ (upd H a u) a o') : Rh K G ρ (upd H a u) (h.set n o') := by
  refine ⟨by rw [List.length_set]; exact r.len, r.inj, fun m o2 q => ?_⟩
  have hn : n < h.length := (List.getElem?_eq_some_iff.mp ho).1
  by_cases e : n = m
  · subst e
    rw [List.getElem?_set_self hn] at q
    cases q
    exact ⟨a, ha, ro⟩
  · rw [List.getElem?_set_ne e] at q
    obtain ⟨b, h1, h2⟩ := r.obj m o2 q
    refine ⟨b, h1, h2.mono (Ex.write r ha ho) (upd_ne fun z => ?_)⟩
    rw [z] at h1
    exact e (r.inj n m a ha h1)
theorem Rh.at_ {n : Nat} (r : Rh K G ρ H h) (ha : ρ[n]? = some a) (ho : h[n]? = some o) : Ro K G ρ H a o := by
  obtain ⟨b, h1, h2⟩ := r.obj n o ho
  rw [ha] at h1
  cases h1
  exact h2
end

/-! ### results -/
inductive R (α : Type) where
  | ok (a : α) (h : Hh) | exc (c : Nat) (fs : List D) (h : Hh) | bad
def R.bind {α β : Type} (r : R α) (f : α → Hh → R β) : R β := match r with
  | .ok a h => f a h
  | .exc c fs h => .exc c fs h
  | .bad => .bad
@[simp] theorem R.bind_ok {α β : Type} (a : α) (h : Hh) (f : α → Hh → R β) : (R.ok a h).bind f = f a h := rfl
@[simp] theorem R.bind_exc {α β : Type} (c : Nat) (fs : List D) (h : Hh) (f : α → Hh → R β) : (R.exc c fs h : R α).bind f = .exc c fs h := rfl
@[simp] theorem R.bind_bad {α β : Type} (f : α → Hh → R β) : (R.bad : R α).bind f = .bad := rfl
/-- of an option -/
def R.opt {α : Type} : Option (α × Hh) → R α
  | some (a, h) => .ok a h
  | none => .bad
@[simp] theorem R.opt_some {α : Type} (a : α) (h : Hh) : R.opt (some (a, h)) = .ok a h := rfl
@[simp] theorem R.opt_none {α : Type} : R.opt (none : Option (α × Hh)) = .bad := rfl

section
variable (K : PySem.W.Frag) (G : Cl)
/-- what a result promises -/
def Po {α β : Type} (rel : List Addr → Hp → β → α → Prop) (W : WX) (ρ : List Addr) (H : Hp) (σ : L2.St) (r : R α) (Q : β → Hp → Prop) : Prop := match r with
  | .ok d h' => ∀ ρ' H' v, Ex K ρ H ρ' H' → Rh K G ρ' H' h' → rel ρ' H' v d → Q v H'
  | .exc c fs h' => ∀ ρ' H' d, Ex K ρ H ρ' H' → Rh K G ρ' H' h' → Rx K G ρ' H' d c fs → W (.ref (G.at_ c)) d σ H'
  | .bad => False
def tG {α β : Type} (rel : List Addr → Hp → β → α → Prop) (W : WX) (m : Ev → Hh → R α) : L2.St → Hp → (β → Hp → Prop) → Prop := fun σ H Q =>
  ∃ ρ h env, Rh K G ρ H h ∧ Re K ρ H σ env ∧ Po K G rel W ρ H σ (m env h) Q
abbrev relV : List Addr → Hp → V → D → Prop := fun ρ H => Rv K ρ H
abbrev relVs : List Addr → Hp → List V → List D → Prop := fun ρ H => Rvs K ρ H
abbrev relB : List Addr → Hp → Bool → Bool → Prop := fun _ _ b c => b = c
abbrev tM (W : WX) (m : Ev → Hh → R D) : TE := tG K G (relV K) W m
abbrev tL (W : WX) (m : Ev → Hh → R (List D)) : TA := tG K G (relVs K) W m
abbrev tT (W : WX) (m : Ev → Hh → R Bool) : TT := tG K G relB W m
end
section
variable {K : PySem.W.Frag} {G : Cl} {α β γ δ : Type} {rel : List Addr → Hp → β → α → Prop} {rel2 : List Addr → Hp → δ → γ → Prop} {W : WX} {ρ ρ1 : List Addr} {H H1 : Hp} {σ : L2.St} {Q : β → Hp → Prop} {h : Hh} {env : Ev}
theorem Po.shift {r : R α} (p : Po K G rel W ρ H σ r Q) (e : Ex K ρ H ρ1 H1) : Po K G rel W ρ1 H1 σ r Q := by
  cases r with
  | ok d h' => exact fun ρ' H' v e' => p ρ' H' v (e.trans e')
  | exc c fs h' => exact fun ρ' H' d e' => p ρ' H' d (e.trans e')
  | bad => exact p
theorem Po.imp {Q' : β → Hp → Prop} {r : R α} (p : Po K G rel W ρ H σ r Q) (hq : ∀ v H, Q v H → Q' v H) : Po K G rel W ρ H σ r Q' := by
  cases r with
  | ok d h' => exact fun ρ' H' v e a b => hq _ _ (p ρ' H' v e a b)
  | exc c fs h' => exact p
  | bad => exact p
/-- where one stands behind a first step -/
def Thn (K : PySem.W.Frag) (G : Cl) (rel : List Addr → Hp → β → α → Prop) (rel2 : List Addr → Hp → δ → γ → Prop) (W : WX) (σ : L2.St) (env : Ev) (f : α → Hh → R γ) (Q : δ → Hp → Prop) (ρ : List Addr) (H : Hp) (v : β) (H1 : Hp) : Prop :=
  ∃ ρ1 h1 d, Ex K ρ H ρ1 H1 ∧ Rh K G ρ1 H1 h1 ∧ Re K ρ1 H1 σ env ∧ rel ρ1 H1 v d ∧ Po K G rel2 W ρ1 H1 σ (f d h1) Q
theorem Po.bind {r : R α} {f : α → Hh → R γ} {Q : δ → Hp → Prop} (he : Re K ρ H σ env) (p : Po K G rel2 W ρ H σ (r.bind f) Q) : Po K G rel W ρ H σ r (Thn K G rel rel2 W σ env f Q ρ H) := by
  cases r with
  | ok d h' => exact fun ρ' H' v e a b => ⟨ρ', h', d, e, a, he.mono e, b, Po.shift p e⟩
  | exc c fs h' => exact p
  | bad => exact p
theorem tG_bind {m : Ev → Hh → R α} {f : α → Hh → R γ} {Q : δ → Hp → Prop} (hr : Rh K G ρ H h) (he : Re K ρ H σ env) (p : Po K G rel2 W ρ H σ ((m env h).bind f) Q) : tG K G rel W m σ H (Thn K G rel rel2 W σ env f Q ρ H) :=
  ⟨ρ, h, env, hr, he, Po.bind he p⟩
end
/-! a reading may be replaced by a stronger one -/
theorem peImp {X : Cx} {e : Expr} {t t' : TE} (h : PE X e t) (i : ∀ σ H Q, t' σ H Q → t σ H Q) : PE X e t' := ⟨fun pins s σ H Q I q => h.run pins s σ H Q I (i σ H Q q)⟩
theorem ptImp {X : Cx} {e : Expr} {t t' : TT} (h : PT X e t) (i : ∀ σ H Q, t' σ H Q → t σ H Q) : PT X e t' := ⟨fun pins s σ H Q I q => h.run pins s σ H Q I (i σ H Q q)⟩
theorem pwImp {X : Cx} {e : Expr} {t t' : TT} (h : PW X e t) (i : ∀ σ H Q, t' σ H Q → t σ H Q) : PW X e t' := ⟨fun wh pins s σ H Q I q => h.run wh pins s σ H Q I (i σ H Q q)⟩
theorem paImp {X : Cx} {e : List Expr} {t t' : TA} (h : PA X e t) (i : ∀ σ H Q, t' σ H Q → t σ H Q) : PA X e t' := ⟨fun pos pins s σ H Q I q => h.run pos pins s σ H Q I (i σ H Q q)⟩
theorem psImp {X : Cx} {e : Stmt} {t t' : TS} (h : PS X e t) (i : ∀ D σ H, t' D σ H → t D σ H) : PS X e t' := ⟨fun pins s σ H D I q => h.run pins s σ H D I (i D σ H q)⟩
theorem pssImp {X : Cx} {e : List Stmt} {t t' : TS} (h : PSs X e t) (i : ∀ D σ H, t' D σ H → t D σ H) : PSs X e t' := ⟨fun pins s σ H D I q => h.run pins s σ H D I (i D σ H q)⟩
end Sm
/-! SmB: expressions. -/
namespace Sm
open PySem L2 PyProof.Rows

abbrev M := Ev → Hh → R D
section
variable {K : PySem.W.Frag} {G : Cl} {α β γ δ : Type} {rel : List Addr → Hp → β → α → Prop} {W : WX} {ρ ρ1 : List Addr} {H H1 : Hp} {σ : L2.St} {h : Hh} {env : Ev}
theorem tG_mono {m : Ev → Hh → R α} {Q Q' : β → Hp → Prop} (t : tG K G rel W m σ H Q) (hq : ∀ v H, Q v H → Q' v H) : tG K G rel W m σ H Q' := by
  obtain ⟨ρ, h, env, hr, he, p⟩ := t
  exact ⟨ρ, h, env, hr, he, p.imp hq⟩
theorem Po.ok {d : α} {Q : β → Hp → Prop} {v : β} (p : Po K G rel W ρ H σ (.ok d h) Q) (hr : Rh K G ρ H h) (r : rel ρ H v d) : Q v H := p ρ H v Ex.refl hr r
/-- an option's promise, once it is known -/
theorem Po.opt {o : Option (α × Hh)} {Q : β → Hp → Prop} (p : Po K G rel W ρ H σ (R.opt o) Q) : ∃ d h', o = some (d, h') ∧ ∀ ρ' H' v, Ex K ρ H ρ' H' → Rh K G ρ' H' h' → rel ρ' H' v d → Q v H' := by
  cases o with
  | none => exact p.elim
  | some q => exact ⟨q.1, q.2, rfl, p⟩
/-- the frame: known to be known -/
theorem tG_intro {m : Ev → Hh → R α} {Q : β → Hp → Prop} (hr : Rh K G ρ H h) (he : Re K ρ H σ env) (p : Po K G rel W ρ H σ (m env h) Q) : tG K G rel W m σ H Q := ⟨ρ, h, env, hr, he, p⟩
end

/-! ### names, constants -/
def eV (i : Nat) : M := fun env h => match env[i]? with
  | some (some d) => .ok d h
  | _ => .bad
def eC (d : D) : M := fun _ h => .ok d h
section
variable {X : Cx} {G : Cl} {W : WX} {e a b c : Expr} {es : List Expr} {pos : Pos}
theorem se_varP {i : Nat} (hp : PE X e (tVar i)) : PE X e (tM X.K G W (eV i)) := peImp hp fun σ H Q t => by
  obtain ⟨ρ, h, env, hr, he, p⟩ := t
  unfold eV at p
  cases q : env[i]? with
  | none => rw [q] at p; exact p.elim
  | some o =>
    cases o with
    | none => rw [q] at p; exact p.elim
    | some d =>
      rw [q] at p
      obtain ⟨v, h1, h2⟩ := he.get i d q
      exact ⟨v, h1, p.ok hr h2⟩
theorem se_var (i : Nat) {x : Str} (hN : X.N[i]? = some x := by rfl) (hv : Vis X.env.scope x := by first | exact Or.inl rfl | exact Or.inr (Or.inl rfl) | exact Or.inr (Or.inr rfl)) (hd : (x == ("__debug__" : Str)) = false := by decide)
    (hcd : (x == ("__classdict__" : Str)) = false := by decide) : PE X (.Name x pos) (tM X.K G W (eV i)) := se_varP (pe_var hN hv hd hcd)
theorem se_c {v : V} {d : D} (hp : PE X e (tC v)) (r : ∀ ρ H, Rv X.K ρ H v d) : PE X e (tM X.K G W (eC d)) := peImp hp fun σ H Q t => by
  obtain ⟨ρ, h, env, hr, he, p⟩ := t
  exact p.ok hr (r ρ H)
theorem se_int {i : Int} {j} : PE X (.Constant (.int i) j pos) (tM X.K G W (eC (.int i))) := se_c pe_int fun _ _ => .int i
theorem se_bl {b : Bool} {j} : PE X (.Constant (.bool b) j pos) (tM X.K G W (eC (.bl b))) := se_c pe_bl fun _ _ => .bl b
theorem se_non {j} : PE X (.Constant .none j pos) (tM X.K G W (eC .non)) := se_c pe_non fun _ _ => .non
theorem se_str {x : Str} {j} : PE X (.Constant (.str x) j pos) (tM X.K G W (eC (.str x))) := se_c pe_str fun _ _ => .str x
/-- a module's constant -/
theorem se_globI {x : Str} {i : Int} {u : Tok} (hg : Gl X x) (hm : X.mg x = some (.int i u)) (hd : (x == ("__debug__" : Str)) = false := by decide) : PE X (.Name x pos) (tM X.K G W (eC (.int i))) :=
  se_c (v := .int i) (pe_glob hg hm ⟨u, rfl⟩ hd) fun _ _ => .int i
theorem se_globS {x y : Str} {u : Tok} (hg : Gl X x) (hm : X.mg x = some (.str y u)) (hd : (x == ("__debug__" : Str)) = false := by decide) : PE X (.Name x pos) (tM X.K G W (eC (.str y))) :=
  se_c (v := .str y) (pe_glob hg hm ⟨u, rfl⟩ hd) fun _ _ => .str y
end

/-! ### one, two operands -/
def eU (f : D → Hh → Option (D × Hh)) (ma : M) : M := fun env h => (ma env h).bind fun x h1 => R.opt (f x h1)
def eB (f : D → D → Hh → Option (D × Hh)) (ma mb : M) : M := fun env h => (ma env h).bind fun x h1 => (mb env h1).bind fun y h2 => R.opt (f x y h2)
def Imp1 (K : PySem.W.Frag) (G : Cl) (r : V → Hp → VK → Prop) (f : D → Hh → Option (D × Hh)) : Prop := ∀ {ρ : List Addr} {H : Hp} {h : Hh} {x : V} {dx d : D} {h' : Hh} {Q : VK}, Rh K G ρ H h → Rv K ρ H x dx → f dx h = some (d, h') →
  (∀ ρ' H' v, Ex K ρ H ρ' H' → Rh K G ρ' H' h' → Rv K ρ' H' v d → Q v H') → r x H Q
def Imp2 (K : PySem.W.Frag) (G : Cl) (r : R2) (f : D → D → Hh → Option (D × Hh)) : Prop := ∀ {ρ : List Addr} {H : Hp} {h : Hh} {x y : V} {dx dy d : D} {h' : Hh} {Q : VK}, Rh K G ρ H h → Rv K ρ H x dx → Rv K ρ H y dy → f dx dy h = some (d, h') →
  (∀ ρ' H' v, Ex K ρ H ρ' H' → Rh K G ρ' H' h' → Rv K ρ' H' v d → Q v H') → r x y H Q
section
variable {X : Cx} {G : Cl} {W : WX} {e a b c : Expr} {es : List Expr} {pos : Pos} {ma mb : M}
theorem un_imp {r : V → Hp → VK → Prop} {f : D → Hh → Option (D × Hh)} (i : Imp1 X.K G r f) (σ : L2.St) (H : Hp) (Q : VK) (t : tM X.K G W (eU f ma) σ H Q) : tUn r (tM X.K G W ma) σ H Q := by
  obtain ⟨ρ, h, env, hr, he, p⟩ := t
  refine tG_mono (tG_bind (rel := relV X.K) hr he p) fun x H1 ⟨ρ1, h1, d, e1, hr1, he1, r1, p1⟩ => ?_
  obtain ⟨d2, h2, eq, k⟩ := p1.opt
  exact i hr1 r1 eq k
theorem bin_imp {r : R2} {f : D → D → Hh → Option (D × Hh)} (i : Imp2 X.K G r f) (σ : L2.St) (H : Hp) (Q : VK) (t : tM X.K G W (eB f ma mb) σ H Q) : tOp r (tM X.K G W ma) (tM X.K G W mb) σ H Q := by
  obtain ⟨ρ, h, env, hr, he, p⟩ := t
  refine tG_mono (tG_bind (rel := relV X.K) hr he p) fun x H1 ⟨ρ1, h1, d, e1, hr1, he1, r1, p1⟩ => ?_
  refine tG_mono (tG_bind (rel := relV X.K) hr1 he1 p1) fun y H2 ⟨ρ2, h2, d2, e2, hr2, he2, r2, p2⟩ => ?_
  obtain ⟨d3, h3, eq, k⟩ := p2.opt
  exact i hr2 (r1.mono e2) r2 eq k
theorem se_bin {op : Operator} {r : R2} {f : D → D → Hh → Option (D × Hh)} (ho : OpR X (binaryOp op) r) (i : Imp2 X.K G r f) (ha : PE X a (tM X.K G W ma)) (hb : PE X b (tM X.K G W mb)) : PE X (.BinOp a op b pos) (tM X.K G W (eB f ma mb)) :=
  peImp (pe_op ho ha hb) fun σ H Q t => bin_imp i σ H Q t
theorem se_un {op : UnaryOp} {r : V → Hp → VK → Prop} {f : D → Hh → Option (D × Hh)} (ho : UnR X (unaryOp op) r) (i : Imp1 X.K G r f) (ha : PE X a (tM X.K G W ma)) : PE X (.UnaryOp op a pos) (tM X.K G W (eU f ma)) :=
  peImp (pe_un ho ha) fun σ H Q t => un_imp i σ H Q t
theorem se_cmp {op : CmpOp} {r : R2} {f : D → D → Hh → Option (D × Hh)} (ho : OpR X (compareOp op) r) (i : Imp2 X.K G r f) (ha : PE X a (tM X.K G W ma)) (hb : PE X b (tM X.K G W mb)) (hm : behindInMarks op b = false) : PE X (.Compare a [op] [b] pos) (tM X.K G W (eB f ma mb)) :=
  peImp (pe_cmpR ho ha hb hm) fun σ H Q t => bin_imp i σ H Q t
theorem Imp2.or1 {K : PySem.W.Frag} {r r' : R2} {f : D → D → Hh → Option (D × Hh)} (i : Imp2 K G r f) : Imp2 K G (fun x y H Q => r x y H Q ∨ r' x y H Q) f := fun hr rx ry e k => .inl (i hr rx ry e k)
end

/-! ### arithmetic -/
def opAdd : D → D → Hh → Option (D × Hh)
  | .int i, .int j, h => some (.int (i + j), h)
  | .int i, .bl k, h => some (.int (i + b2i k), h)
  | .str x, .str y, h => if x.length + y.length ≤ sizeLine then some (.str (x ++ y), h) else none
  | .tup xs, .tup ys, h => if xs.length + ys.length ≤ sizeLine then some (.tup (xs ++ ys), h) else none
  | .ref m, .ref n, h => match h[m]?, h[n]? with
    | some (.lst xs), some (.lst ys) => if xs.length + ys.length ≤ sizeLine then some (.ref h.length, h ++ [.lst (xs ++ ys)]) else none
    | _, _ => none
  | _, _, _ => none
def opSub : D → D → Hh → Option (D × Hh)
  | .int i, .int j, h => some (.int (i - j), h)
  | _, _, _ => none
def mulOk (i j : Int) : Bool := (decide (-18446744073709551616 < i) && decide (i < 18446744073709551616)) || (decide (-18446744073709551616 < j) && decide (j < 18446744073709551616))
theorem mulOk_of {i j : Int} (h : mulOk i j = true) : CMul i j := by
  unfold mulOk at h
  simp only [Bool.or_eq_true, Bool.and_eq_true, decide_eq_true_eq] at h
  exact h
def opMul : D → D → Hh → Option (D × Hh)
  | .int i, .int j, h => if mulOk i j = true then some (.int (i * j), h) else none
  | _, _, _ => none
def opMod : D → D → Hh → Option (D × Hh)
  | .int i, .int j, h => if 0 < j then some (.int (i % j), h) else none
  | _, _, _ => none
def opFdiv : D → D → Hh → Option (D × Hh)
  | .int i, .int j, h => if 0 < j ∧ j < 1073741824 then some (.int (i / j), h) else none
  | _, _, _ => none
def opPow : D → D → Hh → Option (D × Hh)
  | .int i, .int j, h => if 0 ≤ j ∧ j ≤ 1000000 ∧ i.natAbs < 18446744073709551616 then some (.int (i ^ j.toNat), h) else none
  | _, _, _ => none
def opNeg : D → Hh → Option (D × Hh)
  | .int i, h => some (.int (-i), h)
  | _, _ => none
section
variable {X : Cx} {G : Cl} {W : WX} {e a b c : Expr} {es : List Expr} {pos : Pos} {ma mb : M} {K : PySem.W.Frag}
theorem im_sub : Imp2 K G (rI0 fun i j => .int (i - j)) opSub := fun {ρ H h x y dx dy d h' Q} hr rx ry e k => by
  cases rx <;> cases ry <;> simp only [opSub] at e <;> cases e
  exact ⟨_, _, rfl, rfl, k _ _ _ Ex.refl hr (.int _)⟩
theorem im_mul : Imp2 K G (rI CMul fun i j => .int (i * j)) opMul := fun {ρ H h x y dx dy d h' Q} hr rx ry e k => by
  cases rx <;> cases ry <;> simp only [opMul] at e <;> first | (cases e; done) | skip
  split at e
  · rename_i q
    cases e
    exact ⟨_, _, rfl, rfl, mulOk_of q, k _ _ _ Ex.refl hr (.int _)⟩
  · cases e
theorem im_mod : Imp2 K G (rI (fun _ j => 0 < j) fun i j => .int (i % j)) opMod := fun {ρ H h x y dx dy d h' Q} hr rx ry e k => by
  cases rx <;> cases ry <;> simp only [opMod] at e <;> first | (cases e; done) | skip
  split at e
  · rename_i q
    cases e
    exact ⟨_, _, rfl, rfl, q, k _ _ _ Ex.refl hr (.int _)⟩
  · cases e
theorem im_fdiv : Imp2 K G (rI CDiv fun i j => .int (i / j)) opFdiv := fun {ρ H h x y dx dy d h' Q} hr rx ry e k => by
  cases rx <;> cases ry <;> simp only [opFdiv] at e <;> first | (cases e; done) | skip
  split at e
  · rename_i q
    cases e
    exact ⟨_, _, rfl, rfl, q, k _ _ _ Ex.refl hr (.int _)⟩
  · cases e
theorem im_pow : Imp2 K G (rI CPow fun i j => .int (i ^ j.toNat)) opPow := fun {ρ H h x y dx dy d h' Q} hr rx ry e k => by
  cases rx <;> cases ry <;> simp only [opPow] at e <;> first | (cases e; done) | skip
  split at e
  · rename_i q
    cases e
    exact ⟨_, _, rfl, rfl, q, k _ _ _ Ex.refl hr (.int _)⟩
  · cases e
theorem im_neg : Imp1 K G (rU fun i => .int (-i)) opNeg := fun {ρ H h x dx d h' Q} hr rx e k => by
  cases rx <;> simp only [opNeg] at e <;> cases e
  exact ⟨_, rfl, k _ _ _ Ex.refl hr (.int _)⟩
/-- a new tuple -/
theorem new_tup {ρ : List Addr} {H : Hp} {h : Hh} {vs : List V} {ds : List D} {Q : VK} (hr : Rh K G ρ H h) (rs : Rvs K ρ H vs ds) (k : ∀ ρ' H' v, Ex K ρ H ρ' H' → Rh K G ρ' H' h → Rv K ρ' H' v (.tup ds) → Q v H') :
    ∀ p, H p = none → Q (.ref p) (upd H p (.tup vs)) := fun p n => k ρ _ _ (Ex.fresh n) (hr.aux n) (.tup upd_same (rs.mono (Ex.fresh n)))
/-- a new list -/
theorem new_lst {ρ : List Addr} {H : Hp} {h : Hh} {vs : List V} {ds : List D} {Q : VK} (hr : Rh K G ρ H h) (rs : Rvs K ρ H vs ds) (k : ∀ ρ' H' v, Ex K ρ H ρ' H' → Rh K G ρ' H' (h ++ [.lst ds]) → Rv K ρ' H' v (.ref h.length) → Q v H') :
    ∀ p, H p = none → Q (.ref p) (upd H p (.lst vs)) := fun p n => k (ρ ++ [p]) _ _ (Ex.push n) (hr.new n (.lst upd_same (rs.mono (Ex.push n)))) (.ref (by rw [← hr.len]; exact get_push_eq))
theorem ref_lst {ρ : List Addr} {H : Hp} {h : Hh} {n : Nat} {a : Addr} {ds : List D} (hr : Rh K G ρ H h) (ra : ρ[n]? = some a) (e : h[n]? = some (.lst ds)) : ∃ vs, H a = some (.lst vs) ∧ Rvs K ρ H vs ds := by
  have q := hr.at_ ra e
  cases q with
  | lst q r => exact ⟨_, q, r⟩
/-- a list that is read -/
theorem ref_seq {ρ : List Addr} {H : Hp} {h : Hh} {n : Nat} {a : Addr} {ds : List D} (hr : Rh K G ρ H h) (ra : ρ[n]? = some a) (e : h[n]? = some (.lst ds)) : ∃ vs, SqL K H a vs ∧ Rvs K ρ H vs ds := by
  obtain ⟨vs, q, r⟩ := ref_lst hr ra e
  exact ⟨vs, SqL.of q, r⟩
abbrev rAddAll (K : PySem.W.Frag) : R2 := fun x y H Q => (rI0 (fun i j => .int (i + j)) x y H Q ∨ (∃ i k, x = .int i ∧ y = .bl k ∧ Q (.int (i + b2i k)) H)) ∨
  ((∃ i j, x = .str i ∧ y = .str j ∧ i.length + j.length ≤ sizeLine ∧ Q (.str (i ++ j)) H) ∨ (rCatA K x y H Q ∨ rCat x y H Q))
theorem op_addAll : OpR X (binaryOp .Add) (rAddAll X.K) := (op_add.or op_add_ib).or (op_add_str.or (op_catA.or op_cat))
theorem im_add : Imp2 K G (rAddAll K) opAdd := fun {ρ H h x y dx dy d h' Q} hr rx ry e k => by
  unfold opAdd at e
  split at e
  · cases e; cases rx; cases ry
    exact .inl (.inl ⟨_, _, rfl, rfl, k _ _ _ Ex.refl hr (.int _)⟩)
  · cases e; cases rx; cases ry
    exact .inl (.inr ⟨_, _, rfl, rfl, k _ _ _ Ex.refl hr (.int _)⟩)
  · split at e
    · cases e; cases rx; cases ry
      exact .inr (.inl ⟨_, _, rfl, rfl, by assumption, k _ _ _ Ex.refl hr (.str _)⟩)
    · cases e
  · split at e
    · rename_i ds ds2 hl
      cases e
      obtain ⟨a, vs, rfl, t, r⟩ := rx.sqT
      obtain ⟨a2, vs2, rfl, t2, r2⟩ := ry.sqT
      refine .inr (.inr (.inl ⟨a, a2, vs, vs2, rfl, rfl, t, t2, by rw [r.length, r2.length]; exact hl, fun z => ?_, fun z1 z2 => ?_, fun z1 z2 => ?_⟩))
      · subst z
        cases r
        exact k _ _ _ Ex.refl hr ry
      · subst z2
        cases r2
        rw [List.append_nil] at k
        exact k _ _ _ Ex.refl hr rx
      · exact new_tup hr (r.append r2) k
    · cases e
  · rename_i m n
    cases rx with
    | ref ra =>
      cases ry with
      | ref ra2 =>
        rename_i a a2
        split at e
        · rename_i xs ys e1 e2
          split at e
          · rename_i hl
            cases e
            obtain ⟨vs, q1, r1⟩ := ref_lst hr ra e1
            obtain ⟨vs2, q2, r2⟩ := ref_lst hr ra2 e2
            exact .inr (.inr (.inr ⟨a, a2, vs, vs2, rfl, rfl, q1, q2, by rw [r1.length, r2.length]; exact hl, new_lst hr (r1.append r2) k⟩))
          · cases e
        · cases e
  · cases e
theorem se_add (ha : PE X a (tM X.K G W ma)) (hb : PE X b (tM X.K G W mb)) : PE X (.BinOp a .Add b pos) (tM X.K G W (eB opAdd ma mb)) := se_bin op_addAll im_add ha hb
theorem se_sub (ha : PE X a (tM X.K G W ma)) (hb : PE X b (tM X.K G W mb)) : PE X (.BinOp a .Sub b pos) (tM X.K G W (eB opSub ma mb)) := se_bin op_sub im_sub ha hb
theorem se_mul (ha : PE X a (tM X.K G W ma)) (hb : PE X b (tM X.K G W mb)) : PE X (.BinOp a .Mult b pos) (tM X.K G W (eB opMul ma mb)) := se_bin op_mul im_mul ha hb
theorem se_mod (ha : PE X a (tM X.K G W ma)) (hb : PE X b (tM X.K G W mb)) : PE X (.BinOp a .Mod b pos) (tM X.K G W (eB opMod ma mb)) := se_bin op_mod im_mod ha hb
theorem se_fdiv (ha : PE X a (tM X.K G W ma)) (hb : PE X b (tM X.K G W mb)) : PE X (.BinOp a .FloorDiv b pos) (tM X.K G W (eB opFdiv ma mb)) := se_bin op_fdiv im_fdiv ha hb
theorem se_pow (ha : PE X a (tM X.K G W ma)) (hb : PE X b (tM X.K G W mb)) : PE X (.BinOp a .Pow b pos) (tM X.K G W (eB opPow ma mb)) := se_bin op_pow im_pow ha hb
theorem se_neg (ha : PE X a (tM X.K G W ma)) : PE X (.UnaryOp .USub a pos) (tM X.K G W (eU opNeg ma)) := se_un un_neg im_neg ha
end

/-! ### comparisons -/
/-- data with its lists, read off the plain heap -/
def toP (h : Hh) : Nat → D → Option PyData
  | 0, _ => none
  | _ + 1, .non => some .none
  | _ + 1, .bl b => some (.bool b)
  | _ + 1, .int i => some (.int i)
  | _ + 1, .str x => some (.str x)
  | k + 1, .tup ds => (ds.mapM (toP h k)).map PyData.tuple
  | k + 1, .fls ds => (ds.mapM (toP h k)).map PyData.list
  | k + 1, .ref n => match h[n]? with
    | some (.lst ds) => (ds.mapM (toP h k)).map PyData.list
    | _ => none
def eqP (h : Hh) (x y : D) : Option Bool := match toP h 60 x, toP h 60 y with
  | some a, some b => if SeqAt.shaped a = true ∧ SeqAt.shaped b = true then some (PyData.eqv a b) else none
  | _, _ => none
def opEqB : D → D → Hh → Option Bool
  | .int i, .int j, _ => some (decide (i = j))
  | .str i, .str j, _ => some (decide (i = j))
  | .bl i, .bl j, _ => some (decide (i = j))
  | .non, .non, _ => some true
  | x, y, h => eqP h x y
def opEq (x y : D) (h : Hh) : Option (D × Hh) := (opEqB x y h).map fun b => (.bl b, h)
def opNe (x y : D) (h : Hh) : Option (D × Hh) := (opEqB x y h).map fun b => (.bl (!b), h)
/-- the ints of a tuple -/
def intsOf : List D → Option (List Int)
  | [] => some []
  | .int i :: r => (intsOf r).map (i :: ·)
  | _ :: _ => none
def opLt : D → D → Hh → Option (D × Hh)
  | .int i, .int j, h => some (.bl (decide (i < j)), h)
  | .str i, .str j, h => some (.bl (decide (i.cps.toList < j.cps.toList)), h)
  | .tup xs, .tup ys, h => match intsOf xs, intsOf ys with
    | some ns, some ms => some (.bl (HT.lexLt ns ms), h)
    | _, _ => none
  | _, _, _ => none
def opLe : D → D → Hh → Option (D × Hh)
  | .int i, .int j, h => some (.bl (decide (i ≤ j)), h)
  | _, _, _ => none
def opGt : D → D → Hh → Option (D × Hh)
  | .int i, .int j, h => some (.bl (decide (j < i)), h)
  | _, _, _ => none
def opGe : D → D → Hh → Option (D × Hh)
  | .int i, .int j, h => some (.bl (decide (j ≤ i)), h)
  | _, _, _ => none
section
variable {X : Cx} {G : Cl} {W : WX} {e a b c : Expr} {es : List Expr} {pos : Pos} {ma mb : M} {K : PySem.W.Frag} {ρ : List Addr} {H : Hp} {h : Hh}
theorem intsOf_eq : ∀ {ds : List D} {ns : List Int}, intsOf ds = some ns → ds = ns.map D.int
  | [], ns, e => by simp [intsOf] at e; subst e; rfl
  | .int i :: r, ns, e => by
    simp only [intsOf, Option.map_eq_some_iff] at e
    obtain ⟨ms, e1, e2⟩ := e
    subst e2
    rw [intsOf_eq e1]
    rfl
  | .non :: _, _, e => by simp [intsOf] at e
  | .bl _ :: _, _, e => by simp [intsOf] at e
  | .str _ :: _, _, e => by simp [intsOf] at e
  | .tup _ :: _, _, e => by simp [intsOf] at e
  | .fls _ :: _, _, e => by simp [intsOf] at e
  | .ref _ :: _, _, e => by simp [intsOf] at e
theorem dpAll_of {f : D → Option PyData} (ih : ∀ d v p, Rv K ρ H v d → f d = some p → Dp K H v p) : ∀ {ds : List D} {vs : List V} {ps : List PyData}, Rvs K ρ H vs ds → ds.mapM f = some ps → DpAll K H vs ps
  | [], vs, ps, r, e => by
    cases r
    simp at e
    subst e
    exact .nil
  | d :: ds, vs, ps, r, e => by
    cases r with
    | cons r rs =>
      simp only [List.mapM_cons, Option.bind_eq_bind, Option.bind_eq_some_iff, Option.pure_def, Option.some.injEq] at e
      obtain ⟨p, e1, qs, e2, e3⟩ := e
      subst e3
      exact .cons (ih _ _ _ r e1) (dpAll_of ih rs e2)
theorem toP_dp (hr : Rh K G ρ H h) : ∀ (k : Nat) (d : D) (v : V) (p : PyData), Rv K ρ H v d → toP h k d = some p → Dp K H v p
  | 0, _, _, _, _, e => by simp [toP] at e
  | k + 1, .non, _, _, r, e => by cases r; simp [toP] at e; subst e; exact .non
  | k + 1, .bl b, _, _, r, e => by cases r; simp [toP] at e; subst e; exact .bl b
  | k + 1, .int i, _, _, r, e => by cases r; simp [toP] at e; subst e; exact .int i
  | k + 1, .str x, _, _, r, e => by cases r; simp [toP] at e; subst e; exact .str x
  | k + 1, .tup ds, _, _, r, e => by
    obtain ⟨a, vs, rfl, t, r⟩ := r.sqT
    simp only [toP, Option.map_eq_some_iff] at e
    obtain ⟨ps, e1, e2⟩ := e
    subst e2
    exact .tup t (dpAll_of (fun d v p => toP_dp hr k d v p) r e1)
  | k + 1, .fls ds, _, _, r, e => by
    cases r with
    | fls t r =>
      simp only [toP, Option.map_eq_some_iff] at e
      obtain ⟨ps, e1, e2⟩ := e
      subst e2
      exact .lst t.sq (dpAll_of (fun d v p => toP_dp hr k d v p) r e1)
  | k + 1, .ref n, _, _, r, e => by
    cases r with
    | ref ra =>
      simp only [toP] at e
      split at e
      · rename_i ds e0
        simp only [Option.map_eq_some_iff] at e
        obtain ⟨ps, e1, e2⟩ := e
        subst e2
        obtain ⟨vs, q, r⟩ := ref_seq hr ra e0
        exact .lst q (dpAll_of (fun d v p => toP_dp hr k d v p) r e1)
      · cases e
abbrev rEqAll (K : PySem.W.Frag) : R2 := fun x y H Q => rEq x y H Q ∨ rEqD K x y H Q
abbrev rNeAll (K : PySem.W.Frag) : R2 := fun x y H Q => rNe x y H Q ∨ rNeD K x y H Q
theorem eqB_cases {x y : V} {dx dy : D} {k : Bool} (hr : Rh K G ρ H h) (rx : Rv K ρ H x dx) (ry : Rv K ρ H y dy) (e : opEqB dx dy h = some k) :
    (scal x y = true ∧ k = decide (x = y)) ∨ ∃ p q, Dp K H x p ∧ Dp K H y q ∧ SeqAt.shaped p = true ∧ SeqAt.shaped q = true ∧ k = PyData.eqv p q := by
  have gen : eqP h dx dy = some k → ∃ p q, Dp K H x p ∧ Dp K H y q ∧ SeqAt.shaped p = true ∧ SeqAt.shaped q = true ∧ k = PyData.eqv p q := fun e => by
    unfold eqP at e
    split at e
    · rename_i p q e1 e2
      split at e
      · rename_i hs
        cases e
        exact ⟨p, q, toP_dp hr _ _ _ _ rx e1, toP_dp hr _ _ _ _ ry e2, hs.1, hs.2, rfl⟩
      · cases e
    · cases e
  unfold opEqB at e
  split at e
  · cases e; cases rx; cases ry; exact .inl ⟨rfl, by simp⟩
  · cases e; cases rx; cases ry; exact .inl ⟨rfl, by simp⟩
  · cases e; cases rx; cases ry; exact .inl ⟨rfl, by simp⟩
  · cases e; cases rx; cases ry; exact .inl ⟨rfl, by simp⟩
  · exact .inr (gen e)
theorem im_eq : Imp2 K G (rEqAll K) opEq := fun {ρ H h x y dx dy d h' Q} hr rx ry e k => by
  simp only [opEq, Option.map_eq_some_iff, Prod.mk.injEq] at e
  obtain ⟨b, e, e1, e2⟩ := e
  subst e1 e2
  rcases eqB_cases hr rx ry e with ⟨s, q⟩ | ⟨p, q, h1, h2, h3, h4, h5⟩
  · subst q
    exact .inl ⟨s, k _ _ _ Ex.refl hr (.bl _)⟩
  · subst h5
    exact .inr ⟨p, q, h1, h2, h3, h4, k _ _ _ Ex.refl hr (.bl _)⟩
theorem im_ne : Imp2 K G (rNeAll K) opNe := fun {ρ H h x y dx dy d h' Q} hr rx ry e k => by
  simp only [opNe, Option.map_eq_some_iff, Prod.mk.injEq] at e
  obtain ⟨b, e, e1, e2⟩ := e
  subst e1 e2
  rcases eqB_cases hr rx ry e with ⟨s, q⟩ | ⟨p, q, h1, h2, h3, h4, h5⟩
  · subst q
    exact .inl ⟨s, k _ _ _ Ex.refl hr (.bl _)⟩
  · subst h5
    exact .inr ⟨p, q, h1, h2, h3, h4, k _ _ _ Ex.refl hr (.bl _)⟩
abbrev rLtAll (K : PySem.W.Frag) : R2 := fun x y H Q => rI0 (fun i j => .bl (decide (i < j))) x y H Q ∨ ((∃ i j, x = .str i ∧ y = .str j ∧ Q (.bl (decide (i.cps.toList < j.cps.toList))) H) ∨ rLtT K x y H Q)
theorem op_ltAll (hu : X.A.units < cLine) : OpR X (compareOp .Lt) (rLtAll X.K) := op_lt.or (op_lt_str.or (op_ltT hu))
theorem im_lt : Imp2 K G (rLtAll K) opLt := fun {ρ H h x y dx dy d h' Q} hr rx ry e k => by
  unfold opLt at e
  split at e
  · cases e; cases rx; cases ry
    exact .inl ⟨_, _, rfl, rfl, k _ _ _ Ex.refl hr (.bl _)⟩
  · cases e; cases rx; cases ry
    exact .inr (.inl ⟨_, _, rfl, rfl, k _ _ _ Ex.refl hr (.bl _)⟩)
  · split at e
    · rename_i ns ms e1 e2
      cases e
      have z1 := intsOf_eq e1
      have z2 := intsOf_eq e2
      subst z1 z2
      obtain ⟨a, vs, rfl, t, r⟩ := rx.sqT
      obtain ⟨a2, vs2, rfl, t2, r2⟩ := ry.sqT
      have y1 := r.ints
      have y2 := r2.ints
      subst y1 y2
      exact .inr (.inr ⟨a, a2, ns, ms, rfl, rfl, t, t2, k _ _ _ Ex.refl hr (.bl _)⟩)
    · cases e
  · cases e
theorem im_le : Imp2 K G (rI0 fun i j => .bl (decide (i ≤ j))) opLe := fun {ρ H h x y dx dy d h' Q} hr rx ry e k => by
  cases rx <;> cases ry <;> simp only [opLe] at e <;> cases e
  exact ⟨_, _, rfl, rfl, k _ _ _ Ex.refl hr (.bl _)⟩
theorem im_gt : Imp2 K G (rI0 fun i j => .bl (decide (j < i))) opGt := fun {ρ H h x y dx dy d h' Q} hr rx ry e k => by
  cases rx <;> cases ry <;> simp only [opGt] at e <;> cases e
  exact ⟨_, _, rfl, rfl, k _ _ _ Ex.refl hr (.bl _)⟩
theorem im_ge : Imp2 K G (rI0 fun i j => .bl (decide (j ≤ i))) opGe := fun {ρ H h x y dx dy d h' Q} hr rx ry e k => by
  cases rx <;> cases ry <;> simp only [opGe] at e <;> cases e
  exact ⟨_, _, rfl, rfl, k _ _ _ Ex.refl hr (.bl _)⟩
theorem se_eq (hu : X.A.units + 64 < cLine) (ha : PE X a (tM X.K G W ma)) (hb : PE X b (tM X.K G W mb)) : PE X (.Compare a [.Eq] [b] pos) (tM X.K G W (eB opEq ma mb)) := se_cmp (op_eq.or (op_eqD hu)) im_eq ha hb (nomark _)
theorem se_ne (hu : X.A.units + 64 < cLine) (ha : PE X a (tM X.K G W ma)) (hb : PE X b (tM X.K G W mb)) : PE X (.Compare a [.NotEq] [b] pos) (tM X.K G W (eB opNe ma mb)) := se_cmp (op_ne.or (op_neD hu)) im_ne ha hb (nomark _)
theorem se_lt (hu : X.A.units + 64 < cLine) (ha : PE X a (tM X.K G W ma)) (hb : PE X b (tM X.K G W mb)) : PE X (.Compare a [.Lt] [b] pos) (tM X.K G W (eB opLt ma mb)) := se_cmp (op_ltAll (by omega)) im_lt ha hb (nomark _)
theorem se_le (hu : X.A.units + 64 < cLine) (ha : PE X a (tM X.K G W ma)) (hb : PE X b (tM X.K G W mb)) : PE X (.Compare a [.LtE] [b] pos) (tM X.K G W (eB opLe ma mb)) := se_cmp op_le im_le ha hb (nomark _)
theorem se_gt (hu : X.A.units + 64 < cLine) (ha : PE X a (tM X.K G W ma)) (hb : PE X b (tM X.K G W mb)) : PE X (.Compare a [.Gt] [b] pos) (tM X.K G W (eB opGt ma mb)) := se_cmp op_gt im_gt ha hb (nomark _)
theorem se_ge (hu : X.A.units + 64 < cLine) (ha : PE X a (tM X.K G W ma)) (hb : PE X b (tM X.K G W mb)) : PE X (.Compare a [.GtE] [b] pos) (tM X.K G W (eB opGe ma mb)) := se_cmp op_ge im_ge ha hb (nomark _)
/-- is None -/
def opIsN : D → Hh → Option (D × Hh)
  | .non, h => some (.bl true, h)
  | _, h => some (.bl false, h)
def opNotN : D → Hh → Option (D × Hh)
  | .non, h => some (.bl false, h)
  | _, h => some (.bl true, h)
theorem se_isN {j pos'} (ha : PE X a (tM X.K G W ma)) : PE X (.Compare a [.Is] [.Constant .none j pos'] pos) (tM X.K G W (eU opIsN ma)) := peImp (pe_cmp (pc_isN ha)) fun σ H Q t => un_imp (r := fun x H Q => Q (.bl (decide (x = .non))) H) (fun {ρ H h x dx d h' Q} hr rx e k => by
  cases rx <;> simp only [opIsN] at e <;> cases e <;> exact k _ _ _ Ex.refl hr (.bl _)) σ H Q t
theorem se_notN {j pos'} (ha : PE X a (tM X.K G W ma)) : PE X (.Compare a [.IsNot] [.Constant .none j pos'] pos) (tM X.K G W (eU opNotN ma)) := peImp (pe_cmp (pc_notN ha)) fun σ H Q t => un_imp (r := fun x H Q => Q (.bl (!decide (x = .non))) H) (fun {ρ H h x dx d h' Q} hr rx e k => by
  cases rx <;> simp only [opNotN] at e <;> cases e <;> exact k _ _ _ Ex.refl hr (.bl _)) σ H Q t
end
end Sm
/-! SmC: tests, truth, and / or, argument lists, displays, items, slices, built-in functions and methods. -/
namespace Sm
open PySem L2 PyProof.Rows

abbrev MT := Ev → Hh → R Bool
/-! ### tests -/
def opTruth : D → Hh → Option Bool
  | .non, _ => some false
  | .bl b, _ => some b
  | .int i, _ => some (i != 0)
  | .str y, _ => if y.length ≤ sizeLine then some ((y.length : Int) != 0) else none
  | .tup ds, _ => some (!ds.isEmpty)
  | .fls ds, _ => some (!ds.isEmpty)
  | .ref n, h => match h[n]? with
    | some (.lst ds) => some (!ds.isEmpty)
    | some (.dK ds) => some (!ds.isEmpty)
    | _ => none
def optB (o : Option Bool) (h : Hh) : R Bool := match o with
  | some b => .ok b h
  | none => .bad
@[simp] theorem optB_some (b : Bool) (h : Hh) : optB (some b) h = .ok b h := rfl
@[simp] theorem optB_none (h : Hh) : optB none h = .bad := rfl
def tTru (m : M) : MT := fun env h => (m env h).bind fun d h1 => optB (opTruth d h1) h1
def opBl : D → Option Bool
  | .bl b => some b
  | _ => none
def tBl (m : M) : MT := fun env h => (m env h).bind fun d h1 => optB (opBl d) h1
def tAndM (a b : MT) : MT := fun env h => (a env h).bind fun c h1 => if c = true then b env h1 else .ok false h1
def tOrM (a b : MT) : MT := fun env h => (a env h).bind fun c h1 => if c = true then .ok true h1 else b env h1
def tNotM (a : MT) : MT := fun env h => (a env h).bind fun c h1 => .ok (!c) h1
def eAnd (a b : M) : M := fun env h => (a env h).bind fun d h1 => match d with
  | .bl true => b env h1
  | .bl false => .ok (.bl false) h1
  | _ => .bad
def eOr (a b : M) : M := fun env h => (a env h).bind fun d h1 => match d with
  | .bl false => b env h1
  | .bl true => .ok (.bl true) h1
  | _ => .bad
def eNot (a : M) : M := fun env h => (a env h).bind fun d h1 => match d with
  | .bl b => .ok (.bl (!b)) h1
  | _ => .bad
def eIf (t : MT) (a b : M) : M := fun env h => (t env h).bind fun c h1 => if c = true then a env h1 else b env h1
def eCh (f g : D → D → Hh → Option (D × Hh)) (a b c : M) : M := fun env h => (a env h).bind fun x h1 => (b env h1).bind fun y h2 => (R.opt (f x y h2)).bind fun z h3 => match z with
  | .bl true => (c env h3).bind fun w h4 => R.opt (g y w h4)
  | .bl false => .ok (.bl false) h3
  | _ => .bad
section
variable {X : Cx} {G : Cl} {W : WX} {e a b c : Expr} {es rest : List Expr} {pos : Pos} {ma mb mc : M} {ta tb : MT} {K : PySem.W.Frag} {ρ : List Addr} {H : Hp} {h : Hh} {σ : L2.St} {env : Ev}
theorem Rvs.isEmpty {vs : List V} {ds : List D} (r : Rvs K ρ H vs ds) : (!vs.isEmpty) = !ds.isEmpty := by cases r <;> rfl
theorem truth_ok (hr : Rh K G ρ H h) {v : V} {d : D} {k : Bool} (r : Rv K ρ H v d) (e : opTruth d h = some k) : TruV K v H k := by
  cases d with
  | non => cases r; cases e; rfl
  | bl b => cases r; cases e; rfl
  | int i => cases r; cases e; rfl
  | str y =>
    cases r
    simp only [opTruth] at e
    split at e
    · cases e
      exact ⟨by assumption, rfl⟩
    · cases e
  | tup ds =>
    cases e
    obtain ⟨a, vs, rfl, t, q⟩ := r.sqT
    exact .inr (.inl ⟨vs, t, q.isEmpty.symm⟩)
  | fls ds =>
    cases e
    cases r with
    | fls t q => exact .inl ⟨_, t.sq, q.isEmpty.symm⟩
  | ref n =>
    cases r with
    | ref ra =>
      simp only [opTruth] at e
      split at e
      · rename_i ds e0
        cases e
        obtain ⟨vs, q, r⟩ := ref_seq hr ra e0
        exact .inl ⟨vs, q, r.isEmpty.symm⟩
      · rename_i ds e0
        cases e
        have q := hr.at_ ra e0
        cases q with
        | dK q r =>
          refine .inr (.inr ⟨_, q, ?_⟩)
          cases r <;> rfl
      · cases e
theorem Po.optB {o : Option Bool} {Q : Bool → Hp → Prop} (p : Po K G (relB) W ρ H σ (optB o h) Q) : ∃ b, o = some b ∧ ∀ ρ' H' v, Ex K ρ H ρ' H' → Rh K G ρ' H' h → v = b → Q v H' := by
  cases o with
  | none => exact p.elim
  | some q => exact ⟨q, rfl, p⟩
theorem st_truth (ha : PE X a (tM X.K G W ma)) (he : ∀ whole, isTrue a X.env whole = (do let v ← whole; standAt a.pos; holding [v] (truthy v)) := by intro _; rfl) : PT X a (tT X.K G W (tTru ma)) := ptImp (pt_truth ha he) fun σ H Q t => by
  obtain ⟨ρ, h, env, hr, he, p⟩ := t
  refine tG_mono (tG_bind (rel := relV X.K) hr he p) fun x H1 ⟨ρ1, h1, d, e1, hr1, he1, r1, p1⟩ => ?_
  obtain ⟨k, ek, q⟩ := p1.optB
  exact ⟨k, truth_ok hr1 r1 ek, q _ _ _ Ex.refl hr1 rfl⟩
/-- an expression that gives a bool, its test being B of the same reading -/
theorem tB_imp {t : TE} (i : ∀ σ H Q, tM X.K G W ma σ H Q → t σ H Q) (σ : L2.St) (H : Hp) (Q : Bool → Hp → Prop) (p : tT X.K G W (tBl ma) σ H Q) : t σ H fun x H1 => ∃ k, x = .bl k ∧ Q k H1 := by
  obtain ⟨ρ, h, env, hr, he, p⟩ := p
  refine i σ H _ (tG_mono (tG_bind (rel := relV X.K) hr he p) fun x H1 ⟨ρ1, h1, d, e1, hr1, he1, r1, p1⟩ => ?_)
  obtain ⟨k, ek, q⟩ := p1.optB
  cases d with
  | bl b => cases ek; cases r1; exact ⟨_, rfl, q _ _ _ Ex.refl hr1 rfl⟩
  | _ => cases ek
theorem st_val (ha : PE X a (tM X.K G W ma)) (he : ∀ whole, isTrue a X.env whole = (do let v ← whole; standAt a.pos; holding [v] (truthy v)) := by intro _; rfl) : PT X a (tT X.K G W (tBl ma)) := ptImp (pt_val ha he) fun σ H Q t => tB_imp (fun _ _ _ z => z) σ H Q t
theorem st_cmp {op : CmpOp} {r : R2} {f : D → D → Hh → Option (D × Hh)} (ho : OpR X (compareOp op) r) (i : Imp2 X.K G r f) (ha : PE X a (tM X.K G W ma)) (hb : PE X b (tM X.K G W mb)) (hm : behindInMarks op b = false) : PT X (.Compare a [op] [b] pos) (tT X.K G W (tBl (eB f ma mb))) :=
  ptImp (pt_cmpR ho ha hb hm) fun σ H Q t => tB_imp (bin_imp i) σ H Q t
theorem st_eq (hu : X.A.units + 64 < cLine) (ha : PE X a (tM X.K G W ma)) (hb : PE X b (tM X.K G W mb)) : PT X (.Compare a [.Eq] [b] pos) (tT X.K G W (tBl (eB opEq ma mb))) := st_cmp (op_eq.or (op_eqD hu)) im_eq ha hb (nomark _)
theorem st_ne (hu : X.A.units + 64 < cLine) (ha : PE X a (tM X.K G W ma)) (hb : PE X b (tM X.K G W mb)) : PT X (.Compare a [.NotEq] [b] pos) (tT X.K G W (tBl (eB opNe ma mb))) := st_cmp (op_ne.or (op_neD hu)) im_ne ha hb (nomark _)
theorem st_lt (hu : X.A.units + 64 < cLine) (ha : PE X a (tM X.K G W ma)) (hb : PE X b (tM X.K G W mb)) : PT X (.Compare a [.Lt] [b] pos) (tT X.K G W (tBl (eB opLt ma mb))) := st_cmp (op_ltAll (by omega)) im_lt ha hb (nomark _)
theorem st_le (hu : X.A.units + 64 < cLine) (ha : PE X a (tM X.K G W ma)) (hb : PE X b (tM X.K G W mb)) : PT X (.Compare a [.LtE] [b] pos) (tT X.K G W (tBl (eB opLe ma mb))) := st_cmp op_le im_le ha hb (nomark _)
theorem st_gt (hu : X.A.units + 64 < cLine) (ha : PE X a (tM X.K G W ma)) (hb : PE X b (tM X.K G W mb)) : PT X (.Compare a [.Gt] [b] pos) (tT X.K G W (tBl (eB opGt ma mb))) := st_cmp op_gt im_gt ha hb (nomark _)
theorem st_ge (hu : X.A.units + 64 < cLine) (ha : PE X a (tM X.K G W ma)) (hb : PE X b (tM X.K G W mb)) : PT X (.Compare a [.GtE] [b] pos) (tT X.K G W (tBl (eB opGe ma mb))) := st_cmp op_ge im_ge ha hb (nomark _)
theorem isN_imp (σ : L2.St) (H : Hp) (Q : VK) (t : tM X.K G W (eU opIsN ma) σ H Q) : tIsN (tM X.K G W ma) σ H Q := un_imp (r := fun x H Q => Q (.bl (decide (x = .non))) H) (fun {ρ H h x dx d h' Q} hr rx e k => by
  cases rx <;> simp only [opIsN] at e <;> cases e <;> exact k _ _ _ Ex.refl hr (.bl _)) σ H Q t
theorem notN_imp (σ : L2.St) (H : Hp) (Q : VK) (t : tM X.K G W (eU opNotN ma) σ H Q) : tNotN (tM X.K G W ma) σ H Q := un_imp (r := fun x H Q => Q (.bl (!decide (x = .non))) H) (fun {ρ H h x dx d h' Q} hr rx e k => by
  cases rx <;> simp only [opNotN] at e <;> cases e <;> exact k _ _ _ Ex.refl hr (.bl _)) σ H Q t
theorem st_isN {j pos'} (ha : PE X a (tM X.K G W ma)) : PT X (.Compare a [.Is] [.Constant .none j pos'] pos) (tT X.K G W (tBl (eU opIsN ma))) := ptImp (pt_cmp (pc_isN ha)) fun σ H Q t => tB_imp isN_imp σ H Q t
theorem st_notN {j pos'} (ha : PE X a (tM X.K G W ma)) : PT X (.Compare a [.IsNot] [.Constant .none j pos'] pos) (tT X.K G W (tBl (eU opNotN ma))) := ptImp (pt_cmp (pc_notN ha)) fun σ H Q t => tB_imp notN_imp σ H Q t
theorem ch_imp {r r' : R2} {f g : D → D → Hh → Option (D × Hh)} (i : Imp2 X.K G r f) (i' : Imp2 X.K G r' g) (σ : L2.St) (H : Hp) (Q : VK) (t : tM X.K G W (eCh f g ma mb mc) σ H Q) : tChain r r' (tM X.K G W ma) (tM X.K G W mb) (tM X.K G W mc) σ H Q := by
  obtain ⟨ρ, h, env, hr, he, p⟩ := t
  refine tG_mono (tG_bind (rel := relV X.K) hr he p) fun x H1 ⟨ρ1, h1, d, e1, hr1, he1, r1, p1⟩ => ?_
  refine tG_mono (tG_bind (rel := relV X.K) hr1 he1 p1) fun y H2 ⟨ρ2, h2, d2, e2, hr2, he2, r2, p2⟩ => ?_
  dsimp only at p2
  cases o : f d d2 h2 with
  | none => rw [o] at p2; exact p2.elim
  | some q =>
    obtain ⟨z, h3⟩ := q
    rw [o] at p2
    refine i hr2 (r1.mono e2) r2 o fun ρ3 H3 v e3 hr3 r3 => ?_
    have p3 := Po.shift p2 e3
    cases z with
    | bl k =>
      cases r3
      refine ⟨k, rfl, ?_⟩
      cases k with
      | false => exact p3.ok hr3 (.bl _)
      | true =>
        refine tG_mono (tG_bind (rel := relV X.K) hr3 (he2.mono e3) p3) fun w H4 ⟨ρ4, h4, d4, e4, hr4, he4, r4, p4⟩ => ?_
        obtain ⟨d5, h5, eq, k5⟩ := p4.opt
        exact i' hr4 ((r2.mono e3).mono e4) r4 eq k5
    | _ => exact p3.elim
theorem se_chain {op op' : CmpOp} {r r' : R2} {f g : D → D → Hh → Option (D × Hh)} (ho : OpR X (compareOp op) r) (ho' : OpR X (compareOp op') r') (i : Imp2 X.K G r f) (i' : Imp2 X.K G r' g) (ha : PE X a (tM X.K G W ma)) (hb : PE X b (tM X.K G W mb)) (hc : PE X c (tM X.K G W mc))
    (hm : lastMarks [op, op'] [b, c] = false := by with_unfolding_all rfl) : PE X (.Compare a [op, op'] [b, c] pos) (tM X.K G W (eCh f g ma mb mc)) := peImp (pe_chain ho ho' ha hb hc hm) fun σ H Q t => ch_imp i i' σ H Q t
theorem st_chain {op op' : CmpOp} {r r' : R2} {f g : D → D → Hh → Option (D × Hh)} (ho : OpR X (compareOp op) r) (ho' : OpR X (compareOp op') r') (i : Imp2 X.K G r f) (i' : Imp2 X.K G r' g) (ha : PE X a (tM X.K G W ma)) (hb : PE X b (tM X.K G W mb)) (hc : PE X c (tM X.K G W mc))
    (hm : lastMarks [op, op'] [b, c] = false := by with_unfolding_all rfl) : PT X (.Compare a [op, op'] [b, c] pos) (tT X.K G W (tBl (eCh f g ma mb mc))) := ptImp (pt_chain ho ho' ha hb hc hm) fun σ H Q t => tB_imp (ch_imp i i') σ H Q t

/-! ### and, or, not -/
theorem sw_and1 (ha : PT X a (tT X.K G W ta)) : PW X (.BoolOp .And [a] pos) (tT X.K G W ta) := pw_and1 ha
theorem sw_or1 (ha : PT X a (tT X.K G W ta)) : PW X (.BoolOp .Or [a] pos) (tT X.K G W ta) := pw_or1 ha
theorem sw_and (ha : PT X a (tT X.K G W ta)) (hb : PW X (.BoolOp .And (b :: rest) pos) (tT X.K G W tb)) : PW X (.BoolOp .And (a :: b :: rest) pos) (tT X.K G W (tAndM ta tb)) := pwImp (pw_and ha hb) fun σ H Q t => by
  obtain ⟨ρ, h, env, hr, he, p⟩ := t
  refine tG_mono (tG_bind (rel := relB) hr he p) fun x H1 ⟨ρ1, h1, d, e1, hr1, he1, r1, p1⟩ => ?_
  subst r1
  cases x with
  | true => exact ⟨ρ1, h1, env, hr1, he1, p1⟩
  | false => exact p1.ok hr1 rfl
theorem sw_or (ha : PT X a (tT X.K G W ta)) (hb : PW X (.BoolOp .Or (b :: rest) pos) (tT X.K G W tb)) : PW X (.BoolOp .Or (a :: b :: rest) pos) (tT X.K G W (tOrM ta tb)) := pwImp (pw_or ha hb) fun σ H Q t => by
  obtain ⟨ρ, h, env, hr, he, p⟩ := t
  refine tG_mono (tG_bind (rel := relB) hr he p) fun x H1 ⟨ρ1, h1, d, e1, hr1, he1, r1, p1⟩ => ?_
  subst r1
  cases x with
  | false => exact ⟨ρ1, h1, env, hr1, he1, p1⟩
  | true => exact p1.ok hr1 rfl
theorem st_w (ha : PW X a (tT X.K G W ta)) : PT X a (tT X.K G W ta) := ha.pt
theorem st_not (ha : PT X a (tT X.K G W ta)) : PT X (.UnaryOp .Not a pos) (tT X.K G W (tNotM ta)) := ptImp (pt_not ha) fun σ H Q t => by
  obtain ⟨ρ, h, env, hr, he, p⟩ := t
  refine tG_mono (tG_bind (rel := relB) hr he p) fun x H1 ⟨ρ1, h1, d, e1, hr1, he1, r1, p1⟩ => ?_
  subst r1
  exact p1.ok hr1 rfl
theorem se_one {op} (ha : PE X a (tM X.K G W ma)) : PE X (.BoolOp op [a] pos) (tM X.K G W ma) := pe_one ha
theorem se_and (ha : PE X a (tM X.K G W ma)) (hb : PE X (.BoolOp .And (b :: rest) pos) (tM X.K G W mb)) : PE X (.BoolOp .And (a :: b :: rest) pos) (tM X.K G W (eAnd ma mb)) := peImp (pe_and ha hb) fun σ H Q t => by
  obtain ⟨ρ, h, env, hr, he, p⟩ := t
  refine tG_mono (tG_bind (rel := relV X.K) hr he p) fun x H1 ⟨ρ1, h1, d, e1, hr1, he1, r1, p1⟩ => ?_
  cases d with
  | bl k =>
    cases r1
    refine ⟨k, rfl, ?_⟩
    cases k with
    | true => exact ⟨ρ1, h1, env, hr1, he1, p1⟩
    | false => exact p1.ok hr1 (.bl _)
  | _ => exact p1.elim
theorem se_or (ha : PE X a (tM X.K G W ma)) (hb : PE X (.BoolOp .Or (b :: rest) pos) (tM X.K G W mb)) : PE X (.BoolOp .Or (a :: b :: rest) pos) (tM X.K G W (eOr ma mb)) := peImp (pe_or ha hb) fun σ H Q t => by
  obtain ⟨ρ, h, env, hr, he, p⟩ := t
  refine tG_mono (tG_bind (rel := relV X.K) hr he p) fun x H1 ⟨ρ1, h1, d, e1, hr1, he1, r1, p1⟩ => ?_
  cases d with
  | bl k =>
    cases r1
    refine ⟨k, rfl, ?_⟩
    cases k with
    | false => exact ⟨ρ1, h1, env, hr1, he1, p1⟩
    | true => exact p1.ok hr1 (.bl _)
  | _ => exact p1.elim
theorem se_not (ha : PE X a (tM X.K G W ma)) : PE X (.UnaryOp .Not a pos) (tM X.K G W (eNot ma)) := peImp (pe_not ha) fun σ H Q t => by
  obtain ⟨ρ, h, env, hr, he, p⟩ := t
  refine tG_mono (tG_bind (rel := relV X.K) hr he p) fun x H1 ⟨ρ1, h1, d, e1, hr1, he1, r1, p1⟩ => ?_
  cases d with
  | bl k =>
    cases r1
    exact ⟨k, rfl, p1.ok hr1 (.bl _)⟩
  | _ => exact p1.elim
theorem se_if (hc : PT X c (tT X.K G W ta)) (ha : PE X a (tM X.K G W ma)) (hb : PE X b (tM X.K G W mb)) : PE X (.IfExp c a b pos) (tM X.K G W (eIf ta ma mb)) := peImp (pe_ifExp hc ha hb) fun σ H Q t => by
  obtain ⟨ρ, h, env, hr, he, p⟩ := t
  refine tG_mono (tG_bind (rel := relB) hr he p) fun x H1 ⟨ρ1, h1, d, e1, hr1, he1, r1, p1⟩ => ?_
  subst r1
  cases x with
  | true => exact ⟨ρ1, h1, env, hr1, he1, p1⟩
  | false => exact ⟨ρ1, h1, env, hr1, he1, p1⟩
end

/-! ### argument lists -/
def evs : List M → Ev → Hh → R (List D)
  | [], _, h => .ok [] h
  | m :: ms, env, h => (m env h).bind fun d h1 => (evs ms env h1).bind fun ds h2 => .ok (d :: ds) h2
def eN (f : List D → Hh → Option (D × Hh)) (ms : List M) : M := fun env h => (evs ms env h).bind fun ds h1 => R.opt (f ds h1)
def ImpN (K : PySem.W.Frag) (G : Cl) (r : List V → Hp → VK → Prop) (f : List D → Hh → Option (D × Hh)) : Prop := ∀ {ρ : List Addr} {H : Hp} {h : Hh} {xs : List V} {ds : List D} {d : D} {h' : Hh} {Q : VK}, Rh K G ρ H h → Rvs K ρ H xs ds → f ds h = some (d, h') →
  (∀ ρ' H' v, Ex K ρ H ρ' H' → Rh K G ρ' H' h' → Rv K ρ' H' v d → Q v H') → r xs H Q
def eTup (ms : List M) : M := fun env h => (evs ms env h).bind fun ds h1 => .ok (.tup ds) h1
def eLst (ms : List M) : M := fun env h => (evs ms env h).bind fun ds h1 => .ok (.ref h1.length) (h1 ++ [.lst ds])
section
variable {X : Cx} {G : Cl} {W : WX} {e o a b c : Expr} {es rest : List Expr} {pos p : Pos} {ma mb mc m mo : M} {ms : List M} {K : PySem.W.Frag} {ρ : List Addr} {H : Hp} {h : Hh} {σ : L2.St} {env : Ev} {x : Str} {id T : String}
theorem sa_nil : PA X [] (tL X.K G W (evs [])) := paImp pa_nil fun σ H Q t => by
  obtain ⟨ρ, h, env, hr, he, p⟩ := t
  exact p.ok hr .nil
theorem sa_cons (ha : PE X e (tM X.K G W m)) (hb : PA X es (tL X.K G W (evs ms))) (hs : starEach (e :: es) X.env = (false, eval e X.env) :: starEach es X.env := by rfl) : PA X (e :: es) (tL X.K G W (evs (m :: ms))) := paImp (pa_cons ha hb hs) fun σ H Q t => by
  obtain ⟨ρ, h, env, hr, he, p⟩ := t
  refine tG_mono (tG_bind (rel := relV X.K) hr he p) fun x H1 ⟨ρ1, h1, d, e1, hr1, he1, r1, p1⟩ => ?_
  refine tG_mono (tG_bind (rel := relVs X.K) hr1 he1 p1) fun y H2 ⟨ρ2, h2, d2, e2, hr2, he2, r2, p2⟩ => ?_
  exact p2.ok hr2 (.cons (r1.mono e2) r2)
theorem evs_len : ∀ {ms : List M} {env : Ev} {h h' : Hh} {ds : List D}, evs ms env h = .ok ds h' → ds.length = ms.length
  | [], _, _, _, _, e => by cases e; rfl
  | m :: ms, env, h, h', ds, e => by
    unfold evs at e
    cases q : m env h with
    | ok d h1 =>
      rw [q] at e
      simp only [R.bind_ok] at e
      cases q2 : evs ms env h1 with
      | ok ds2 h2 =>
        rw [q2] at e
        cases e
        rw [List.length_cons, List.length_cons, evs_len q2]
      | exc c fs h2 => rw [q2] at e; cases e
      | bad => rw [q2] at e; cases e
    | exc c fs h1 => rw [q] at e; cases e
    | bad => rw [q] at e; cases e
theorem nary_imp {r : List V → Hp → VK → Prop} {f : List D → Hh → Option (D × Hh)} (i : ImpN X.K G r f) (σ : L2.St) (H : Hp) (Q : VK) (t : tM X.K G W (eN f ms) σ H Q) : tCB r (tL X.K G W (evs ms)) σ H Q := by
  obtain ⟨ρ, h, env, hr, he, p⟩ := t
  refine tG_mono (tG_bind (rel := relVs X.K) hr he p) fun x H1 ⟨ρ1, h1, d, e1, hr1, he1, r1, p1⟩ => ?_
  obtain ⟨d2, h2, eq, k⟩ := p1.opt
  exact i hr1 r1 eq k
theorem se_callB {r : List V → Hp → VK → Prop} {f : List D → Hh → Option (D × Hh)} (hc : CallR X (.builtin id) r) (i : ImpN X.K G r f) (hg : Gl X x) (hm : X.mg x = none) (hv : bootBuiltins x = some (.builtin id)) (ha : PA X (e :: es) (tL X.K G W (evs ms))) (hn : x ≠ "__name__" := by decide) (hdb : (x == ("__debug__" : Str)) = false := by decide)
    (he : starEach (e :: es) X.env = (false, eval e X.env) :: starEach es X.env := by rfl) (hpl : (backTo pos (starEach es X.env)).any (·.1) = false := by rfl) : PE X (.Call (.Name x p) (e :: es) [] pos) (tM X.K G W (eN f ms)) :=
  peImp (pe_callB hc hg hm hv ha hn hdb he hpl) fun σ H Q t => nary_imp i σ H Q t
theorem se_callTy {r : List V → Hp → VK → Prop} {f : List D → Hh → Option (D × Hh)} (hc : CallR X (.type T) r) (i : ImpN X.K G r f) (hg : Gl X x) (hm : X.mg x = none) (hv : bootBuiltins x = some (.type T)) (ha : PA X (e :: es) (tL X.K G W (evs ms))) (hn : x ≠ "__name__" := by decide) (hdb : (x == ("__debug__" : Str)) = false := by decide)
    (he : starEach (e :: es) X.env = (false, eval e X.env) :: starEach es X.env := by rfl) (hpl : (backTo pos (starEach es X.env)).any (·.1) = false := by rfl) : PE X (.Call (.Name x p) (e :: es) [] pos) (tM X.K G W (eN f ms)) :=
  peImp (pe_callTy hc hg hm hv ha hn hdb he hpl) fun σ H Q t => nary_imp i σ H Q t
theorem seq_len {t : TA} {L : List V → Hp → Prop} (hl : ms.length ≤ sizeLine) (hr : Rh K G ρ H h) (he : Re K ρ H σ env) {Q : VK} {f : List D → Hh → R D}
    (p : Po K G (relV K) W ρ H σ ((evs ms env h).bind f) Q) : tG K G (relVs K) W (evs ms) σ H fun vs H1 => vs.length ≤ sizeLine ∧ Thn K G (relVs K) (relV K) W σ env f Q ρ H vs H1 := by
  refine ⟨ρ, h, env, hr, he, ?_⟩
  cases q : evs ms env h with
  | ok ds h1 =>
    rw [q] at p
    intro ρ' H' vs e a b
    exact ⟨by rw [Rvs.length b, evs_len q]; exact hl, ρ', h1, ds, e, a, he.mono e, b, Po.shift p e⟩
  | exc c fs h1 => rw [q] at p; exact p
  | bad => rw [q] at p; exact p
theorem se_tup {x1} (ha : PA X es (tL X.K G W (evs ms))) (hl : ms.length ≤ sizeLine := by decide) : PE X (.Tuple es x1 pos) (tM X.K G W (eTup ms)) := peImp (pe_tup ha) fun σ H Q t => by
  obtain ⟨ρ, h, env, hr, he, p⟩ := t
  refine tG_mono (seq_len (t := tNil) (L := fun _ _ => True) hl hr he p) fun vs H1 ⟨l, ρ1, h1, d, e1, hr1, he1, r1, p1⟩ => ⟨l, ?_⟩
  exact new_tup hr1 r1 p1
theorem se_lst (ha : PA X es (tL X.K G W (evs ms))) (hl : ms.length ≤ sizeLine := by decide) : PE X (.List es pos) (tM X.K G W (eLst ms)) := peImp (pe_lst ha) fun σ H Q t => by
  obtain ⟨ρ, h, env, hr, he, p⟩ := t
  refine tG_mono (seq_len (t := tNil) (L := fun _ _ => True) hl hr he p) fun vs H1 ⟨l, ρ1, h1, d, e1, hr1, he1, r1, p1⟩ => ⟨l, ?_⟩
  exact new_lst hr1 r1 p1
end

/-! ### items, slices -/
def opIx : D → D → Hh → Option (D × Hh)
  | .tup ds, .int i, h => (atI ds i).map fun d => (d, h)
  | .str z, .int i, h => if z.length ≤ sizeLine then (atI z.cps.toList i).map fun c => (.str ⟨#[c]⟩, h) else none
  | .fls ds, .int i, h => (atI ds i).map fun d => (d, h)
  | .ref n, .int i, h => match h[n]? with
    | some (.lst ds) => (atI ds i).map fun d => (d, h)
    | _ => none
  | _, _, _ => none
def cutD (xs : List D) (lo hi : Option Int) : List D := (xs.drop (HT.sIx xs.length 0 lo)).take (HT.sIx xs.length xs.length hi - HT.sIx xs.length 0 lo)
/-- the part of a slice: left out, or an int -/
def evO : Option M → Ev → Hh → R (Option Int)
  | none, _, h => .ok none h
  | some m, env, h => (m env h).bind fun d h1 => match d with
    | .int i => .ok (some i) h1
    | _ => .bad
def opSl : D → Option Int → Option Int → Hh → Option (D × Hh)
  | .tup ds, lo, hi, h => some (.tup (cutD ds lo hi), h)
  | .str z, lo, hi, h => if z.length ≤ sizeLine then some (.str (cutS z lo hi), h) else none
  | .fls ds, lo, hi, h => some (.ref h.length, h ++ [.lst (cutD ds lo hi)])
  | .ref n, lo, hi, h => match h[n]? with
    | some (.lst ds) => some (.ref h.length, h ++ [.lst (cutD ds lo hi)])
    | _ => none
  | _, _, _, _ => none
def eSl (m : M) (lo hi : Option M) : M := fun env h => (m env h).bind fun d h1 => (evO lo env h1).bind fun l h2 => (evO hi env h2).bind fun u h3 => R.opt (opSl d l u h3)
def opRev : D → Hh → Option (D × Hh)
  | .fls ds, h => some (.ref h.length, h ++ [.lst ds.reverse])
  | .ref n, h => match h[n]? with
    | some (.lst ds) => some (.ref h.length, h ++ [.lst ds.reverse])
    | _ => none
  | _, _ => none
section
variable {X : Cx} {G : Cl} {W : WX} {e o a b c : Expr} {lo hi : Option Expr} {es rest : List Expr} {pos p p2 p1 p3 : Pos} {ma mb mc m mo : M} {ml mh : Option M} {ms : List M} {K : PySem.W.Frag} {ρ : List Addr} {H : Hp} {h : Hh} {σ : L2.St} {env : Ev} {x : Str} {id T : String}
theorem Rvs.atI {vs : List V} {ds : List D} (r : Rvs K ρ H vs ds) {i : Int} {d : D} (e : L2.atI ds i = some d) : ∃ v, L2.atI vs i = some v ∧ Rv K ρ H v d := by
  unfold L2.atI at e ⊢
  rw [r.length]
  cases q : ixN ds.length i with
  | none => rw [q] at e; cases e
  | some j =>
    rw [q] at e
    exact r.get e
theorem im_ix : Imp2 K G (rIx K) opIx := fun {ρ H h x y dx dy d h' Q} hr rx ry e k => by
  unfold opIx at e
  split at e
  · cases ry
    obtain ⟨a, vs, rfl, t, r⟩ := rx.sqT
    simp only [Option.map_eq_some_iff, Prod.mk.injEq] at e
    obtain ⟨d2, e, rfl, rfl⟩ := e
    obtain ⟨v, q, rv⟩ := r.atI e
    exact .inr (.inl ⟨a, vs, _, v, rfl, rfl, t, q, k _ _ _ Ex.refl hr rv⟩)
  · cases ry; cases rx
    split at e
    · simp only [Option.map_eq_some_iff, Prod.mk.injEq] at e
      obtain ⟨c, e, rfl, rfl⟩ := e
      exact .inr (.inr ⟨_, _, c, rfl, rfl, by assumption, e, k _ _ _ Ex.refl hr (.str _)⟩)
    · cases e
  · cases ry
    cases rx with
    | fls t r =>
      simp only [Option.map_eq_some_iff, Prod.mk.injEq] at e
      obtain ⟨d2, e9, rfl, rfl⟩ := e
      obtain ⟨v, q, rv⟩ := r.atI e9
      exact .inl ⟨_, _, _, v, rfl, rfl, t.sq, q, k _ _ _ Ex.refl hr rv⟩
  · cases ry
    cases rx with
    | ref ra =>
      split at e
      · rename_i e0
        simp only [Option.map_eq_some_iff, Prod.mk.injEq] at e
        obtain ⟨d2, e9, rfl, rfl⟩ := e
        obtain ⟨vs, q, r⟩ := ref_seq hr ra e0
        obtain ⟨v, q2, rv⟩ := r.atI e9
        exact .inl ⟨_, vs, _, v, rfl, rfl, q, q2, k _ _ _ Ex.refl hr rv⟩
      · cases e
  · cases e
theorem se_ix (ha : PE X a (tM X.K G W ma)) (hb : PE X b (tM X.K G W mb)) (hs : PlainIx b := by exact fun _ _ => rfl) : PE X (.Subscript a b pos) (tM X.K G W (eB opIx ma mb)) := peImp (pe_ix ix_seq ha hb hs) fun σ H Q t => bin_imp im_ix σ H Q t
abbrev relO : List Addr → Hp → Option Int → Option Int → Prop := fun _ _ b c => b = c
theorem so_none : PO X none (tG X.K G relO W (evO none)) := ⟨fun pins s σ H Q I t => by
  obtain ⟨ρ, h, env, hr, he, p⟩ := t
  exact po_none.run pins s σ H Q I (p.ok hr rfl)⟩
theorem so_some (ha : PE X e (tM X.K G W m)) : PO X (some e) (tG X.K G relO W (evO (some m))) := ⟨fun pins s σ H Q I t => by
  obtain ⟨ρ, h, env, hr, he, p⟩ := t
  refine (po_some ha).run pins s σ H Q I (tG_mono (tG_bind (rel := relV X.K) hr he p) fun x H1 ⟨ρ1, h1, d, e1, hr1, he1, r1, p1⟩ => ?_)
  cases d with
  | int i => cases r1; exact ⟨i, rfl, p1.ok hr1 rfl⟩
  | _ => exact p1.elim⟩
theorem Rvs.cut {vs : List V} {ds : List D} (r : Rvs K ρ H vs ds) (lo hi : Option Int) : Rvs K ρ H (cutV vs lo hi) (cutD ds lo hi) := by
  unfold cutV cutD
  rw [r.length]
  exact (r.drop _).take _
abbrev rSlAll (K : PySem.W.Frag) : V → Option Int → Option Int → Hp → VK → Prop := fun x lo hi H Q => rSlA K x lo hi H Q ∨ (rSlL K x lo hi H Q ∨ rSlS x lo hi H Q)
theorem whole_cut {ds : List D} {lo hi : Option Int} (h1 : HT.sIx ds.length 0 lo = 0) (h2 : HT.sIx ds.length ds.length hi = ds.length) : cutD ds lo hi = ds := by
  unfold cutD
  rw [h1, h2]
  simp
theorem im_sl {x : V} {d d2 : D} {lo hi : Option Int} {h' : Hh} {Q : VK} (hr : Rh K G ρ H h) (rx : Rv K ρ H x d) (e : opSl d lo hi h = some (d2, h')) (k : ∀ ρ' H' v, Ex K ρ H ρ' H' → Rh K G ρ' H' h' → Rv K ρ' H' v d2 → Q v H') : rSlAll K x lo hi H Q := by
  unfold opSl at e
  split at e
  · cases e
    obtain ⟨a, vs, rfl, t, r⟩ := rx.sqT
    refine .inl ⟨a, vs, rfl, t, fun ⟨z1, z2⟩ => ?_, fun _ => new_tup hr (r.cut lo hi) k⟩
    rw [r.length] at z1 z2
    rw [whole_cut z1 z2] at k
    exact k _ _ _ Ex.refl hr rx
  · split at e
    · cases e; cases rx
      exact .inr (.inr ⟨_, rfl, by assumption, k _ _ _ Ex.refl hr (.str _)⟩)
    · cases e
  · cases e
    cases rx with
    | fls t r => exact .inr (.inl ⟨_, _, rfl, t.sq, new_lst hr (r.cut _ _) k⟩)
  · cases rx with
    | ref ra =>
      split at e
      · rename_i ds e0
        cases e
        obtain ⟨vs, q, r⟩ := ref_seq hr ra e0
        exact .inr (.inl ⟨_, vs, rfl, q, new_lst hr (r.cut _ _) k⟩)
      · cases e
  · cases e
theorem se_sl (ha : PE X a (tM X.K G W m)) (hl : PO X lo (tG X.K G relO W (evO ml))) (hh : PO X hi (tG X.K G relO W (evO mh))) : PE X (.Subscript a (.Slice lo hi none p2) pos) (tM X.K G W (eSl m ml mh)) :=
  peImp (pe_slice (sl_tupA.or (sl_list.or sl_str)) ha hl hh) fun σ H Q t => by
    obtain ⟨ρ, h, env, hr, he, p⟩ := t
    refine tG_mono (tG_bind (rel := relV X.K) hr he p) fun x H1 ⟨ρ1, h1, d, e1, hr1, he1, r1, p1⟩ => ?_
    refine tG_mono (tG_bind (rel := relO) hr1 he1 p1) fun l H2 ⟨ρ2, h2, d2, e2, hr2, he2, r2, p2⟩ => ?_
    refine tG_mono (tG_bind (rel := relO) hr2 he2 p2) fun u H3 ⟨ρ3, h3, d3, e3, hr3, he3, r3, p3⟩ => ?_
    subst r2 r3
    obtain ⟨d4, h4, eq, k⟩ := p3.opt
    exact im_sl hr3 ((r1.mono e2).mono e3) eq k
theorem se_rev {k : Nat} (ha : PE X a (tM X.K G W m)) : PE X (.Subscript a (.Slice none none (some (.UnaryOp .USub (.Constant (.int 1) k p1) p2)) p3) pos) (tM X.K G W (eU opRev m)) := peImp (pe_revL ha) fun σ H Q t => by
  refine un_imp (r := fun x H1 Q => ∃ a xs, x = .ref a ∧ SqL X.K H1 a xs ∧ ∀ p, H1 p = none → Q (.ref p) (upd H1 p (.lst xs.reverse))) (fun {ρ H h x dx d h' Q} hr rx e k => ?_) σ H Q t
  unfold opRev at e
  split at e
  · cases e
    cases rx with
    | fls t r => exact ⟨_, _, rfl, t.sq, new_lst hr r.reverse k⟩
  · cases rx with
    | ref ra =>
      split at e
      · rename_i ds e0
        cases e
        obtain ⟨vs, q, r⟩ := ref_seq hr ra e0
        exact ⟨_, vs, rfl, q, new_lst hr r.reverse k⟩
      · cases e
  · cases e
end
end Sm
/-! SmD: statements, loops, defs and their calls. -/
namespace Sm
open PySem L2 PyProof.Rows

inductive SR where
  | nx (env : Ev) (h : Hh) | rt (d : D) (h : Hh) | bk (env : Ev) (h : Hh) | ct (env : Ev) (h : Hh) | exc (c : Nat) (fs : List D) (env : Ev) (h : Hh) | bad
abbrev S := Ev → Hh → SR
section
variable (K : PySem.W.Frag) (G : Cl)
def PoS (W : WX) (ρ : List Addr) (H : Hp) (D : Ends) (r : SR) : Prop := match r with
  | .nx env h => ∀ ρ' H' σ', Ex K ρ H ρ' H' → Rh K G ρ' H' h → Re K ρ' H' σ' env → D.nx σ' H'
  | .rt d h => ∀ ρ' H' v, Ex K ρ H ρ' H' → Rh K G ρ' H' h → Rv K ρ' H' v d → D.rt v H'
  | .bk env h => ∀ ρ' H' σ', Ex K ρ H ρ' H' → Rh K G ρ' H' h → Re K ρ' H' σ' env → D.bk σ' H'
  | .ct env h => ∀ ρ' H' σ', Ex K ρ H ρ' H' → Rh K G ρ' H' h → Re K ρ' H' σ' env → D.ct σ' H'
  | .exc c fs env h => ∀ ρ' H' σ' d, Ex K ρ H ρ' H' → Rh K G ρ' H' h → Re K ρ' H' σ' env → Rx K G ρ' H' d c fs → W (.ref (G.at_ c)) d σ' H'
  | .bad => False
def tS (W : WX) (s : S) : TS := fun D σ H => ∃ ρ h env, Rh K G ρ H h ∧ Re K ρ H σ env ∧ PoS K G W ρ H D (s env h)
end
def bindS {α : Type} (r : R α) (env : Ev) (f : α → Hh → SR) : SR := match r with
  | .ok a h => f a h
  | .exc c fs h => .exc c fs env h
  | .bad => .bad
@[simp] theorem bindS_ok {α : Type} (a : α) (h : Hh) (env : Ev) (f : α → Hh → SR) : bindS (.ok a h) env f = f a h := rfl
@[simp] theorem bindS_exc {α : Type} (c : Nat) (fs : List D) (h : Hh) (env : Ev) (f : α → Hh → SR) : bindS (.exc c fs h : R α) env f = .exc c fs env h := rfl
@[simp] theorem bindS_bad {α : Type} (env : Ev) (f : α → Hh → SR) : bindS (.bad : R α) env f = .bad := rfl

section
variable {K : PySem.W.Frag} {G : Cl} {α β : Type} {rel : List Addr → Hp → β → α → Prop} {W : WX} {ρ ρ1 : List Addr} {H H1 : Hp} {σ : L2.St} {h : Hh} {env : Ev} {D0 : Ends}
theorem PoS.shift {r : SR} (p : PoS K G W ρ H D0 r) (e : Ex K ρ H ρ1 H1) : PoS K G W ρ1 H1 D0 r := by
  cases r with
  | nx env h => exact fun ρ' H' v e' => p ρ' H' v (e.trans e')
  | rt d h => exact fun ρ' H' v e' => p ρ' H' v (e.trans e')
  | bk env h => exact fun ρ' H' v e' => p ρ' H' v (e.trans e')
  | ct env h => exact fun ρ' H' v e' => p ρ' H' v (e.trans e')
  | exc c fs env h => exact fun ρ' H' v d e' => p ρ' H' v d (e.trans e')
  | bad => exact p
def ThnS (K : PySem.W.Frag) (G : Cl) (rel : List Addr → Hp → β → α → Prop) (W : WX) (σ : L2.St) (env : Ev) (f : α → Hh → SR) (D0 : Ends) (ρ : List Addr) (H : Hp) (v : β) (H1 : Hp) : Prop :=
  ∃ ρ1 h1 d, Ex K ρ H ρ1 H1 ∧ Rh K G ρ1 H1 h1 ∧ Re K ρ1 H1 σ env ∧ rel ρ1 H1 v d ∧ PoS K G W ρ1 H1 D0 (f d h1)
theorem PoS.bind {r : R α} {f : α → Hh → SR} (he : Re K ρ H σ env) (p : PoS K G W ρ H D0 (bindS r env f)) : Po K G rel W ρ H σ r (ThnS K G rel W σ env f D0 ρ H) := by
  cases r with
  | ok d h' => exact fun ρ' H' v e a b => ⟨ρ', h', d, e, a, he.mono e, b, p.shift e⟩
  | exc c fs h' => exact fun ρ' H' d e a b => p ρ' H' σ d e a (he.mono e) b
  | bad => exact p
theorem tS_bind {m : Ev → Hh → R α} {f : α → Hh → SR} (hr : Rh K G ρ H h) (he : Re K ρ H σ env) (p : PoS K G W ρ H D0 (bindS (m env h) env f)) : tG K G rel W m σ H (ThnS K G rel W σ env f D0 ρ H) :=
  ⟨ρ, h, env, hr, he, p.bind he⟩
theorem PoS.nx_ {σ : L2.St} (p : PoS K G W ρ H D0 (.nx env h)) (hr : Rh K G ρ H h) (he : Re K ρ H σ env) : D0.nx σ H := p ρ H σ Ex.refl hr he
theorem PoS.rt_ {v : V} {d : D} (p : PoS K G W ρ H D0 (.rt d h)) (hr : Rh K G ρ H h) (r : Rv K ρ H v d) : D0.rt v H := p ρ H v Ex.refl hr r
end

/-! ### small statements -/
def sSkip : S := fun env h => .nx env h
def sSeq (a b : S) : S := fun env h => match a env h with
  | .nx env' h' => b env' h'
  | r => r
def sRet (m : M) : S := fun env h => bindS (m env h) env fun d h1 => .rt d h1
def sRetN : S := fun _ h => .rt .non h
def sExpr (m : M) : S := fun env h => bindS (m env h) env fun _ h1 => .nx env h1
def sSet (i : Nat) (m : M) : S := fun env h => bindS (m env h) env fun d h1 => .nx (env.set i (some d)) h1
def sIf (t : MT) (a b : S) : S := fun env h => bindS (t env h) env fun c h1 => if c = true then a env h1 else b env h1
def sBk : S := fun env h => .bk env h
def sCt : S := fun env h => .ct env h
def sNever : S := fun _ _ => .bad
def sAug (f : D → D → Hh → Option (D × Hh)) (i : Nat) (m : M) : S := fun env h => match env[i]? with
  | some (some x) => bindS (m env h) env fun y h1 => bindS (R.opt (f x y h1)) env fun z h2 => .nx (env.set i (some z)) h2
  | _ => .bad
section
variable {X : Cx} {G : Cl} {W : WX} {e a b c : Expr} {st : Stmt} {rest sa sb : List Stmt} {pos : Pos} {ma mb m : M} {s s1 s2 : S} {t : MT}
theorem ss_nil : PSs X [] (tS X.K G W sSkip) := pssImp pss_nil fun D0 σ H t => by
  obtain ⟨ρ, h, env, hr, he, p⟩ := t
  exact p.nx_ hr he
theorem seq_imp {t1 t2 : TS} (i1 : ∀ D σ H, tS X.K G W s1 D σ H → t1 D σ H) (i2 : ∀ D σ H, tS X.K G W s2 D σ H → t2 D σ H) (D0 : Ends) (σ : L2.St) (H : Hp) (t : tS X.K G W (sSeq s1 s2) D0 σ H) : tS X.K G W s1 { D0 with nx := fun σ H => tS X.K G W s2 D0 σ H } σ H := by
  obtain ⟨ρ, h, env, hr, he, p⟩ := t
  refine ⟨ρ, h, env, hr, he, ?_⟩
  unfold sSeq at p
  cases q : s1 env h with
  | nx env' h' =>
    rw [q] at p
    exact fun ρ' H' σ' e a b => ⟨ρ', h', env', a, b, PoS.shift p e⟩
  | rt d h' => rw [q] at p; exact p
  | bk env' h' => rw [q] at p; exact p
  | ct env' h' => rw [q] at p; exact p
  | exc c fs env' h' => rw [q] at p; exact p
  | bad => rw [q] at p; exact p
theorem ss_cons (h1 : PS X st (tS X.K G W s1)) (h2 : PSs X rest (tS X.K G W s2)) : PSs X (st :: rest) (tS X.K G W (sSeq s1 s2)) := pssImp (pss_cons h1 h2) fun D0 σ H t => seq_imp (fun _ _ _ z => z) (fun _ _ _ z => z) D0 σ H t
theorem ss_one (h1 : PS X st (tS X.K G W s1)) : PSs X [st] (tS X.K G W s1) := pss_one h1
theorem s_pass : PS X (.Pass pos) (tS X.K G W sSkip) := psImp ps_pass fun D0 σ H t => by
  obtain ⟨ρ, h, env, hr, he, p⟩ := t
  exact p.nx_ hr he
theorem s_break : PS X (.Break pos) (tS X.K G W sBk) := psImp ps_break fun D0 σ H t => by
  obtain ⟨ρ, h, env, hr, he, p⟩ := t
  exact p ρ H σ Ex.refl hr he
theorem s_continue : PS X (.Continue pos) (tS X.K G W sCt) := psImp ps_continue fun D0 σ H t => by
  obtain ⟨ρ, h, env, hr, he, p⟩ := t
  exact p ρ H σ Ex.refl hr he
theorem s_never : PS X st (tS X.K G W sNever) := psImp ps_never fun D0 σ H t => by
  obtain ⟨ρ, h, env, hr, he, p⟩ := t
  exact p
theorem s_ret (ha : PE X a (tM X.K G W m)) : PS X (.Return (some a) pos) (tS X.K G W (sRet m)) := psImp (ps_ret ha) fun D0 σ H t => by
  obtain ⟨ρ, h, env, hr, he, p⟩ := t
  refine tG_mono (tS_bind (rel := relV X.K) hr he p) fun x H1 ⟨ρ1, h1, d, e1, hr1, he1, r1, p1⟩ => ?_
  exact p1.rt_ hr1 r1
theorem s_retN : PS X (.Return none pos) (tS X.K G W sRetN) := psImp ps_retN fun D0 σ H t => by
  obtain ⟨ρ, h, env, hr, he, p⟩ := t
  exact p.rt_ hr .non
theorem s_expr (ha : PE X a (tM X.K G W m)) (hs : swapsWith a none pos.line X.env = pure false := by rfl) : PS X (.Expr a pos) (tS X.K G W (sExpr m)) := psImp (ps_expr ha hs) fun D0 σ H t => by
  obtain ⟨ρ, h, env, hr, he, p⟩ := t
  refine tG_mono (tS_bind (rel := relV X.K) hr he p) fun x H1 ⟨ρ1, h1, d, e1, hr1, he1, r1, p1⟩ => ?_
  exact p1.nx_ hr1 he1
theorem set_imp {i : Nat} (D0 : Ends) (σ : L2.St) (H : Hp) (t : tS X.K G W (sSet i m) D0 σ H) : tAsg (tM X.K G W m) (gName i) D0 σ H := by
  obtain ⟨ρ, h, env, hr, he, p⟩ := t
  refine tG_mono (tS_bind (rel := relV X.K) hr he p) fun x H1 ⟨ρ1, h1, d, e1, hr1, he1, r1, p1⟩ => ?_
  exact p1.nx_ hr1 (he1.set r1 i)
theorem s_set (i : Nat) {x : Str} {pos' : Pos} (hN : X.N.Nodup) (ha : PE X a (tM X.K G W m)) (hi : X.N[i]? = some x := by rfl) (hx : Loc X.env.scope x := by first | exact Or.inl rfl | exact Or.inr rfl) (hs : swapsWith a (some (.Name x pos')) pos.line X.env = pure false := by rfl)
    (hf : X.fn x = true ∨ X.env.scope.names.lookup x = some .local := by first | exact .inl rfl | exact .inr rfl) : PS X (.Assign [.Name x pos'] a pos) (tS X.K G W (sSet i m)) := psImp (ps_set hN hi hx ha hs hf) fun D0 σ H t => set_imp D0 σ H t
theorem s_if (hc : PT X c (tT X.K G W t)) (ha : PSs X sa (tS X.K G W s1)) (hb : PSs X sb (tS X.K G W s2)) : PS X (.If c sa sb pos) (tS X.K G W (sIf t s1 s2)) := psImp (ps_if hc ha hb) fun D0 σ H t => by
  obtain ⟨ρ, h, env, hr, he, p⟩ := t
  refine tG_mono (tS_bind (rel := relB) hr he p) fun x H1 ⟨ρ1, h1, d, e1, hr1, he1, r1, p1⟩ => ?_
  subst r1
  cases x with
  | true => exact ⟨ρ1, h1, env, hr1, he1, p1⟩
  | false => exact ⟨ρ1, h1, env, hr1, he1, p1⟩
theorem s_aug {op : Operator} {r : R2} {f : D → D → Hh → Option (D × Hh)} (i : Nat) {x : Str} {pos' : Pos} (hN : X.N.Nodup) (ho : OpR X (inplaceOp op) r) (im : Imp2 X.K G r f) (ha : PE X a (tM X.K G W m)) (hi : X.N[i]? = some x := by rfl) (hx : Loc X.env.scope x := by first | exact Or.inl rfl | exact Or.inr rfl)
    (hf : X.fn x = true ∨ X.env.scope.names.lookup x = some .local := by first | exact .inl rfl | exact .inr rfl) : PS X (.AugAssign (.Name x pos') op a pos) (tS X.K G W (sAug f i m)) := psImp (ps_aug (ti := r) hN hi hx ha ho hf) fun D0 σ H t => by
  obtain ⟨ρ, h, env, hr, he, p⟩ := t
  unfold sAug at p
  cases q : env[i]? with
  | none => rw [q] at p; exact p.elim
  | some o =>
    cases o with
    | none => rw [q] at p; exact p.elim
    | some d =>
      rw [q] at p
      obtain ⟨v, h1, h2⟩ := he.get i d q
      refine ⟨v, h1, tG_mono (tS_bind (rel := relV X.K) hr he p) fun y H1 ⟨ρ1, h1', d1, e1, hr1, he1, r1, p1⟩ => ?_⟩
      cases z : f d d1 h1' with
      | none => dsimp only at p1; rw [z] at p1; exact p1.elim
      | some zz =>
        obtain ⟨d2, h2'⟩ := zz
        dsimp only at p1
        rw [z] at p1
        exact im hr1 (h2.mono e1) r1 z fun ρ' H' v' e' a' b' => p1 ρ' H' _ e' a' ((he1.mono e').set b' i)
end

/-! ### a, b = .. -/
@[simp] def setAll : List Nat → List D → Ev → Ev
  | i :: is, d :: ds, env => setAll is ds (env.set i (some d))
  | _, _, env => env
/-- the parts of a tuple or a list -/
def partsOf : D → Hh → Option (List D)
  | .tup ds, _ => some ds
  | .fls ds, _ => some ds
  | .ref n, h => match h[n]? with
    | some (.lst ds) => some ds
    | _ => none
  | _, _ => none
/-- a target stores a value -/
abbrev TgM := D → Hh → Ev → Option Ev
def gtName (i : Nat) : TgM := fun d _ env => some (env.set i (some d))
def gtTup (is : List Nat) : TgM := fun d h env => match partsOf d h with
  | some ds => if ds.length = is.length then some (setAll is ds env) else none
  | none => none
def TgOk (K : PySem.W.Frag) (G : Cl) (g : TG) (s : TgM) : Prop := ∀ {ρ : List Addr} {H : Hp} {h : Hh} {σ : L2.St} {env env' : Ev} {v : V} {d : D} {Q : L2.St → Hp → Prop}, Rh K G ρ H h → Re K ρ H σ env → Rv K ρ H v d → s d h env = some env' → (∀ σ', Re K ρ H σ' env' → Q σ' H) → g v σ H Q
def sUnp (g : TgM) (m : M) : S := fun env h => bindS (m env h) env fun d h1 => match g d h1 env with
  | some env' => .nx env' h1
  | none => .bad
theorem PG.or {X : Cx} {tg : Expr} {t u : TG} (h1 : PG X tg t) (h2 : PG X tg u) : PG X tg (fun v σ H Q => t v σ H Q ∨ u v σ H Q) := ⟨fun pins s σ H v u Q I r q => by
  rcases q with q | q
  · exact h1.run pins s σ H v u Q I r q
  · exact h2.run pins s σ H v u Q I r q⟩
/-- the readings of names, one after another -/
def gNames : List Nat → TGs
  | [] => gNil
  | i :: is => gCons (gName i) (gNames is)
section
variable {X : Cx} {G : Cl} {W : WX} {e a b c tg : Expr} {es : List Expr} {st : Stmt} {pos : Pos} {m : M} {K : PySem.W.Frag}
theorem tg_name {i : Nat} : TgOk K G (gName i) (gtName i) := fun {ρ H h σ env env' v d Q} hr he r e k => by
  cases e
  exact k _ (he.set r i)
theorem names_imp {ρ : List Addr} {H : Hp} : ∀ {is : List Nat} {vs : List V} {ds : List D} {σ : L2.St} {env : Ev} {Q : L2.St → Hp → Prop}, ds.length = is.length → Re K ρ H σ env → Rvs K ρ H vs ds → (∀ σ', Re K ρ H σ' (setAll is ds env) → Q σ' H) → gNames is vs σ H Q
  | [], _, [], σ, env, Q, _, he, .nil, k => ⟨rfl, k σ he⟩
  | i :: is, _, d :: ds, σ, env, Q, l, he, .cons (v := v) (vs := vs) r rs, k => ⟨v, vs, rfl, names_imp (is := is) (by simpa using l) (he.set r i) rs k⟩
theorem tg_tup {is : List Nat} {n : Nat} (hn : n = is.length) : TgOk K G (fun v σ H Q => gTup K n (gNames is) v σ H Q ∨ gLst K n (gNames is) v σ H Q) (gtTup is) := fun {ρ H h σ env env' v d Q} hr he r e k => by
  unfold gtTup at e
  split at e
  · rename_i ds e1
    split at e
    · rename_i hl
      cases e
      unfold partsOf at e1
      split at e1
      · cases e1
        obtain ⟨a, vs, rfl, t, r⟩ := r.sqT
        exact .inl ⟨a, vs, rfl, t, by rw [r.length, hl, hn], names_imp hl he r k⟩
      · cases e1
        cases r with
        | fls t r => exact .inr ⟨_, _, rfl, t.sq, by rw [r.length, hl, hn], names_imp hl he r k⟩
      · cases r with
        | ref ra =>
          split at e1
          · rename_i e0
            cases e1
            obtain ⟨vs, q, r⟩ := ref_seq hr ra e0
            exact .inr ⟨_, vs, rfl, q, by rw [r.length, hl, hn], names_imp hl he r k⟩
          · cases e1
      · cases e1
    · cases e
  · cases e
theorem pgn_nil : PGs X [] (gNames []) := pgs_nil
theorem pgn_cons {i : Nat} {is : List Nat} {x : Str} {p : Pos} (hN : X.N.Nodup) (h2 : PGs X es (gNames is)) (hi : X.N[i]? = some x := by rfl) (hx : Loc X.env.scope x := by first | exact Or.inl rfl | exact Or.inr rfl) (hf : X.fn x = true ∨ X.env.scope.names.lookup x = some .local := by first | exact .inl rfl | exact .inr rfl)
    (hs : (assignEach (.Name x p :: es) X.env).map (·.2) = assign (.Name x p) X.env :: (assignEach es X.env).map (·.2) := by rfl) : PGs X (.Name x p :: es) (gNames (i :: is)) := pgs_cons (pg_name hN hi hx hf) h2 hs
theorem pgn_tup {is : List Nat} {k : Nat} (hc : X.calm = true) (h : PGs X es (gNames is)) (hn : (assignEach es X.env).length = is.length := by rfl) (hst : (assignEach es X.env).findIdx? (·.1) = none := by rfl) :
    PG X (.Tuple es k pos) (fun v σ H Q => gTup X.K is.length (gNames is) v σ H Q ∨ gLst X.K is.length (gNames is) v σ H Q) := PG.or (pg_tup hc h hn hst) (pg_lst hc h hn hst)
theorem s_unp {g : TG} {s : TgM} (ha : PE X a (tM X.K G W m)) (hg : PG X tg g) (ok : TgOk X.K G g s) (hs : swapsWithSole [tg] a pos.line X.env = pure false := by rfl) (hw : swappedStores [tg] a X.env = pure none := by rfl)
    (h1 : (assignEach [tg] X.env).map (·.2) = [assign tg X.env] := by rfl) : PS X (.Assign [tg] a pos) (tS X.K G W (sUnp s m)) := psImp (ps_asg ha hg hs hw h1) fun D0 σ H t => by
  obtain ⟨ρ, h, env, hr, he, p⟩ := t
  refine tG_mono (tS_bind (rel := relV X.K) hr he p) fun x H1 ⟨ρ1, h1, d, e1, hr1, he1, r1, p1⟩ => ?_
  dsimp only at p1
  cases q : s d h1 env with
  | none => rw [q] at p1; exact p1.elim
  | some env' =>
    rw [q] at p1
    exact ok hr1 he1 r1 q fun σ' he' => p1.nx_ hr1 he'
end

/-! ### for -/
/-- what a loop walks: its items, and the object that must stand still meanwhile -/
abbrev Src := List D × Option (Nat × O)
@[simp] def gdOk (gd : Option (Nat × O)) (h : Hh) : Prop := match gd with
  | none => True
  | some (n, o) => h[n]? = some o
open Classical in
noncomputable def forL (g : TgM) (body : S) (gd : Option (Nat × O)) : List D → Ev → Hh → SR
  | [], env, h => if gdOk gd h then .nx env h else .bad
  | x :: xs, env, h => if gdOk gd h then (match g x h env with
    | none => .bad
    | some env1 => match body env1 h with
      | .nx e' h' => forL g body gd xs e' h'
      | .ct e' h' => forL g body gd xs e' h'
      | .bk e' h' => .nx e' h'
      | r => r) else .bad
noncomputable def sFor (mi : Ev → Hh → R Src) (g : TgM) (body : S) : S := fun env h => bindS (mi env h) env fun src h1 => forL g body src.2 src.1 env h1
/-- what an iterator must do for its items -/
structure Walks (K : PySem.W.Frag) (G : Cl) (ρ0 : List Addr) (H0 : Hp) (J : It) (xs : List D) (gd : Option (Nat × O)) : Prop where
  go : ∀ (i : Nat) (ρ : List Addr) (H : Hp) (h : Hh), Rh K G ρ H h → Ex K ρ0 H0 ρ H → gdOk gd h → i < xs.length → J.go i H
  yld : ∀ (i : Nat) (ρ : List Addr) (H : Hp) (h : Hh) (x : V) (H' : Hp), Rh K G ρ H h → Ex K ρ0 H0 ρ H → gdOk gd h → J.yld i H x H' → ∀ d, xs[i]? = some d → H' = H ∧ Rv K ρ H x d
  stop : ∀ (ρ : List Addr) (H : Hp) (h : Hh), Rh K G ρ H h → Ex K ρ0 H0 ρ H → gdOk gd h → J.stop xs.length H
/-- an iterable's reading and its items -/
def ItOk (K : PySem.W.Frag) (G : Cl) (W : WX) (wi : TI) (mi : Ev → Hh → R Src) : Prop := ∀ (σ : L2.St) (H : Hp) (R : It → Hp → Prop),
  tG K G (fun ρ H (J : It) (s : Src) => Walks K G ρ H J s.1 s.2) W mi σ H R → wi σ H R
section
variable {X : Cx} {G : Cl} {W : WX} {e a b c tg iter : Expr} {es : List Expr} {st : Stmt} {body : List Stmt} {pos : Pos} {m : M} {K : PySem.W.Frag} {ρ : List Addr} {H : Hp} {h : Hh} {σ : L2.St} {env : Ev} {D0 : Ends}
theorem for_sound {J : It} {xs : List D} {gd : Option (Nat × O)} {g : TG} {s : TgM} {sb : S} (w : Walks K G ρ H J xs gd) (ok : TgOk K G g s) (hr : Rh K G ρ H h) (he : Re K ρ H σ env) (p : PoS K G W ρ H D0 (forL s sb gd xs env h)) :
    ∃ W' : Nat → Nat → L2.St → Hp → Prop, (∃ m, W' 0 m σ H) ∧ ∀ i m σ H, W' i m σ H →
      (J.stop i H ∧ D0.nx σ H) ∨ (J.go i H ∧ ∃ N : L2.St → Hp → Prop, (∀ σ' H', N σ' H' → ∃ m', m' < m ∧ W' (i + 1) m' σ' H') ∧ ∀ x H', J.yld i H x H' → g x σ H' fun σ2 H2 => tS K G W sb { D0 with nx := N, ct := N, bk := D0.nx } σ2 H2) := by
  refine ⟨fun i m σ' H' => i ≤ xs.length ∧ m = xs.length - i ∧ ∃ ρ' h' env', Ex K ρ H ρ' H' ∧ Rh K G ρ' H' h' ∧ Re K ρ' H' σ' env' ∧ PoS K G W ρ' H' D0 (forL s sb gd (xs.drop i) env' h'), ⟨_, Nat.zero_le _, rfl, ρ, h, env, Ex.refl, hr, he, p⟩, ?_⟩
  rintro i m σ1 H1 ⟨hi, rfl, ρ1, h1, env1, e1, hr1, he1, p1⟩
  by_cases hlt : i < xs.length
  · rw [List.drop_eq_getElem_cons hlt] at p1
    unfold forL at p1
    split at p1
    · rename_i hg
      refine .inr ⟨w.go i ρ1 H1 h1 hr1 e1 hg hlt, fun σ' H' => ∃ ρ' h' env', Ex K ρ1 H1 ρ' H' ∧ Rh K G ρ' H' h' ∧ Re K ρ' H' σ' env' ∧ PoS K G W ρ' H' D0 (forL s sb gd (xs.drop (i + 1)) env' h'), fun σ' H' ⟨ρ', h', env', e', hr', he', p'⟩ => ⟨_, by omega, hlt, rfl, ρ', h', env', e1.trans e', hr', he', p'⟩, fun x H' y => ?_⟩
      obtain ⟨rfl, rx⟩ := w.yld i ρ1 H1 h1 x H' hr1 e1 hg y xs[i] (by simp [hlt])
      split at p1
      · exact p1.elim
      · rename_i env2 q2
        refine ok hr1 he1 rx q2 fun σ2 he2 => ⟨ρ1, h1, env2, hr1, he2, ?_⟩
        cases q : sb env2 h1 with
        | nx e' h' => rw [q] at p1; exact fun ρ' H' σ' e a b => ⟨ρ', h', e', e, a, b, PoS.shift p1 e⟩
        | ct e' h' => rw [q] at p1; exact fun ρ' H' σ' e a b => ⟨ρ', h', e', e, a, b, PoS.shift p1 e⟩
        | bk e' h' => rw [q] at p1; exact p1
        | rt d h' => rw [q] at p1; exact p1
        | exc c fs e' h' => rw [q] at p1; exact p1
        | bad => rw [q] at p1; exact p1
    · exact p1.elim
  · have hl : i = xs.length := by omega
    subst hl
    rw [List.drop_length] at p1
    unfold forL at p1
    split at p1
    · rename_i hg
      exact .inl ⟨w.stop ρ1 H1 h1 hr1 e1 hg, p1.nx_ hr1 he1⟩
    · exact p1.elim
theorem s_for {wi : TI} {mi : Ev → Hh → R Src} {g : TG} {s : TgM} {sb : S} (hp : PassesOwn (model X.prog X.w) X.A X.env X.xe) (hc : X.calm = true) (hi : PI X tg iter wi) (oi : ItOk X.K G W wi mi) (hg : PG X tg g) (ok : TgOk X.K G g s) (hb : PSs X body (tS X.K G W sb))
    (hs : ∀ x, foldedSetIterable iter X.env x = pure x := by intro _; rfl) : PS X (.For tg iter body [] pos) (tS X.K G W (sFor mi s sb)) := psImp (ps_for hp hc hi hg hb hs) fun D0 σ H t => by
  obtain ⟨ρ, h, env, hr, he, p⟩ := t
  refine oi σ H _ (tG_mono (tS_bind hr he p) fun J H1 ⟨ρ1, h1, d, e1, hr1, he1, r1, p1⟩ => ?_)
  exact for_sound r1 ok hr1 he1 p1
theorem PI.or {wi wj : TI} (h1 : PI X tg iter wi) (h2 : PI X tg iter wj) : PI X tg iter (fun σ H R => wi σ H R ∨ wj σ H R) := ⟨fun pins s σ H R I q => by
  rcases q with q | q
  · exact h1.run pins s σ H R I q
  · exact h2.run pins s σ H R I q⟩
/-- a tuple or a list as it stands -/
def mSeq (m : M) : Ev → Hh → R Src := fun env h => (m env h).bind fun d h1 => match d with
  | .tup ds => .ok (ds, none) h1
  | .fls ds => .ok (ds, none) h1
  | .ref n => match h1[n]? with
    | some (.lst ds) => .ok (ds, some (n, .lst ds)) h1
    | _ => .bad
  | _ => .bad
theorem walks_tup {a : Addr} {ds : List D} (r : Rv K ρ H (.ref a) (.tup ds)) : Walks K G ρ H (Itt K a) ds none := by
  have get : ∀ {ρ' : List Addr} {H' : Hp}, Ex K ρ H ρ' H' → ∃ vs, SqT K H' a vs ∧ Rvs K ρ' H' vs ds := fun {ρ' H'} e => by
    obtain ⟨a', vs, e1, t, q⟩ := (r.mono e).sqT
    cases e1
    exact ⟨vs, t, q⟩
  refine ⟨fun i ρ' H' h' hr e _ hl => ?_, fun i ρ' H' h' x H2 hr e _ y d hd => ?_, fun ρ' H' h' hr e _ => ?_⟩
  · obtain ⟨vs, t, q⟩ := get e
    have hv : i < vs.length := by rw [q.length]; exact hl
    exact ⟨vs, vs[i], t, by simp [hv]⟩
  · obtain ⟨vs, t, q⟩ := get e
    obtain ⟨rfl, y⟩ := y
    have hx := y vs t
    obtain ⟨d', hd', rv⟩ := q.getV hx
    rw [hd] at hd'
    cases hd'
    exact ⟨rfl, rv⟩
  · obtain ⟨vs, t, q⟩ := get e
    exact ⟨vs, t, by rw [q.length]; exact Nat.le_refl _⟩
theorem walks_get {a : Addr} {ds : List D} {gd : Option (Nat × O)} (get : ∀ {ρ' : List Addr} {H' : Hp} {h' : Hh}, Rh K G ρ' H' h' → Ex K ρ H ρ' H' → gdOk gd h' → ∃ vs, SqL K H' a vs ∧ Rvs K ρ' H' vs ds) : Walks K G ρ H (Itl K a) ds gd := by
  refine ⟨fun i ρ' H' h' hr e g hl => ?_, fun i ρ' H' h' x H2 hr e g y d hd => ?_, fun ρ' H' h' hr e g => ?_⟩
  · obtain ⟨vs, t, q⟩ := get hr e g
    have hv : i < vs.length := by rw [q.length]; exact hl
    exact ⟨vs, vs[i], t, by simp [hv]⟩
  · obtain ⟨vs, t, q⟩ := get hr e g
    obtain ⟨rfl, y⟩ := y
    have hx := y vs t
    obtain ⟨d', hd', rv⟩ := q.getV hx
    rw [hd] at hd'
    cases hd'
    exact ⟨rfl, rv⟩
  · obtain ⟨vs, t, q⟩ := get hr e g
    exact ⟨vs, t, by rw [q.length]; exact Nat.le_refl _⟩
theorem walks_lst {a : Addr} {n : Nat} {ds : List D} (ra : ρ[n]? = some a) : Walks K G ρ H (Itl K a) ds (some (n, .lst ds)) :=
  walks_get fun {ρ' H' h'} hr e g => ref_seq hr (e.pre _ _ ra) g
theorem walks_fls {a : Addr} {ds : List D} (r : Rv K ρ H (.ref a) (.fls ds)) : Walks K G ρ H (Itl K a) ds none :=
  walks_get fun {ρ' H' h'} hr e g => by
    cases r.mono e with
    | fls t r => exact ⟨_, t.sq, r⟩
theorem io_seq : ItOk K G W (fun σ H R => iTup K (tM K G W m) σ H R ∨ iList K (tM K G W m) σ H R) (mSeq m) := fun σ H R0 t => by
  obtain ⟨ρ, h, env, hr, he, p⟩ := t
  unfold mSeq at p
  cases q : m env h with
  | bad => rw [q] at p; exact p.elim
  | exc c fs h' => rw [q] at p; exact .inl ⟨ρ, h, env, hr, he, by rw [q]; exact p⟩
  | ok d h1 =>
    rw [q] at p
    simp only [R.bind_ok] at p
    cases d with
    | tup ds =>
      refine .inl ⟨ρ, h, env, hr, he, ?_⟩
      rw [q]
      intro ρ' H' v e a r
      obtain ⟨x, vs, rfl, t, rs⟩ := r.sqT
      exact ⟨x, rfl, ⟨vs, t⟩, p ρ' H' _ e a (walks_tup r)⟩
    | fls ds =>
      refine .inr ⟨ρ, h, env, hr, he, ?_⟩
      rw [q]
      intro ρ' H' v e a r
      have w := r
      cases r with
      | fls t rs => exact ⟨_, rfl, ⟨_, t.sq⟩, p ρ' H' _ e a (walks_fls w)⟩
    | ref n =>
      dsimp only at p
      split at p
      · rename_i ds e0
        refine .inr ⟨ρ, h, env, hr, he, ?_⟩
        rw [q]
        intro ρ' H' v e a r
        cases r with
        | ref ra =>
          obtain ⟨vs, t, _⟩ := ref_seq a ra e0
          exact ⟨_, rfl, ⟨vs, t⟩, p ρ' H' _ e a (walks_lst ra)⟩
      · exact p.elim
    | _ => exact p.elim
theorem pi_seq (ha : PE X iter (tM X.K G W m)) : PI X tg iter (fun σ H R => iTup X.K (tM X.K G W m) σ H R ∨ iList X.K (tM X.K G W m) σ H R) := PI.or (pi_tup ha) (pi_list ha)
/-- range -/
def rngD (lo : Int) (n : Nat) : List D := (List.range n).map fun (i : Nat) => D.int (lo + (i : Int))
def inR (i : Int) : Bool := decide (-4611686018427387904 ≤ i) && decide (i < 4611686018427387904)
def mRng1 (m : M) : Ev → Hh → R Src := fun env h => (m env h).bind fun d h1 => match d with
  | .int j => if inR j = true then .ok (rngD 0 j.toNat, none) h1 else .bad
  | _ => .bad
def mRng2 (ma mb : M) : Ev → Hh → R Src := fun env h => (ma env h).bind fun d h1 => (mb env h1).bind fun e h2 => match d, e with
  | .int i, .int j => if inR i = true ∧ inR j = true then .ok (rngD i (j - i).toNat, none) h2 else .bad
  | _, _ => .bad
theorem walks_rng {lo : Int} {n : Nat} : Walks K G ρ H (Itr lo n) (rngD lo n) none := by
  have hl : (rngD lo n).length = n := by unfold rngD; simp
  refine ⟨fun i ρ' H' h' hr e _ hi => by rw [hl] at hi; exact hi, fun i ρ' H' h' x H2 hr e _ y d hd => ?_, fun ρ' H' h' hr e _ => by rw [hl]; exact Nat.le_refl _⟩
  obtain ⟨rfl, rfl⟩ := y
  unfold rngD at hd
  rw [List.getElem?_map] at hd
  cases q : (List.range n)[i]? with
  | none => rw [q] at hd; cases hd
  | some j =>
    rw [q] at hd
    cases hd
    obtain ⟨h1, h2⟩ := List.getElem?_eq_some_iff.mp q
    simp at h2
    subst h2
    exact ⟨rfl, .int _⟩
theorem inR_of {i : Int} (e : inR i = true) : -(2 ^ 62) ≤ i ∧ i < 2 ^ 62 := by
  unfold inR at e
  simp only [Bool.and_eq_true, decide_eq_true_eq] at e
  exact e
theorem io_rng1 : ItOk K G W (iRng1 (tL K G W (evs [m]))) (mRng1 m) := fun σ H R0 t => by
  obtain ⟨ρ, h, env, hr, he, p⟩ := t
  refine ⟨ρ, h, env, hr, he, ?_⟩
  unfold mRng1 at p
  show Po K G _ W ρ H σ ((m env h).bind fun d h1 => (evs [] env h1).bind fun ds h2 => .ok (d :: ds) h2) _
  cases q : m env h with
  | bad => rw [q] at p; exact p.elim
  | exc c fs h' => rw [q] at p; exact p
  | ok d h1 =>
    rw [q] at p
    cases d with
    | int j =>
      simp only [R.bind_ok] at p
      split at p
      · rename_i hj
        intro ρ' H' vs e a b
        cases b with
        | cons b1 b2 =>
          cases b1; cases b2
          exact ⟨j, rfl, (inR_of hj).1, (inR_of hj).2, p ρ' H' _ e a walks_rng⟩
      · exact p.elim
    | _ => exact p.elim
theorem io_rng2 {ma mb : M} : ItOk K G W (iRng2 (tL K G W (evs [ma, mb]))) (mRng2 ma mb) := fun σ H R0 t => by
  obtain ⟨ρ, h, env, hr, he, p⟩ := t
  refine ⟨ρ, h, env, hr, he, ?_⟩
  unfold mRng2 at p
  show Po K G _ W ρ H σ ((ma env h).bind fun d h1 => ((mb env h1).bind fun d2 h2 => (evs [] env h2).bind fun ds h3 => .ok (d2 :: ds) h3).bind fun ds h2 => .ok (d :: ds) h2) _
  cases q : ma env h with
  | bad => rw [q] at p; exact p.elim
  | exc c fs h' => rw [q] at p; exact p
  | ok d h1 =>
    rw [q] at p
    simp only [R.bind_ok] at p ⊢
    cases q2 : mb env h1 with
    | bad => rw [q2] at p; exact p.elim
    | exc c fs h' => rw [q2] at p; exact p
    | ok d2 h2 =>
      rw [q2] at p
      simp only [R.bind_ok] at p ⊢
      split at p
      · rename_i i j
        split at p
        · rename_i hj
          intro ρ' H' vs e a b
          cases b with
          | cons b1 b2 =>
            cases b2 with
            | cons b2 b3 =>
              cases b1; cases b2; cases b3
              exact ⟨i, j, rfl, ⟨(inR_of hj.1).1, (inR_of hj.1).2, (inR_of hj.2).1, (inR_of hj.2).2⟩, p ρ' H' _ e a walks_rng⟩
        · exact p.elim
      · exact p.elim
end

/-! ### while -/
def whileF (t : MT) (body : S) : Nat → Ev → Hh → SR
  | 0, _, _ => .bad
  | n + 1, env, h => bindS (t env h) env fun c h1 => if c = true then (match body env h1 with
    | .nx e' h' => whileF t body n e' h'
    | .ct e' h' => whileF t body n e' h'
    | .bk e' h' => .nx e' h'
    | r => r) else .nx env h1
def sWhile (fuel : Nat) (t : MT) (body : S) : S := fun env h => whileF t body fuel env h
theorem s_while {X : Cx} {G : Cl} {W : WX} {c : Expr} {body : List Stmt} {pos : Pos} {t : MT} {sb : S} (fuel : Nat) (hp : PassesOwn (model X.prog X.w) X.A X.env X.xe) (hc : PT X c (tT X.K G W t)) (hb : PSs X body (tS X.K G W sb)) : PS X (.While c body [] pos) (tS X.K G W (sWhile fuel t sb)) := psImp (ps_while hp hc hb) fun D0 σ H q => by
  obtain ⟨ρ, h, env, hr, he, p⟩ := q
  refine ⟨fun m σ' H' => ∃ ρ' h' env', Rh X.K G ρ' H' h' ∧ Re X.K ρ' H' σ' env' ∧ PoS X.K G W ρ' H' D0 (whileF t sb m env' h'), ⟨fuel, ρ, h, env, hr, he, p⟩, ?_⟩
  rintro m σ1 H1 ⟨ρ1, h1, env1, hr1, he1, p1⟩
  cases m with
  | zero => exact p1.elim
  | succ m =>
    unfold whileF at p1
    refine tG_mono (tS_bind (rel := relB) hr1 he1 p1) fun b H2 ⟨ρ2, h2, d, e2, hr2, he2, r2, p2⟩ => ?_
    subst r2
    cases b with
    | true =>
      refine ⟨fun σ' H' => ∃ ρ' h' env', Rh X.K G ρ' H' h' ∧ Re X.K ρ' H' σ' env' ∧ PoS X.K G W ρ' H' D0 (whileF t sb m env' h'), fun σ' H' w => ⟨m, Nat.lt_succ_self _, w⟩, ⟨ρ2, h2, env1, hr2, he2, ?_⟩⟩
      simp only [if_true] at p2
      cases q : sb env1 h2 with
      | nx e' h' => rw [q] at p2; exact fun ρ' H' σ' e a b => ⟨ρ', h', e', a, b, PoS.shift p2 e⟩
      | ct e' h' => rw [q] at p2; exact fun ρ' H' σ' e a b => ⟨ρ', h', e', a, b, PoS.shift p2 e⟩
      | bk e' h' => rw [q] at p2; exact p2
      | rt d h' => rw [q] at p2; exact p2
      | exc c fs e' h' => rw [q] at p2; exact p2
      | bad => rw [q] at p2; exact p2
    | false => exact p2.nx_ hr2 he2

/-! ### defs -/
abbrev Fm := List D → Hh → R D
def fnM (n : Nat) (body : S) : Fm := fun ds h => match body (ds.map some ++ List.replicate (n - ds.length) none) h with
  | .nx _ h' => .ok .non h'
  | .rt d h' => .ok d h'
  | .exc c fs _ h' => .exc c fs h'
  | _ => .bad
def spM (K : PySem.W.Frag) (G : Cl) (n : Nat) (f : Fm) : Sp := fun vs H Q E => ∃ ρ h ds, Rh K G ρ H h ∧ Rvs K ρ H vs ds ∧ vs.length = n ∧ Po K G (relV K) (fun c d _ H => E c d H) ρ H [] (f ds h) Q
/-- what the rules ask of the place where a body runs -/
structure Ct (X : Cx) (W : WX) (k : Nat) : Prop where
  tk : Takes X W
  po : PassesOwn (model X.prog X.w) X.A X.env X.xe
  hr : Room k X.A
  hc : X.calm = true
  nd : X.N.Nodup
theorem Ct.hu {X : Cx} {W : WX} {k : Nat} (c : Ct X W k) : X.A.units + 64 < cLine := c.hr.units
theorem Ct.hu1 {X : Cx} {W : WX} {k : Nat} (c : Ct X W k) : X.A.units + 1 < cLine := hu_of c.hr
/-- a def of the text, as its callers know it -/
def Ok (P : Program) (w : World) (K : PySem.W.Frag) (mg : Str → Option Value) (base : Heap) (G : Cl) (j : Nat) (x : Str) (ps : List Str) (fm : Fm) : Prop :=
  ∃ f fd, mg x = some (.ref f) ∧ PySem.W.keepIn K (.ref f) = true ∧ Binds K fd ps [] ∧ FnOk P w K mg base (L2.CX P w) j f fd ps (spM K G ps.length fm)
def eCall (fm : Fm) (ms : List M) : M := fun env h => (evs ms env h).bind fun ds h1 => fm ds h1
section
variable {P : Program} {w : World} {K : PySem.W.Frag} {mg : Str → Option Value} {base : Heap} {G : Cl}
theorem start_re {ρ : List Addr} {H : Hp} {vs : List V} {ds : List D} {N : List Str} (r : Rvs K ρ H vs ds) : Re K ρ H (L2.start N vs) (ds.map some ++ List.replicate (N.length - ds.length) none) := by
  have hl := r.length
  refine ⟨by unfold L2.start; simp [hl], fun i d e => ?_⟩
  by_cases q : i < ds.length
  · rw [List.getElem?_append_left (by simpa using q), List.getElem?_map] at e
    cases z : ds[i]? with
    | none => rw [z] at e; cases e
    | some d' =>
      rw [z] at e
      cases e
      obtain ⟨v, h1, h2⟩ := r.get z
      refine ⟨v, ?_, h2⟩
      unfold L2.start
      rw [List.getElem?_append_left (by simp; omega), List.getElem?_map, h1]
      rfl
  · rw [List.getElem?_append_right (by simp; omega)] at e
    rw [List.getElem?_replicate] at e
    split at e <;> cases e
theorem fn_ok {x qual : Str} {st : Stmt} {f : Addr} {fd : FuncData} {N ps : List Str} {k n np : Nat} {body : S} (hn : N.length = n) (hp : ps.length = np) (F : Fun K x qual st f fd) (S : FnScope N ps (defScope st))
    (hb : ∀ (cdv : Value) (A : Around) (outer : List Env) (s : Shared) (H : Hp) (E : XK), Ct (cxOf (L2.CX P w) P w K mg base N qual (defScope st) f cdv A outer s H E) (fun c d _ H => E c d H) k →
      PSs (cxOf (L2.CX P w) P w K mg base N qual (defScope st) f cdv A outer s H E) (defBody st) (tS K G (fun c d _ H => E c d H) body)) : FnOk P w K mg base (L2.CX P w) (k + 1) f fd ps (spM K G np (fnM n body)) := by
  subst hn hp
  refine F.okX S (fun vs H Q E ⟨_, _, _, _, _, l, _⟩ => l) fun cdv A outer s H vs Q E hr ⟨ρ, h, ds, rh, rs, l, p⟩ => ?_
  refine ⟨_, hb cdv A outer s H E ⟨takes_of rfl rfl rfl rfl, passes_of rfl, hr, rfl, S.nd⟩, ρ, h, _, rh, start_re rs, ?_⟩
  unfold fnM at p
  cases q : body (ds.map some ++ List.replicate (N.length - ds.length) none) h with
  | nx env h' => rw [q] at p; exact fun ρ' H' σ' e a b => p ρ' H' .non e a .non
  | rt d h' => rw [q] at p; exact p
  | exc c fs env h' => rw [q] at p; exact fun ρ' H' σ' d e a b z => p ρ' H' d e a z
  | bk env h' => rw [q] at p; exact p.elim
  | ct env h' => rw [q] at p; exact p.elim
  | bad => rw [q] at p; exact p.elim
end
section
variable {X : Cx} {G : Cl} {W : WX} {e a b c : Expr} {es : List Expr} {pos p : Pos} {ms : List M} {k j : Nat} {x : Str} {ps : List Str} {fm : Fm}
theorem se_call (ct : Ct X W k) (F : Ok X.prog X.w X.K X.mg X.base G j x ps fm) (hj : j ≤ k) (hg : Gl X x) (ha : PA X (e :: es) (tL X.K G W (evs ms))) (hl : ms.length = ps.length := by rfl) (hdb : (x == ("__debug__" : Str)) = false := by decide)
    (he : starEach (e :: es) X.env = (false, eval e X.env) :: starEach es X.env := by rfl) (hpl : (backTo pos (starEach es X.env)).any (·.1) = false := by rfl) : PE X (.Call (.Name x p) (e :: es) [] pos) (tM X.K G W (eCall fm ms)) := by
  obtain ⟨f, fd, hm, hk, hb, F⟩ := F
  refine peImp (pe_callS F (ct.hr.mono hj) hg hm hk hb (fun σ => passAt ct.tk σ) ha hdb he hpl) fun σ H Q t => ?_
  obtain ⟨ρ, h, env, hr, he, p⟩ := t
  refine ⟨ρ, h, env, hr, he, ?_⟩
  unfold eCall at p
  cases q : evs ms env h with
  | bad => rw [q] at p; exact p
  | exc c fs h' => rw [q] at p; exact p
  | ok ds h1 =>
    rw [q] at p
    simp only [R.bind_ok] at p
    intro ρ' H' vs e1 a1 b1
    refine ⟨ρ', h1, ds, a1, b1, by rw [b1.length, evs_len q, hl], ?_⟩
    have p' := p.shift e1
    cases q2 : fm ds h1 with
    | bad => rw [q2] at p'; exact p'
    | exc c fs h' => rw [q2] at p'; exact p'
    | ok d h' => rw [q2] at p'; exact p'
end
end Sm
/-! SmE: built-in functions, list methods, o[i] = v, dicts. -/
namespace Sm
open PySem L2 PyProof.Rows

section
variable {X : Cx} {G : Cl} {W : WX} {e a b c o : Expr} {es : List Expr} {st : Stmt} {pos p : Pos} {m ma mb mo : M} {ms : List M} {K : PySem.W.Frag} {ρ : List Addr} {H : Hp} {h : Hh} {k : Nat}
theorem Rvs.one {vs : List V} {d : D} (r : Rvs K ρ H vs [d]) : ∃ v, vs = [v] ∧ Rv K ρ H v d := by
  cases r with
  | cons r q => cases q; exact ⟨_, rfl, r⟩
theorem Rvs.two {vs : List V} {d e : D} (r : Rvs K ρ H vs [d, e]) : ∃ v w, vs = [v, w] ∧ Rv K ρ H v d ∧ Rv K ρ H w e := by
  cases r with
  | cons r q =>
    obtain ⟨w, rfl, q2⟩ := q.one
    exact ⟨_, _, rfl, r, q2⟩

/-! ### numbers -/
def opAbs : List D → Hh → Option (D × Hh)
  | [.int i], h => some (.int (if i < 0 then -i else i), h)
  | _, _ => none
theorem im_abs : ImpN K G (fun xs H Q => ∃ i, xs = [.int i] ∧ Q (.int (if i < 0 then -i else i)) H) opAbs := fun {ρ H h xs ds d h' Q} hr rs e k => by
  unfold opAbs at e
  split at e
  · cases e
    obtain ⟨v, rfl, r⟩ := rs.one
    cases r
    exact ⟨_, rfl, k _ _ _ Ex.refl hr (.int _)⟩
  · cases e
def opInt : List D → Hh → Option (D × Hh)
  | [.int i], h => some (.int i, h)
  | [.bl b], h => some (.int (if b = true then 1 else 0), h)
  | _, _ => none
theorem im_int : ImpN K G (fun xs H Q => (∃ i, xs = [.int i] ∧ Q (.int i) H) ∨ ∃ k, xs = [.bl k] ∧ Q (.int (if k then 1 else 0)) H) opInt := fun {ρ H h xs ds d h' Q} hr rs e k => by
  unfold opInt at e
  split at e
  · cases e
    obtain ⟨v, rfl, r⟩ := rs.one
    cases r
    exact .inl ⟨_, rfl, k _ _ _ Ex.refl hr (.int _)⟩
  · cases e
    obtain ⟨v, rfl, r⟩ := rs.one
    cases r
    exact .inr ⟨_, rfl, k _ _ _ Ex.refl hr (.int _)⟩
  · cases e
def opMax : List D → Hh → Option (D × Hh)
  | [.int i, .int j], h => some (.int (if j > i then j else i), h)
  | _, _ => none
theorem im_max : ImpN K G (fun xs H Q => ∃ i j, xs = [.int i, .int j] ∧ Q (.int (if j > i then j else i)) H) opMax := fun {ρ H h xs ds d h' Q} hr rs e k => by
  unfold opMax at e
  split at e
  · cases e
    obtain ⟨v, w, rfl, r, r2⟩ := rs.two
    cases r; cases r2
    exact ⟨_, _, rfl, k _ _ _ Ex.refl hr (.int _)⟩
  · cases e
def opMin : List D → Hh → Option (D × Hh)
  | [.int i, .int j], h => some (.int (if j < i then j else i), h)
  | _, _ => none
theorem im_min : ImpN K G (fun xs H Q => ∃ i j, xs = [.int i, .int j] ∧ Q (.int (if j < i then j else i)) H) opMin := fun {ρ H h xs ds d h' Q} hr rs e k => by
  unfold opMin at e
  split at e
  · cases e
    obtain ⟨v, w, rfl, r, r2⟩ := rs.two
    cases r; cases r2
    exact ⟨_, _, rfl, k _ _ _ Ex.refl hr (.int _)⟩
  · cases e

/-! ### lengths, lists, tuples -/
def opLen : List D → Hh → Option (D × Hh)
  | [.str y], h => if y.length ≤ sizeLine then some (.int y.length, h) else none
  | [.tup ds], h => some (.int ds.length, h)
  | [.fls ds], h => some (.int ds.length, h)
  | [.ref n], h => match h[n]? with
    | some (.lst ds) => some (.int ds.length, h)
    | some (.dK ds) => some (.int ds.length, h)
    | some (.dT ds) => some (.int ds.length, h)
    | _ => none
  | _, _ => none
abbrev rLenAll (K : PySem.W.Frag) : List V → Hp → VK → Prop := fun xs H Q => (∃ x n, xs = [x] ∧ LenV K x H n ∧ Q (.int n) H) ∨ ((∃ a kvs, xs = [V.ref a] ∧ H a = some (.dK kvs) ∧ Q (.int kvs.length) H) ∨ rLenT xs H Q)
theorem call_lenAll : CallR X (.builtin "len") (rLenAll X.K) := call_len.or (call_lenD.or call_len_dT)
theorem im_len : ImpN K G (rLenAll K) opLen := fun {ρ H h xs ds d h' Q} hr rs e k => by
  unfold opLen at e
  split at e
  · split at e
    · cases e
      obtain ⟨v, rfl, r⟩ := rs.one
      cases r
      exact .inl ⟨_, _, rfl, ⟨by assumption, rfl⟩, k _ _ _ Ex.refl hr (.int _)⟩
    · cases e
  · cases e
    obtain ⟨v, rfl, r⟩ := rs.one
    obtain ⟨a, vs, rfl, t, q⟩ := r.sqT
    refine .inl ⟨_, vs.length, rfl, .inr ⟨vs, t, rfl⟩, ?_⟩
    rw [q.length]
    exact k _ _ _ Ex.refl hr (.int _)
  · cases e
    obtain ⟨v, rfl, r⟩ := rs.one
    cases r with
    | @fls a vs _ t q =>
      refine .inl ⟨_, vs.length, rfl, .inl ⟨vs, t.sq, rfl⟩, ?_⟩
      rw [q.length]
      exact k _ _ _ Ex.refl hr (.int _)
  · obtain ⟨v, rfl, r⟩ := rs.one
    cases r with
    | ref ra =>
      split at e
      · rename_i e0
        cases e
        obtain ⟨vs, q, r⟩ := ref_seq hr ra e0
        refine .inl ⟨_, vs.length, rfl, .inl ⟨vs, q, rfl⟩, ?_⟩
        rw [r.length]
        exact k _ _ _ Ex.refl hr (.int _)
      · rename_i e0
        cases e
        have z := hr.at_ ra e0
        cases z with
        | dK q r =>
          refine .inr (.inl ⟨_, _, rfl, q, ?_⟩)
          rw [Paired.length r]
          exact k _ _ _ Ex.refl hr (.int _)
      · rename_i e0
        cases e
        have z := hr.at_ ra e0
        cases z with
        | dT q r =>
          refine .inr (.inr ⟨_, _, rfl, q, ?_⟩)
          rw [Paired.length r]
          exact k _ _ _ Ex.refl hr (.int _)
      · cases e
  · cases e
@[simp] def kD : Key → D
  | .inl i => .int i
  | .inr x => .str x
theorem rv_key (k : Key) : Rv K ρ H (kV k) (kD k) := by
  cases k with
  | inl i => exact .int i
  | inr x => exact .str x
def opList : List D → Hh → Option (D × Hh)
  | [.tup ds], h => some (.ref h.length, h ++ [.lst ds])
  | [.fls ds], h => some (.ref h.length, h ++ [.lst ds])
  | [.ref n], h => match h[n]? with
    | some (.lst ds) => some (.ref h.length, h ++ [.lst ds])
    | some (.dK kvs) => some (.ref h.length, h ++ [.lst (kvs.map fun kv => kD kv.1)])
    | some (.dT kvs) => some (.ref h.length, h ++ [.lst (kvs.map fun kv => .tup (kv.1.map kD))])
    | _ => none
  | _, _ => none
abbrev rListAll (K : PySem.W.Frag) : List V → Hp → VK → Prop := fun xs H Q => (∃ p ys, xs = [.ref p] ∧ (SqL K H p ys ∨ SqT K H p ys) ∧ ∀ l, H l = none → Q (.ref l) (upd H l (.lst ys))) ∨ (rListD xs H Q ∨
  (∃ d kvs, xs = [V.ref d] ∧ Rd H d (.dT kvs) ∧ ∀ p bs, H p = none → IsKeys H kvs bs → Q (.ref p) (upd H p (.lst (bs.map V.ref)))))
theorem call_listAll (hc : X.calm = true) : CallR X (.type "list") (rListAll X.K) := call_list_of.or ((call_list_dK hc).or (call_list_dT hc))
theorem rvs_keys : ∀ {kvs : List (Key × V)} {ds : List (Key × D)}, Paired (fun (p : Key × V) (q : Key × D) => p.1 = q.1 ∧ Rv K ρ H p.2 q.2) kvs ds → Rvs K ρ H (kvs.map fun kv => kV kv.1) (ds.map fun kv => kD kv.1)
  | _, _, .nil => .nil
  | _, _, .cons (l₁ := l1) (l₂ := l2) h t => .cons (by dsimp only; rw [h.1]; exact rv_key _) (rvs_keys t)
theorem rvs_kV : ∀ ks : List Key, Rvs K ρ H (ks.map kV) (ks.map kD)
  | [] => .nil
  | k :: ks => .cons (rv_key k) (rvs_kV ks)
theorem rvs_keysT : ∀ {kvs : List (List Key × V)} {ds : List (List Key × D)} {bs : List Addr}, Paired (fun (p : List Key × V) (q : List Key × D) => p.1 = q.1 ∧ Rv K ρ H p.2 q.2) kvs ds → IsKeys H kvs bs → Rvs K ρ H (bs.map V.ref) (ds.map fun kv => .tup (kv.1.map kD))
  | _, _, _, .nil, .nil => .nil
  | _, _, _, .cons h t, .cons z y => .cons (.tup z (by rw [h.1]; exact rvs_kV _)) (rvs_keysT t y)
theorem im_list : ImpN K G (rListAll K) opList := fun {ρ H h xs ds d h' Q} hr rs e k => by
  unfold opList at e
  split at e
  · cases e
    obtain ⟨v, rfl, r⟩ := rs.one
    obtain ⟨a, vs, rfl, t, q⟩ := r.sqT
    exact .inl ⟨a, vs, rfl, .inr t, new_lst hr q k⟩
  · cases e
    obtain ⟨v, rfl, r⟩ := rs.one
    cases r with
    | fls t q => exact .inl ⟨_, _, rfl, .inl t.sq, new_lst hr q k⟩
  · obtain ⟨v, rfl, r⟩ := rs.one
    cases r with
    | ref ra =>
      split at e
      · rename_i e0
        cases e
        obtain ⟨vs, q, r⟩ := ref_seq hr ra e0
        exact .inl ⟨_, vs, rfl, .inl q, new_lst hr r k⟩
      · rename_i e0
        cases e
        have z := hr.at_ ra e0
        cases z with
        | dK q r => exact .inr (.inl ⟨_, _, rfl, q, new_lst hr (rvs_keys r) k⟩)
      · rename_i e0
        cases e
        have z := hr.at_ ra e0
        cases z with
        | dT q r => exact .inr (.inr ⟨_, _, rfl, .inl q, fun p bs n hb => new_lst hr (rvs_keysT r hb) k p n⟩)
      · cases e
  · cases e
def opTupleOf : List D → Hh → Option (D × Hh)
  | [.tup ds], h => some (.tup ds, h)
  | [.fls ds], h => some (.tup ds, h)
  | [.ref n], h => match h[n]? with
    | some (.lst ds) => some (.tup ds, h)
    | _ => none
  | _, _ => none
theorem im_tuple : ImpN K G (fun xs H Q => ∃ p ys, xs = [.ref p] ∧ ((SqL K H p ys ∧ ∀ l, H l = none → Q (.ref l) (upd H l (.tup ys))) ∨ (SqT K H p ys ∧ Q (.ref p) H))) opTupleOf := fun {ρ H h xs ds d h' Q} hr rs e k => by
  unfold opTupleOf at e
  split at e
  · cases e
    obtain ⟨v, rfl, r⟩ := rs.one
    obtain ⟨a, vs, rfl, t, q⟩ := r.sqT
    exact ⟨a, vs, rfl, .inr ⟨t, k _ _ _ Ex.refl hr r⟩⟩
  · cases e
    obtain ⟨v, rfl, r⟩ := rs.one
    cases r with
    | fls t q => exact ⟨_, _, rfl, .inl ⟨t.sq, new_tup hr q k⟩⟩
  · obtain ⟨v, rfl, r⟩ := rs.one
    cases r with
    | ref ra =>
      split at e
      · rename_i e0
        cases e
        obtain ⟨vs, q, r⟩ := ref_seq hr ra e0
        exact ⟨_, vs, rfl, .inl ⟨q, new_tup hr r k⟩⟩
      · cases e
  · cases e
/-- the ints, rising -/
def sortI (ns : List Int) : List Int := ns.mergeSort (fun a b => decide (a ≤ b))
theorem sortI_perm (ns : List Int) : (sortI ns).Perm ns := List.mergeSort_perm ns _
theorem sortI_pair (ns : List Int) : (sortI ns).Pairwise (· ≤ ·) := by
  have h := List.pairwise_mergeSort (le := fun a b : Int => decide (a ≤ b)) (fun a b c h1 h2 => by simp only [decide_eq_true_eq] at *; omega) (fun a b => by simp only [Bool.or_eq_true, decide_eq_true_eq]; omega) ns
  exact h.imp fun h => by simpa using h
theorem sortI_eq {ns ms : List Int} (hp : ms.Perm ns) (hs : ms.Pairwise (· ≤ ·)) : ms = sortI ns := PySem.W.ksm_same (hp.trans (sortI_perm ns).symm) hs (sortI_pair ns)
def keyInts : List (Key × D) → Option (List Int)
  | [] => some []
  | (.inl i, _) :: r => (keyInts r).map (i :: ·)
  | _ :: _ => none
def opSorted : List D → Hh → Option (D × Hh)
  | [.ref n], h => match h[n]? with
    | some (.lst ds) => match intsOf ds with
      | some ns => some (.ref h.length, h ++ [.lst ((sortI ns).map D.int)])
      | none => none
    | some (.dK kvs) => match keyInts kvs with
      | some ns => if ns.length < 64 then some (.ref h.length, h ++ [.lst ((sortI ns).map D.int)]) else none
      | none => none
    | _ => none
  | _, _ => none
abbrev rSortedDI : List V → Hp → VK → Prop := fun xs H Q => ∃ (a : Addr) (kvs : List (Key × V)) (ks : List Int), xs = [.ref a] ∧ Rd H a (.dK kvs) ∧ kvs.map (·.1) = ks.map Sum.inl ∧ ks.length < 64 ∧
    ∀ (ys : List Int) (p : Addr), ys.Perm ks → ys.Pairwise (· ≤ ·) → H p = none → Q (.ref p) (upd H p (.lst (ys.map V.int)))
theorem keyInts_eq : ∀ {kvs : List (Key × V)} {ds : List (Key × D)} {ns : List Int}, Paired (fun (p : Key × V) (q : Key × D) => p.1 = q.1 ∧ Rv K ρ H p.2 q.2) kvs ds → keyInts ds = some ns → kvs.map (·.1) = ns.map Sum.inl
  | _, _, ns, .nil, e => by cases e; rfl
  | _, _, ns, .cons (b := (.inl i, y)) h t, e => by
    simp only [keyInts, Option.map_eq_some_iff] at e
    obtain ⟨ms, e1, rfl⟩ := e
    rw [List.map_cons, List.map_cons, keyInts_eq t e1, h.1]
  | _, _, ns, .cons (b := (.inr x, y)) h t, e => by simp [keyInts] at e
theorem im_sorted : ImpN K G (fun xs H Q => rSortedI K xs H Q ∨ rSortedDI xs H Q) opSorted := fun {ρ H h xs ds d h' Q} hr rs e k => by
  unfold opSorted at e
  split at e
  · obtain ⟨v, rfl, r⟩ := rs.one
    cases r with
    | ref ra =>
      split at e
      · rename_i e0
        split at e
        · rename_i ns e1
          cases e
          have z := intsOf_eq e1
          subst z
          obtain ⟨vs, q, r⟩ := ref_seq hr ra e0
          have y := r.ints
          subst y
          refine .inl ⟨_, ns, rfl, q, fun ns' p hp hs hn => ?_⟩
          rw [sortI_eq hp hs]
          exact new_lst hr (Rvs.of_ints _) k p hn
        · cases e
      · rename_i e0
        split at e
        · rename_i ns e1
          split at e
          · rename_i hl
            cases e
            have z := hr.at_ ra e0
            cases z with
            | dK q r =>
              refine .inr ⟨_, _, ns, rfl, .inl q, keyInts_eq r e1, hl, fun ns' p hp hs hn => ?_⟩
              rw [sortI_eq hp hs]
              exact new_lst hr (Rvs.of_ints _) k p hn
          · cases e
        · cases e
      · cases e
  · cases e

/-! ### isinstance -/
inductive Ty where
  | int | bool | str | tuple | list | dict | none
  deriving DecidableEq
def Ty.name : Ty → String
  | .int => "int" | .bool => "bool" | .str => "str" | .tuple => "tuple" | .list => "list" | .dict => "dict" | .none => "NoneType"
def isT : Ty → Ty → Bool
  | .int, .int => true | .bool, .bool => true | .bool, .int => true | .str, .str => true | .tuple, .tuple => true | .list, .list => true | .dict, .dict => true | .none, .none => true
  | _, _ => false
theorem kit_isT (a b : Ty) (hb : b ≠ .none) : kitB a.name b.name = some (isT a b) := by
  cases a <;> cases b <;> first | (exact absurd rfl hb) | decide +kernel
def tyD : D → Hh → Option Ty
  | .non, _ => some .none
  | .bl _, _ => some .bool
  | .int _, _ => some .int
  | .str _, _ => some .str
  | .tup _, _ => some .tuple
  | .fls _, _ => some .list
  | .ref n, h => match h[n]? with
    | some (.lst _) => some .list
    | some (.dK _) => some .dict
    | some (.dT _) => some .dict
    | _ => none
theorem tyD_ok (hr : Rh K G ρ H h) {v : V} {d : D} {t : Ty} (r : Rv K ρ H v d) (e : tyD d h = some t) : TyX K H v (.type t.name) := by
  cases r with
  | non => cases e; exact .base .non
  | bl b => cases e; exact .base (.bl b)
  | int i => cases e; exact .base (.int i)
  | str x => cases e; exact .base (.str x)
  | tup q _ => cases e; exact .base (.tup q)
  | ktp q _ _ =>
    cases e
    obtain ⟨o, its, n, h1, h2, _⟩ := q
    exact .kTuple h1 h2
  | fls q _ =>
    cases e
    rcases q with ⟨o, q⟩ | ⟨o, its, n, h1, h2, _⟩
    · exact .base (.frz q)
    · exact .kList h1 h2
  | ref ra =>
    simp only [tyD] at e
    split at e
    · rename_i e0
      cases e
      have z := hr.at_ ra e0
      cases z with
      | lst q _ => exact .base (.lst q)
    · rename_i e0
      cases e
      have z := hr.at_ ra e0
      cases z with
      | dK q _ => exact .base (.dK q)
    · rename_i e0
      cases e
      have z := hr.at_ ra e0
      cases z with
      | dT q _ => exact .base (.dT q)
    · cases e
def opIsi (t : Ty) (d : D) (h : Hh) : Option (D × Hh) := (tyD d h).map fun u => (.bl (isT u t), h)
theorem se_isi (t : Ty) {ec : Expr} (hx : PE X e (tM X.K G W m)) (hc : PE X ec (tC (.ty t.name))) (hg : Gl X "isinstance") (hm : X.mg "isinstance" = none) (ht : t ≠ .none := by decide) (h1 : starEach [e, ec] X.env = (false, eval e X.env) :: starEach [ec] X.env := by rfl) (h2 : starEach [ec] X.env = (false, eval ec X.env) :: starEach [] X.env := by rfl)
    (hpl : (backTo pos (starEach [ec] X.env)).any (·.1) = false := by rfl) : PE X (.Call (.Name "isinstance" p) [e, ec] [] pos) (tM X.K G W (eU (opIsi t) m)) :=
  peImp (pe_callB call_isi hg hm boot_isinstance (pa_cons hx (pa_cons hc pa_nil h2) h1) (by decide) (by decide) h1 hpl) fun σ H Q t' => by
    obtain ⟨ρ, h, env, hr, he, p⟩ := t'
    refine tG_mono (tG_bind (rel := relV X.K) hr he p) fun x H1 ⟨ρ1, h1, d, e1, hr1, he1, r1, p1⟩ => ?_
    obtain ⟨d2, h2, eq, k⟩ := p1.opt
    unfold opIsi at eq
    simp only [Option.map_eq_some_iff, Prod.mk.injEq] at eq
    obtain ⟨u, eu, rfl, rfl⟩ := eq
    exact ⟨x, .ty t.name, .type u.name, .type t.name, _, rfl, .ty _, tyD_ok hr1 r1 eu, kit_ty (kit_isT u t ht), k _ _ _ Ex.refl hr1 (.bl _)⟩
theorem se_ty {x : Str} {T : String} (hg : Gl X x) (hm : X.mg x = none) (hv : bootBuiltins x = some (.type T)) (hn : x ≠ "__name__" := by decide) (hd : (x == ("__debug__" : Str)) = false := by decide) : PE X (.Name x pos) (tC (.ty T)) := pe_bltn hg hm hv rfl hn hd

/-! ### methods of lists -/
def isL (d : D) (h : Hh) : Bool := match d with
  | .ref n => match h[n]? with
    | some (.lst _) => true
    | _ => false
  | _ => false
def eMt (f : D → List D → Hh → Option (D × Hh)) (mo : M) (ms : List M) : M := fun env h => (mo env h).bind fun o h1 => if isL o h1 = true then (evs ms env h1).bind fun ds h2 => R.opt (f o ds h2) else .bad
def ImpM (K : PySem.W.Frag) (G : Cl) (r : V → List V → Hp → VK → Prop) (f : D → List D → Hh → Option (D × Hh)) : Prop := ∀ {ρ : List Addr} {H : Hp} {h : Hh} {x : V} {o : D} {xs : List V} {ds : List D} {d : D} {h' : Hh} {Q : VK}, Rh K G ρ H h → Rv K ρ H x o → Rvs K ρ H xs ds → f o ds h = some (d, h') →
  (∀ ρ' H' v, Ex K ρ H ρ' H' → Rh K G ρ' H' h' → Rv K ρ' H' v d → Q v H') → r x xs H Q
theorem isL_ok (hr : Rh K G ρ H h) {v : V} {d : D} (r : Rv K ρ H v d) (e : isL d h = true) : tyV K "list" v H := by
  cases d with
  | ref n =>
    cases r with
    | ref ra =>
      simp only [isL] at e
      split at e
      · rename_i e0
        obtain ⟨vs, q, _⟩ := ref_lst hr ra e0
        exact .inl ⟨rfl, vs, SqL.of q⟩
      · cases e
  | _ => cases e
theorem mt_imp {r : V → List V → Hp → VK → Prop} {f : D → List D → Hh → Option (D × Hh)} (i : ImpM X.K G r f) (σ : L2.St) (H : Hp) (Q : VK) (t : tM X.K G W (eMt f mo ms) σ H Q) : tBM X.K "list" r (tM X.K G W mo) (tL X.K G W (evs ms)) σ H Q := by
  obtain ⟨ρ, h, env, hr, he, p⟩ := t
  refine tG_mono (tG_bind (rel := relV X.K) hr he p) fun x H1 ⟨ρ1, h1, d, e1, hr1, he1, r1, p1⟩ => ?_
  dsimp only at p1
  split at p1
  · rename_i hl
    refine ⟨isL_ok hr1 r1 hl, tG_mono (tG_bind (rel := relVs X.K) hr1 he1 p1) fun xs H2 ⟨ρ2, h2, ds, e2, hr2, he2, r2, p2⟩ => ?_⟩
    obtain ⟨d3, h3, eq, k⟩ := p2.opt
    exact i hr2 (r1.mono e2) r2 eq k
  · exact p1.elim
theorem mt0_imp {r : V → List V → Hp → VK → Prop} {f : D → List D → Hh → Option (D × Hh)} (i : ImpM X.K G r f) (σ : L2.St) (H : Hp) (Q : VK) (t : tM X.K G W (eMt f mo []) σ H Q) : tBM0 X.K "list" r (tM X.K G W mo) σ H Q := by
  obtain ⟨ρ, h, env, hr, he, p⟩ := t
  refine tG_mono (tG_bind (rel := relV X.K) hr he p) fun x H1 ⟨ρ1, h1, d, e1, hr1, he1, r1, p1⟩ => ?_
  dsimp only at p1
  split at p1
  · rename_i hl
    refine ⟨isL_ok hr1 r1 hl, ?_⟩
    have p2 : Po X.K G (relV X.K) W ρ1 H1 σ (R.opt (f d [] h1)) Q := p1
    obtain ⟨d3, h3, eq, k⟩ := p2.opt
    exact i hr1 r1 .nil eq k
  · exact p1.elim
def opAppend : D → List D → Hh → Option (D × Hh)
  | .ref n, [y], h => match h[n]? with
    | some (.lst xs) => if xs.length < sizeLine then some (.non, h.set n (.lst (xs ++ [y]))) else none
    | _ => none
  | _, _, _ => none
/-- a list is written -/
theorem wr_lst {n : Nat} {a : Addr} {ds ds' : List D} {vs' : List V} {v : V} {d : D} {Q : VK} (hr : Rh K G ρ H h) (ra : ρ[n]? = some a) (e : h[n]? = some (.lst ds)) (r : Rvs K ρ H vs' ds') (rv : Rv K ρ H v d)
    (k : ∀ ρ' H' v, Ex K ρ H ρ' H' → Rh K G ρ' H' (h.set n (.lst ds')) → Rv K ρ' H' v d → Q v H') : Q v (upd H a (.lst vs')) :=
  have e1 : Ex K ρ H ρ (upd H a (.lst vs')) := Ex.write hr ra e
  k ρ _ _ e1 (hr.write ra e (.lst upd_same (r.mono e1))) (rv.mono e1)
theorem im_append : ImpM K G rAppend opAppend := fun {ρ H h x o xs ds d h' Q} hr ro rs e k => by
  unfold opAppend at e
  split at e
  · cases ro with
    | ref ra =>
      obtain ⟨v, rfl, r⟩ := rs.one
      split at e
      · rename_i zs e0
        split at e
        · rename_i hl
          cases e
          obtain ⟨vs, q, r2⟩ := ref_lst hr ra e0
          exact ⟨_, vs, v, rfl, rfl, q, by rw [r2.length]; exact hl, wr_lst hr ra e0 (r2.append (.cons r .nil)) .non k⟩
        · cases e
      · cases e
  · cases e
def opPop : D → List D → Hh → Option (D × Hh)
  | .ref n, [], h => match h[n]? with
    | some (.lst xs) => match xs[xs.length - 1]? with
      | some y => some (y, h.set n (.lst xs.dropLast))
      | none => none
    | _ => none
  | _, _, _ => none
theorem im_pop : ImpM K G rPop opPop := fun {ρ H h x o xs ds d h' Q} hr ro rs e k => by
  unfold opPop at e
  split at e
  · cases ro with
    | ref ra =>
      cases rs
      split at e
      · rename_i zs e0
        split at e
        · rename_i y ey
          cases e
          obtain ⟨vs, q, r2⟩ := ref_lst hr ra e0
          obtain ⟨v, hv, rv⟩ := r2.get ey
          exact ⟨_, vs, v, rfl, rfl, q, by rw [r2.length]; exact hv, wr_lst hr ra e0 r2.dropLast rv k⟩
        · cases e
      · cases e
  · cases e
theorem se_append (ho : PE X o (tM X.K G W mo)) (ha : PA X (e :: es) (tL X.K G W (evs ms))) {apos : Pos} (hbase : attributeBase o "append" X.env (eval o X.env) = eval o X.env := by rfl)
    (hfew : ((backTo pos (starEach (e :: es) X.env)).all (fun x => !x.1) && (backToKw pos (keywordEach [] X.env)).all (fun x => x.1.isSome)
      && decide ((e :: es).length + ([] : List Keyword).length + (if ([] : List Keyword).isEmpty then 0 else 1) < 30)) = true := by rfl)
    (hline : (apos.endLine == pos.line) = true := by rfl) (hs : starEach (e :: es) X.env = (false, eval e X.env) :: starEach es X.env := by rfl) (hplain : (backTo pos (starEach es X.env)).any (·.1) = false := by rfl) :
    PE X (.Call (.Attribute o "append" apos) (e :: es) [] pos) (tM X.K G W (eMt opAppend mo ms)) :=
  peImp (pe_bm PySem.F.plainAttrs_list PySem.F.slot_list_append PySem.F.type_list_append mt_append ho ha hbase hfew hline hs hplain) fun σ H Q t => mt_imp im_append σ H Q t
theorem se_pop (ho : PE X o (tM X.K G W mo)) {apos : Pos} (hbase : attributeBase o "pop" X.env (eval o X.env) = eval o X.env := by rfl) (hline : (apos.endLine == pos.line) = true := by rfl) :
    PE X (.Call (.Attribute o "pop" apos) [] [] pos) (tM X.K G W (eMt opPop mo [])) :=
  peImp (pe_bm0 PySem.F.plainAttrs_list PySem.F.slot_list_pop PySem.F.type_list_pop mt_pop ho hbase hline) fun σ H Q t => mt0_imp im_pop σ H Q t

/-! ### o[i] = v -/
@[simp] def keyOf : D → Option Key
  | .int i => some (.inl i)
  | .str x => some (.inr x)
  | _ => none
@[simp] def keysOf : List D → Option (List Key)
  | [] => some []
  | d :: ds => match keyOf d, keysOf ds with
    | some k, some ks => some (k :: ks)
    | _, _ => none
def putP {κ : Type} [DecidableEq κ] (kvs : List (κ × D)) (k : κ) (v : D) : List (κ × D) :=
  if (kvs.any fun kv => decide (kv.1 = k)) = true then kvs.map (fun kv => if kv.1 = k then (kv.1, v) else kv) else kvs ++ [(k, v)]
def valP {κ : Type} [DecidableEq κ] (kvs : List (κ × D)) (k : κ) : Option D := (kvs.find? fun kv => decide (kv.1 = k)).map (·.2)
theorem keyOf_eq {d : D} {k : Key} (e : keyOf d = some k) : d = kD k := by
  cases d with
  | int i => cases e; rfl
  | str x => cases e; rfl
  | _ => cases e
theorem keysOf_eq : ∀ {ds : List D} {ks : List Key}, keysOf ds = some ks → ds = ks.map kD
  | [], ks, e => by cases e; rfl
  | d :: ds, ks, e => by
    simp only [keysOf] at e
    split at e
    · rename_i k ks' e1 e2
      cases e
      rw [keyOf_eq e1, keysOf_eq e2]
      rfl
    · cases e
theorem rv_keyD {v : V} {k : Key} (r : Rv K ρ H v (kD k)) : v = kV k := by
  cases k with
  | inl i => cases r; rfl
  | inr x => cases r; rfl
theorem rvs_keyD : ∀ {vs : List V} {ks : List Key}, Rvs K ρ H vs (ks.map kD) → vs = ks.map kV
  | _, [], .nil => rfl
  | _, k :: ks, .cons r rs => by rw [rv_keyD r, rvs_keyD rs]; rfl
theorem any_rel {κ : Type} [DecidableEq κ] {k : κ} : ∀ {kvs : List (κ × V)} {ds : List (κ × D)}, Paired (fun (p : κ × V) (q : κ × D) => p.1 = q.1 ∧ Rv K ρ H p.2 q.2) kvs ds → (kvs.any fun kv => decide (kv.1 = k)) = ds.any fun kv => decide (kv.1 = k)
  | _, _, .nil => rfl
  | _, _, .cons h t => by rw [List.any_cons, List.any_cons, any_rel t, h.1]
theorem map_rel {κ : Type} [DecidableEq κ] {k : κ} {v : V} {d : D} (rv : Rv K ρ H v d) : ∀ {kvs : List (κ × V)} {ds : List (κ × D)}, Paired (fun (p : κ × V) (q : κ × D) => p.1 = q.1 ∧ Rv K ρ H p.2 q.2) kvs ds →
    Paired (fun (p : κ × V) (q : κ × D) => p.1 = q.1 ∧ Rv K ρ H p.2 q.2) (kvs.map fun kv => if kv.1 = k then (kv.1, v) else kv) (ds.map fun kv => if kv.1 = k then (kv.1, d) else kv)
  | _, _, .nil => .nil
  | _, _, .cons h t => by
    refine .cons ?_ (map_rel rv t)
    dsimp only
    rw [h.1]
    split
    · exact ⟨rfl, rv⟩
    · exact h
theorem app_rel {α β : Type} {F : α → β → Prop} : ∀ {l₁ : List α} {l₂ : List β} {a : α} {b : β}, Paired F l₁ l₂ → F a b → Paired F (l₁ ++ [a]) (l₂ ++ [b])
  | _, _, _, _, .nil, h => .cons h .nil
  | _, _, _, _, .cons r t, h => .cons r (app_rel t h)
theorem put_rel {κ : Type} [DecidableEq κ] {k : κ} {v : V} {d : D} {kvs : List (κ × V)} {ds : List (κ × D)} (rv : Rv K ρ H v d) (r : Paired (fun (p : κ × V) (q : κ × D) => p.1 = q.1 ∧ Rv K ρ H p.2 q.2) kvs ds) :
    Paired (fun (p : κ × V) (q : κ × D) => p.1 = q.1 ∧ Rv K ρ H p.2 q.2) (putK kvs k v) (putP ds k d) := by
  unfold putK putP
  rw [any_rel r]
  split
  · exact map_rel rv r
  · exact app_rel r ⟨rfl, rv⟩
def opSetIx : D → D → D → Hh → Option Hh
  | .ref n, .tup ds, v, h => match h[n]? with
    | some (.dT kvs) => match keysOf ds with
      | some ks => if isK ds = false ∧ kvs.length < sizeLine then some (h.set n (.dT (putP kvs ks v))) else none
      | none => none
    | _ => none
  | .ref n, i, v, h => match h[n]? with
    | some (.lst xs) => match i with
      | .int i => (ixN xs.length i).map fun j => h.set n (.lst (xs.set j v))
      | _ => none
    | some (.dK kvs) => match keyOf i with
      | some k => if kvs.length < sizeLine then some (h.set n (.dK (putP kvs k v))) else none
      | none => none
    | _ => none
  | _, _, _, _ => none
theorem PSet.or {t t' : TSet} (h1 : PSet X t) (h2 : PSet X t') : PSet X (fun o i v H Q => t o i v H Q ∨ t' o i v H Q) := fun pins s σ H o i v ov iv u Q I ro ri rv q => by
  rcases q with q | q
  · exact h1 pins s σ H o i v ov iv u Q I ro ri rv q
  · exact h2 pins s σ H o i v ov iv u Q I ro ri rv q
theorem im_setIx {x y z : V} {o i v : D} {h' : Hh} {Q : Hp → Prop} (hr : Rh K G ρ H h) (ro : Rv K ρ H x o) (ri : Rv K ρ H y i) (rv : Rv K ρ H z v) (e : opSetIx o i v h = some h') (k : ∀ H', Ex K ρ H ρ H' → Rh K G ρ H' h' → Q H') : rSetL x y z H Q ∨ rSetD x y z H Q := by
  unfold opSetIx at e
  split at e
  · cases ro with
    | ref ra =>
      split at e
      · rename_i kvs e0
        split at e
        · rename_i ks e1
          split at e
          · rename_i hl
            cases e
            have zz := keysOf_eq e1
            subst zz
            have q := hr.at_ ra e0
            cases q with
            | @dT vkvs _ q r =>
              cases ri with
              | tup t rk =>
                have ek := rvs_keyD rk
                subst ek
                have e1 := Ex.write (K := K) (u := .dT (putK vkvs ks z)) hr ra e0
                refine .inr ⟨_, _, rfl, DPut.t q t (by rw [Paired.length r]; exact hl.2), k _ e1 (hr.write ra e0 (.dT upd_same ?_))⟩
                exact Paired.mapP (put_rel rv r) fun _ _ z => ⟨z.1, z.2.mono e1⟩
              | ktp _ f _ => rw [hl.1] at f; cases f
          · cases e
        · cases e
      · cases e
  · cases ro with
    | ref ra =>
      split at e
      · rename_i xs e0
        split at e
        · simp only [Option.map_eq_some_iff] at e
          obtain ⟨j, ej, rfl⟩ := e
          cases ri
          obtain ⟨vs, q, r⟩ := ref_lst hr ra e0
          have e1 := Ex.write (K := K) (u := .lst (vs.set j z)) hr ra e0
          exact .inl ⟨_, vs, _, j, rfl, rfl, q, by rw [r.length]; exact ej, k _ e1 (hr.write ra e0 (.lst upd_same ((r.set rv j).mono e1)))⟩
        · cases e
      · rename_i kvs e0
        split at e
        · rename_i kk e1
          split at e
          · rename_i hl
            cases e
            have zz := keyOf_eq e1
            subst zz
            have q := hr.at_ ra e0
            cases q with
            | @dK vkvs _ q r =>
              have ek := rv_keyD ri
              subst ek
              have e1 := Ex.write (K := K) (u := .dK (putK vkvs kk z)) hr ra e0
              refine .inr ⟨_, _, rfl, DPut.k q (by rw [Paired.length r]; exact hl), k _ e1 (hr.write ra e0 (.dK upd_same ?_))⟩
              exact Paired.mapP (put_rel rv r) fun _ _ z => ⟨z.1, z.2.mono e1⟩
          · cases e
        · cases e
      · cases e
  · cases e
def sSetIx (mo mi mv : M) : S := fun env h => bindS (mv env h) env fun v h1 => bindS (mo env h1) env fun o h2 => bindS (mi env h2) env fun i h3 => match opSetIx o i v h3 with
  | some h' => .nx env h'
  | none => .bad
theorem s_setIx {mv : M} {value i : Expr} {pos' : Pos} (hu : X.A.units + 1 < cLine) (ho : PE X o (tM X.K G W mo)) (hi : PE X i (tM X.K G W m)) (hv : PE X value (tM X.K G W mv))
    (ha : ∀ v, assign (.Subscript o i pos') X.env v = (do
      let ov ← holding [v] (eval o X.env)
      let iv ← holding [v, ov] (eval i X.env)
      standAt pos'
      holding [v, ov, iv] (setItem ov iv v)
      release [v, ov, iv] []) := by intro _; rfl)
    (hs : swapsWithSole [.Subscript o i pos'] value pos.line X.env = pure false := by rfl) (hw : swappedStores [.Subscript o i pos'] value X.env = pure none := by rfl)
    (h1 : (assignEach [.Subscript o i pos'] X.env).map (·.2) = [assign (.Subscript o i pos') X.env] := by rfl) : PS X (.Assign [.Subscript o i pos'] value pos) (tS X.K G W (sSetIx mo m mv)) :=
  psImp (ps_asg hv (pg_sub ho hi (PSet.or set_list (set_dict hu)) ha) hs hw h1) fun D0 σ H t => by
    obtain ⟨ρ, h, env, hr, he, p⟩ := t
    refine tG_mono (tS_bind (rel := relV X.K) hr he p) fun z H1 ⟨ρ1, h1, v, e1, hr1, he1, r1, p1⟩ => ?_
    refine tG_mono (tS_bind (rel := relV X.K) hr1 he1 p1) fun x H2 ⟨ρ2, h2, o, e2, hr2, he2, r2, p2⟩ => ?_
    refine tG_mono (tS_bind (rel := relV X.K) hr2 he2 p2) fun y H3 ⟨ρ3, h3, i, e3, hr3, he3, r3, p3⟩ => ?_
    dsimp only at p3
    split at p3
    · rename_i h' eq
      exact im_setIx hr3 (r2.mono e3) r3 ((r1.mono e2).mono e3) eq fun H' e' hr' => p3 ρ3 H' σ e' hr' (he3.mono e')
    · exact p3.elim
/-- {} -/
def eDK : M := fun _ h => .ok (.ref h.length) (h ++ [.dK []])
def eDT : M := fun _ h => .ok (.ref h.length) (h ++ [.dT []])
theorem se_dK : PE X (.Dict [] [] pos) (tM X.K G W eDK) := peImp pe_dnewK fun σ H Q t => by
  obtain ⟨ρ, h, env, hr, he, p⟩ := t
  exact fun q n => p (ρ ++ [q]) _ _ (Ex.push n) (hr.new n (.dK upd_same .nil)) (.ref (by rw [← hr.len]; exact get_push_eq))
theorem se_dT : PE X (.Dict [] [] pos) (tM X.K G W eDT) := peImp pe_dnewT fun σ H Q t => by
  obtain ⟨ρ, h, env, hr, he, p⟩ := t
  exact fun q n => p (ρ ++ [q]) _ _ (Ex.push n) (hr.new n (.dT upd_same .nil)) (.ref (by rw [← hr.len]; exact get_push_eq))
end
end Sm
/-! SmF: constants of the module, the law's end. -/
namespace Sm
open PySem L2 PyProof.Rows
theorem bt_len : bootBuiltins "len" = some (.builtin "len") := by first | exact PyProof.Rows.boot_len | exact PySem.boot_len | decide +kernel
theorem bt_isinstance : bootBuiltins "isinstance" = some (.builtin "isinstance") := by first | exact PyProof.Rows.boot_isinstance | exact PySem.boot_isinstance | decide +kernel
theorem bt_int : bootBuiltins "int" = some (.type "int") := by first | exact PyProof.Rows.boot_int | exact PySem.boot_int | decide +kernel
theorem bt_bool : bootBuiltins "bool" = some (.type "bool") := by first | exact PyProof.Rows.boot_bool | exact PySem.boot_bool | decide +kernel
theorem bt_str : bootBuiltins "str" = some (.type "str") := by first | exact PyProof.Rows.boot_str | exact PySem.boot_str | decide +kernel
theorem bt_list : bootBuiltins "list" = some (.type "list") := by first | exact PyProof.Rows.boot_list | exact PySem.boot_list | decide +kernel
theorem bt_tuple : bootBuiltins "tuple" = some (.type "tuple") := by first | exact PyProof.Rows.boot_tuple | exact PySem.boot_tuple | decide +kernel
theorem bt_dict : bootBuiltins "dict" = some (.type "dict") := by first | exact PyProof.Rows.boot_dict | exact PySem.boot_dict | decide +kernel
theorem bt_abs : bootBuiltins "abs" = some (.builtin "abs") := by first | exact PyProof.Rows.boot_abs | exact PySem.boot_abs | decide +kernel
theorem bt_max : bootBuiltins "max" = some (.builtin "max") := by first | exact PyProof.Rows.boot_max | exact PySem.boot_max | decide +kernel
theorem bt_min : bootBuiltins "min" = some (.builtin "min") := by first | exact PyProof.Rows.boot_min | exact PySem.boot_min | decide +kernel
theorem bt_sum : bootBuiltins "sum" = some (.builtin "sum") := by first | exact PyProof.Rows.boot_sum | exact PySem.boot_sum | decide +kernel
theorem bt_all : bootBuiltins "all" = some (.builtin "all") := by first | exact PyProof.Rows.boot_all | exact PySem.boot_all | decide +kernel
theorem bt_any : bootBuiltins "any" = some (.builtin "any") := by first | exact PyProof.Rows.boot_any | exact PySem.boot_any | decide +kernel
theorem bt_ord : bootBuiltins "ord" = some (.builtin "ord") := by first | exact PyProof.Rows.boot_ord | exact PySem.boot_ord | decide +kernel
theorem bt_sorted : bootBuiltins "sorted" = some (.builtin "sorted") := by first | exact PyProof.Rows.boot_sorted | exact PySem.boot_sorted | decide +kernel
theorem bt_set : bootBuiltins "set" = some (.type "set") := by first | exact PyProof.Rows.boot_set | exact PySem.boot_set | decide +kernel
theorem bt_range : bootBuiltins "range" = some (.type "range") := by first | exact PyProof.Rows.boot_range | exact PySem.boot_range | decide +kernel
theorem bt_reversed : bootBuiltins "reversed" = some (.type "reversed") := by first | exact PyProof.Rows.boot_reversed | exact PySem.boot_reversed | decide +kernel
theorem bt_repr : bootBuiltins "repr" = some (.builtin "repr") := by first | exact PyProof.Rows.boot_repr | exact PySem.boot_repr | decide +kernel
theorem bt_type : bootBuiltins "type" = some (.type "type") := by first | exact PyProof.Rows.boot_type | exact PySem.boot_type | decide +kernel
section
variable {X : Cx} {G : Cl} {W : WX} {e a b c o : Expr} {es : List Expr} {st : Stmt} {pos p : Pos} {m ma mb mo : M} {ms : List M} {K : PySem.W.Frag} {ρ : List Addr} {H : Hp} {h : Hh} {k : Nat}
theorem se_globI' {x : Str} {i : Int} (hg : Gl X x) (hm : ∃ u, X.mg x = some (.int i u)) (hd : (x == ("__debug__" : Str)) = false := by decide) : PE X (.Name x pos) (tM X.K G W (eC (.int i))) := let ⟨_, h⟩ := hm; se_globI hg h hd
theorem se_globS' {x y : Str} (hg : Gl X x) (hm : ∃ u, X.mg x = some (.str y u)) (hd : (x == ("__debug__" : Str)) = false := by decide) : PE X (.Name x pos) (tM X.K G W (eC (.str y))) := let ⟨_, h⟩ := hm; se_globS hg h hd
end
theorem law_end {K : PySem.W.Frag} {G : Cl} {f : Fm} (main : ∀ ns : List Int, ns.length ≤ 63 → ∃ h', f [.fls (ns.map D.int)] [] = .ok (.bl true) h') (H : Hp) (a : Addr) (ns : List Int) (hl : ns.length ≤ 63) (hO : Only H) (hS : SqL K H a (ns.map V.int)) :
    spM K G 1 f [.ref a] H (fun v _ => v = .bl true) (fun _ _ _ => False) := by
  obtain ⟨h', e⟩ := main ns hl
  have fl : FL K H a (ns.map V.int) := by
    rcases hS with (q | ⟨o, q⟩) | q
    · rcases hO a with z | ⟨o, xs, z⟩
      · rw [z] at q; cases q
      · rw [z] at q; cases q
    · exact .inl ⟨o, q⟩
    · exact .inr q
  refine ⟨[], [], [.fls (ns.map D.int)], ⟨rfl, fun i j a h => by simp at h, fun n o h => by simp at h⟩, .cons (.fls fl (Rvs.of_ints ns)) .nil, rfl, ?_⟩
  rw [e]
  intro ρ' H' v _ _ r
  cases r
  rfl
theorem walk_law {l : PySem.W.OpenLaw} {k : Nat} {q : Program} {loose : List Str} {XP : (Str → Option Value) → Heap → Prop} {YP : World → Heap → Prop} {d : DefRec} {K : Params → PySem.W.Frag} {f : Fm} {G : Cl}
    (hn : l.most = some 63) (hdf : d.params.defaults = []) (hr : Room k callerA)
    (hY : ∀ (w : World) (h : Heap), YP w h → (K w.params).In h) (main : ∀ ns : List Int, ns.length ≤ 63 → ∃ h', f [.fls (ns.map D.int)] [] = .ok (.bl true) h')
    (F : ∀ (w : World) (mg : Str → Option Value) (fa : Addr) (h : Heap), (K w.params).In h → h.Ns mainGlobals mg → mg d.name = some (.ref fa) →
      ∃ fd : FuncData, (∀ (s : Shared) (u : Value), BindsTo s fd ⟨[u], []⟩ [("script", u)]) ∧
        ∀ base : Heap, (K w.params).In base → base.Ns mainGlobals mg → FnOk l.prog w (K w.params) mg base (L2.CX l.prog w) k fa fd ["script"] (spM (K w.params) G 1 f)) :
    PySem.W.WalkO q loose XP YP l.row.toRowW d [] (fun f vs => PySem.call f vs) :=
  L2.walk_of (n := 63) (k := k) (x := "script") (CX := fun w => L2.CX l.prog w) (sp := fun w => spM (K w.params) G 1 f) hn (by decide) hdf hr hY F (fun w H a ns h1 h2 h3 => law_end main H a ns h1 h2 h3)
    fun w H s e s' z => by
      obtain ⟨_, _, _, _, _, _, _, _, _, _, _, _, z⟩ := z
      exact z
end Sm
/-! SmG: running the mirrors. -/
namespace Sm
open PySem L2 PyProof.Rows

/-- a loop, by what holds of the rest -/
theorem forL_wp {g : TgM} {body : S} {gd : Option (Nat × O)} (I : List D → Ev → Hh → Prop) (Post : SR → Prop)
    (step : ∀ x rest env h, I (x :: rest) env h → gdOk gd h ∧ ∃ env1, g x h env = some env1 ∧ ((∃ e' h', (body env1 h = .nx e' h' ∨ body env1 h = .ct e' h') ∧ I rest e' h') ∨ (∃ e' h', body env1 h = .bk e' h' ∧ Post (.nx e' h')) ∨ (∃ d h', body env1 h = .rt d h' ∧ Post (.rt d h')) ∨ (∃ c fs e' h', body env1 h = .exc c fs e' h' ∧ Post (.exc c fs e' h'))))
    (done : ∀ env h, I [] env h → gdOk gd h ∧ Post (.nx env h)) : ∀ (xs : List D) (env : Ev) (h : Hh), I xs env h → Post (forL g body gd xs env h)
  | [], env, h, i => by
    obtain ⟨a, b⟩ := done env h i
    unfold forL
    rw [if_pos a]
    exact b
  | x :: xs, env, h, i => by
    obtain ⟨a, env1, e1, r⟩ := step x xs env h i
    unfold forL
    rw [if_pos a, e1]
    dsimp only
    rcases r with ⟨e', h', q | q, i'⟩ | ⟨e', h', q, i'⟩ | ⟨d, h', q, i'⟩ | ⟨c, fs, e', h', q, i'⟩
    · rw [q]; exact forL_wp I Post step done xs e' h' i'
    · rw [q]; exact forL_wp I Post step done xs e' h' i'
    · rw [q]; exact i'
    · rw [q]; exact i'
    · rw [q]; exact i'
/-- the plain case: every turn goes on -/
theorem forL_inv {g : TgM} {body : S} {gd : Option (Nat × O)} (I : List D → Ev → Hh → Prop) (xs : List D) (env : Ev) (h : Hh) (h0 : I xs env h) (hg : ∀ rest env h, I rest env h → gdOk gd h)
    (step : ∀ x rest env h, I (x :: rest) env h → ∃ env1, g x h env = some env1 ∧ ∃ e' h', body env1 h = .nx e' h' ∧ I rest e' h') : ∃ e' h', forL g body gd xs env h = .nx e' h' ∧ I [] e' h' := by
  refine forL_wp (g := g) (body := body) (gd := gd) I (fun r => ∃ e' h', r = .nx e' h' ∧ I [] e' h') (fun x rest env h i => ?_) (fun env h i => ⟨hg _ _ _ i, env, h, rfl, i⟩) xs env h h0
  obtain ⟨env1, e1, e', h', q, i'⟩ := step x rest env h i
  exact ⟨hg _ _ _ i, env1, e1, .inl ⟨e', h', .inl q, i'⟩⟩
/-! ### the combinators step by step, no function under a binder -/
section
variable (env : Ev) (h : Hh) (f g : D → D → Hh → Option (D × Hh)) (f1 : D → Hh → Option (D × Hh)) (fn : List D → Hh → Option (D × Hh)) (fm : D → List D → Hh → Option (D × Hh)) (a b c : M) (ms : List M) (d e : D) (ds : List D) (i : Nat) (s1 s2 : S) (t u : MT)
def rOpt (o : Option (D × Hh)) : R D := R.opt o
@[simp] theorem rOpt_some : rOpt (some (d, h)) = .ok d h := rfl
@[simp] theorem eV_eq : eV i env h = match env[i]? with | some (some d) => .ok d h | _ => .bad := rfl
@[simp] theorem eC_eq : eC d env h = .ok d h := rfl
def eU1 (r : R D) : R D := r.bind fun x h1 => R.opt (f1 x h1)
@[simp] theorem eU_eq : eU f1 a env h = eU1 f1 (a env h) := rfl
@[simp] theorem eU1_ok : eU1 f1 (.ok d h) = R.opt (f1 d h) := rfl
def eB1 (env : Ev) (r : R D) : R D := r.bind fun x h1 => (b env h1).bind fun y h2 => R.opt (f x y h2)
def eB2 (d : D) (r : R D) : R D := r.bind fun y h2 => R.opt (f d y h2)
@[simp] theorem eB_eq : eB f a b env h = eB1 f b env (a env h) := rfl
@[simp] theorem eB1_ok : eB1 f b env (.ok d h) = eB2 f d (b env h) := rfl
@[simp] theorem eB2_ok : eB2 f d (.ok e h) = R.opt (f d e h) := rfl
def eAnd1 (env : Ev) (r : R D) : R D := r.bind fun d h1 => match d with
  | .bl true => b env h1
  | .bl false => .ok (.bl false) h1
  | _ => .bad
@[simp] theorem eAnd_eq : eAnd a b env h = eAnd1 b env (a env h) := rfl
@[simp] theorem eAnd1_t : eAnd1 b env (.ok (.bl true) h) = b env h := rfl
@[simp] theorem eAnd1_f : eAnd1 b env (.ok (.bl false) h) = .ok (.bl false) h := rfl
theorem eAnd1_d (p : Bool) : eAnd1 b env (.ok (.bl p) h) = if p = true then b env h else .ok (.bl false) h := by cases p <;> rfl
def eOr1 (env : Ev) (r : R D) : R D := r.bind fun d h1 => match d with
  | .bl false => b env h1
  | .bl true => .ok (.bl true) h1
  | _ => .bad
@[simp] theorem eOr_eq : eOr a b env h = eOr1 b env (a env h) := rfl
@[simp] theorem eOr1_f : eOr1 b env (.ok (.bl false) h) = b env h := rfl
@[simp] theorem eOr1_t : eOr1 b env (.ok (.bl true) h) = .ok (.bl true) h := rfl
theorem eOr1_d (p : Bool) : eOr1 b env (.ok (.bl p) h) = if p = true then .ok (.bl true) h else b env h := by cases p <;> rfl
def eNot1 (r : R D) : R D := r.bind fun d h1 => match d with
  | .bl b => .ok (.bl (!b)) h1
  | _ => .bad
@[simp] theorem eNot_eq : eNot a env h = eNot1 (a env h) := rfl
@[simp] theorem eNot1_b (k : Bool) : eNot1 (.ok (.bl k) h) = .ok (.bl (!k)) h := rfl
def eIf1 (env : Ev) (r : R Bool) : R D := r.bind fun c h1 => if c = true then a env h1 else b env h1
@[simp] theorem eIf_eq : eIf t a b env h = eIf1 a b env (t env h) := rfl
@[simp] theorem eIf1_t : eIf1 a b env (.ok true h) = a env h := rfl
@[simp] theorem eIf1_f : eIf1 a b env (.ok false h) = b env h := rfl
theorem eIf1_d (p : Bool) : eIf1 a b env (.ok p h) = if p = true then a env h else b env h := by cases p <;> rfl
def eCh1 (env : Ev) (r : R D) : R D := r.bind fun x h1 => (b env h1).bind fun y h2 => (R.opt (f x y h2)).bind fun z h3 => match z with
  | .bl true => (c env h3).bind fun w h4 => R.opt (g y w h4)
  | .bl false => .ok (.bl false) h3
  | _ => .bad
def eCh2 (env : Ev) (x : D) (r : R D) : R D := r.bind fun y h2 => (R.opt (f x y h2)).bind fun z h3 => match z with
  | .bl true => (c env h3).bind fun w h4 => R.opt (g y w h4)
  | .bl false => .ok (.bl false) h3
  | _ => .bad
def eCh3 (env : Ev) (y : D) (r : R D) : R D := r.bind fun z h3 => match z with
  | .bl true => (c env h3).bind fun w h4 => R.opt (g y w h4)
  | .bl false => .ok (.bl false) h3
  | _ => .bad
@[simp] theorem eCh_eq : eCh f g a b c env h = eCh1 f g b c env (a env h) := rfl
@[simp] theorem eCh1_ok : eCh1 f g b c env (.ok d h) = eCh2 f g c env d (b env h) := rfl
@[simp] theorem eCh2_ok : eCh2 f g c env d (.ok e h) = eCh3 g c env e (R.opt (f d e h)) := rfl
@[simp] theorem eCh3_t : eCh3 g c env e (.ok (.bl true) h) = eB2 g e (c env h) := rfl
@[simp] theorem eCh3_f : eCh3 g c env e (.ok (.bl false) h) = .ok (.bl false) h := rfl
def tTru1 (r : R D) : R Bool := r.bind fun d h1 => optB (opTruth d h1) h1
@[simp] theorem tTru_eq : tTru a env h = tTru1 (a env h) := rfl
@[simp] theorem tTru1_ok : tTru1 (.ok d h) = optB (opTruth d h) h := rfl
def tBl1 (r : R D) : R Bool := r.bind fun d h1 => optB (opBl d) h1
@[simp] theorem tBl_eq : tBl a env h = tBl1 (a env h) := rfl
@[simp] theorem tBl1_ok : tBl1 (.ok d h) = optB (opBl d) h := rfl
def tAnd1 (env : Ev) (r : R Bool) : R Bool := r.bind fun c h1 => if c = true then u env h1 else .ok false h1
@[simp] theorem tAndM_eq : tAndM t u env h = tAnd1 u env (t env h) := rfl
@[simp] theorem tAnd1_t : tAnd1 u env (.ok true h) = u env h := rfl
@[simp] theorem tAnd1_f : tAnd1 u env (.ok false h) = .ok false h := rfl
theorem tAnd1_d (p : Bool) : tAnd1 u env (.ok p h) = if p = true then u env h else .ok false h := by cases p <;> rfl
def tOr1 (env : Ev) (r : R Bool) : R Bool := r.bind fun c h1 => if c = true then .ok true h1 else u env h1
@[simp] theorem tOrM_eq : tOrM t u env h = tOr1 u env (t env h) := rfl
@[simp] theorem tOr1_t : tOr1 u env (.ok true h) = .ok true h := rfl
@[simp] theorem tOr1_f : tOr1 u env (.ok false h) = u env h := rfl
theorem tOr1_d (p : Bool) : tOr1 u env (.ok p h) = if p = true then .ok true h else u env h := by cases p <;> rfl
def tNot1 (r : R Bool) : R Bool := r.bind fun c h1 => .ok (!c) h1
@[simp] theorem tNotM_eq : tNotM t env h = tNot1 (t env h) := rfl
@[simp] theorem tNot1_ok (k : Bool) : tNot1 (.ok k h) = .ok (!k) h := rfl
def evs1 (env : Ev) (r : R D) : R (List D) := r.bind fun d h1 => (evs ms env h1).bind fun ds h2 => .ok (d :: ds) h2
def evs2 (d : D) (r : R (List D)) : R (List D) := r.bind fun ds h2 => .ok (d :: ds) h2
@[simp] theorem evs_nil : evs [] env h = .ok [] h := rfl
@[simp] theorem evs_cons : evs (a :: ms) env h = evs1 ms env (a env h) := rfl
@[simp] theorem evs1_ok : evs1 ms env (.ok d h) = evs2 d (evs ms env h) := rfl
@[simp] theorem evs2_ok : evs2 d (.ok ds h) = .ok (d :: ds) h := rfl
def eN1 (r : R (List D)) : R D := r.bind fun ds h1 => R.opt (fn ds h1)
@[simp] theorem eN_eq : eN fn ms env h = eN1 fn (evs ms env h) := rfl
@[simp] theorem eN1_ok : eN1 fn (.ok ds h) = R.opt (fn ds h) := rfl
def eTup1 (r : R (List D)) : R D := r.bind fun ds h1 => .ok (.tup ds) h1
@[simp] theorem eTup_eq : eTup ms env h = eTup1 (evs ms env h) := rfl
@[simp] theorem eTup1_ok : eTup1 (.ok ds h) = .ok (.tup ds) h := rfl
def eLst1 (r : R (List D)) : R D := r.bind fun ds h1 => .ok (.ref h1.length) (h1 ++ [.lst ds])
@[simp] theorem eLst_eq : eLst ms env h = eLst1 (evs ms env h) := rfl
@[simp] theorem eLst1_ok : eLst1 (.ok ds h) = .ok (.ref h.length) (h ++ [.lst ds]) := rfl
def eCall1 (k : Fm) (r : R (List D)) : R D := r.bind fun ds h1 => k ds h1
@[simp] theorem eCall_eq (k : Fm) : eCall k ms env h = eCall1 k (evs ms env h) := rfl
@[simp] theorem eCall1_ok (k : Fm) : eCall1 k (.ok ds h) = k ds h := rfl
def eMt1 (env : Ev) (r : R D) : R D := r.bind fun o h1 => if isL o h1 = true then (evs ms env h1).bind fun ds h2 => R.opt (fm o ds h2) else .bad
def eMt2 (o : D) (r : R (List D)) : R D := r.bind fun ds h2 => R.opt (fm o ds h2)
@[simp] theorem eMt_eq : eMt fm a ms env h = eMt1 fm ms env (a env h) := rfl
@[simp] theorem eMt1_ok : eMt1 fm ms env (.ok d h) = if isL d h = true then eMt2 fm d (evs ms env h) else .bad := rfl
@[simp] theorem eMt2_ok : eMt2 fm d (.ok ds h) = R.opt (fm d ds h) := rfl
variable (lo hi : Option M) (l k : Option Int)
def evO1 (r : R D) : R (Option Int) := r.bind fun d h1 => match d with
  | .int i => .ok (some i) h1
  | _ => .bad
@[simp] theorem evO_none : evO none env h = .ok none h := rfl
@[simp] theorem evO_some : evO (some a) env h = evO1 (a env h) := rfl
@[simp] theorem evO1_ok (j : Int) : evO1 (.ok (.int j) h) = .ok (some j) h := rfl
def eSl1 (env : Ev) (r : R D) : R D := r.bind fun d h1 => (evO lo env h1).bind fun l h2 => (evO hi env h2).bind fun u h3 => R.opt (opSl d l u h3)
def eSl2 (env : Ev) (d : D) (r : R (Option Int)) : R D := r.bind fun l h2 => (evO hi env h2).bind fun u h3 => R.opt (opSl d l u h3)
def eSl3 (d : D) (l : Option Int) (r : R (Option Int)) : R D := r.bind fun u h3 => R.opt (opSl d l u h3)
@[simp] theorem eSl_eq : eSl a lo hi env h = eSl1 lo hi env (a env h) := rfl
@[simp] theorem eSl1_ok : eSl1 lo hi env (.ok d h) = eSl2 hi env d (evO lo env h) := rfl
@[simp] theorem eSl2_ok : eSl2 hi env d (.ok l h) = eSl3 d l (evO hi env h) := rfl
@[simp] theorem eSl3_ok : eSl3 d l (.ok k h) = R.opt (opSl d l k h) := rfl
@[simp] theorem eDK_eq : eDK env h = .ok (.ref h.length) (h ++ [.dK []]) := rfl
@[simp] theorem eDT_eq : eDT env h = .ok (.ref h.length) (h ++ [.dT []]) := rfl
/-! statements -/
@[simp] theorem sSkip_eq : sSkip env h = .nx env h := rfl
def sSeq1 (r : SR) : SR := match r with
  | .nx env' h' => s2 env' h'
  | r => r
@[simp] theorem sSeq_eq : sSeq s1 s2 env h = sSeq1 s2 (s1 env h) := by
  unfold sSeq sSeq1
  cases s1 env h <;> rfl
@[simp] theorem sSeq1_nx : sSeq1 s2 (.nx env h) = s2 env h := rfl
@[simp] theorem sSeq1_rt : sSeq1 s2 (.rt d h) = .rt d h := rfl
@[simp] theorem sSeq1_bk : sSeq1 s2 (.bk env h) = .bk env h := rfl
@[simp] theorem sSeq1_ct : sSeq1 s2 (.ct env h) = .ct env h := rfl
@[simp] theorem sSeq1_exc (n : Nat) : sSeq1 s2 (.exc n ds env h) = .exc n ds env h := rfl
def sRet1 (env : Ev) (r : R D) : SR := bindS r env fun d h1 => .rt d h1
@[simp] theorem sRet_eq : sRet a env h = sRet1 env (a env h) := rfl
@[simp] theorem sRet1_ok : sRet1 env (.ok d h) = .rt d h := rfl
@[simp] theorem sRet1_exc (n : Nat) : sRet1 env (.exc n ds h) = .exc n ds env h := rfl
@[simp] theorem sRetN_eq : sRetN env h = .rt .non h := rfl
def sExpr1 (env : Ev) (r : R D) : SR := bindS r env fun _ h1 => .nx env h1
@[simp] theorem sExpr_eq : sExpr a env h = sExpr1 env (a env h) := rfl
@[simp] theorem sExpr1_ok : sExpr1 env (.ok d h) = .nx env h := rfl
@[simp] theorem sExpr1_exc (n : Nat) : sExpr1 env (.exc n ds h) = .exc n ds env h := rfl
def sSet1 (i : Nat) (env : Ev) (r : R D) : SR := bindS r env fun d h1 => .nx (env.set i (some d)) h1
@[simp] theorem sSet_eq : sSet i a env h = sSet1 i env (a env h) := rfl
@[simp] theorem sSet1_ok : sSet1 i env (.ok d h) = .nx (env.set i (some d)) h := rfl
@[simp] theorem sSet1_exc (n : Nat) : sSet1 i env (.exc n ds h) = .exc n ds env h := rfl
def sIf1 (env : Ev) (r : R Bool) : SR := bindS r env fun c h1 => if c = true then s1 env h1 else s2 env h1
@[simp] theorem sIf_eq : sIf t s1 s2 env h = sIf1 s1 s2 env (t env h) := rfl
@[simp] theorem sIf1_t : sIf1 s1 s2 env (.ok true h) = s1 env h := rfl
@[simp] theorem sIf1_f : sIf1 s1 s2 env (.ok false h) = s2 env h := rfl
theorem sIf1_d (p : Bool) : sIf1 s1 s2 env (.ok p h) = if p = true then s1 env h else s2 env h := by cases p <;> rfl
@[simp] theorem sBk_eq : sBk env h = .bk env h := rfl
@[simp] theorem sCt_eq : sCt env h = .ct env h := rfl
variable (tg : TgM) (mi : Ev → Hh → R Src) (src : Src)
def sUnp1 (env : Ev) (r : R D) : SR := bindS r env fun d h1 => match tg d h1 env with
  | some env' => .nx env' h1
  | none => .bad
@[simp] theorem sUnp_eq : sUnp tg a env h = sUnp1 tg env (a env h) := rfl
@[simp] theorem sUnp1_ok : sUnp1 tg env (.ok d h) = match tg d h env with
  | some env' => .nx env' h
  | none => .bad := rfl
@[simp] theorem gtName_eq : gtName i d h env = some (env.set i (some d)) := rfl
noncomputable def sFor1 (env : Ev) (r : R Src) : SR := bindS r env fun src h1 => forL tg s1 src.2 src.1 env h1
@[simp] theorem sFor_eq : sFor mi tg s1 env h = sFor1 s1 tg env (mi env h) := rfl
@[simp] theorem sFor1_ok : sFor1 s1 tg env (.ok src h) = forL tg s1 src.2 src.1 env h := rfl
def mSeq1 (r : R D) : R Src := r.bind fun d h1 => match d with
  | .tup ds => .ok (ds, none) h1
  | .fls ds => .ok (ds, none) h1
  | .ref n => match h1[n]? with
    | some (.lst ds) => .ok (ds, some (n, .lst ds)) h1
    | _ => .bad
  | _ => .bad
@[simp] theorem mSeq_eq : mSeq a env h = mSeq1 (a env h) := rfl
@[simp] theorem mSeq1_t : mSeq1 (.ok (.tup ds) h) = .ok (ds, none) h := rfl
@[simp] theorem mSeq1_f : mSeq1 (.ok (.fls ds) h) = .ok (ds, none) h := rfl
@[simp] theorem mSeq1_r (n : Nat) : mSeq1 (.ok (.ref n) h) = match h[n]? with
    | some (.lst ds) => .ok (ds, some (n, .lst ds)) h
    | _ => .bad := rfl
def mRng11 (r : R D) : R Src := r.bind fun d h1 => match d with
  | .int j => if inR j = true then .ok (rngD 0 j.toNat, none) h1 else .bad
  | _ => .bad
@[simp] theorem mRng1_eq : mRng1 a env h = mRng11 (a env h) := rfl
@[simp] theorem mRng11_ok (j : Int) : mRng11 (.ok (.int j) h) = if inR j = true then .ok (rngD 0 j.toNat, none) h else .bad := rfl
def mRng21 (env : Ev) (r : R D) : R Src := r.bind fun d h1 => (b env h1).bind fun e h2 => match d, e with
  | .int i, .int j => if inR i = true ∧ inR j = true then .ok (rngD i (j - i).toNat, none) h2 else .bad
  | _, _ => .bad
def mRng22 (d : D) (r : R D) : R Src := r.bind fun e h2 => match d, e with
  | .int i, .int j => if inR i = true ∧ inR j = true then .ok (rngD i (j - i).toNat, none) h2 else .bad
  | _, _ => .bad
@[simp] theorem mRng2_eq : mRng2 a b env h = mRng21 b env (a env h) := rfl
@[simp] theorem mRng21_ok : mRng21 b env (.ok d h) = mRng22 d (b env h) := rfl
@[simp] theorem mRng22_ok (i j : Int) : mRng22 (.int i) (.ok (.int j) h) = if inR i = true ∧ inR j = true then .ok (rngD i (j - i).toNat, none) h else .bad := rfl
def sSetIx1 (mo mi : M) (env : Ev) (r : R D) : SR := bindS r env fun v h1 => bindS (mo env h1) env fun o h2 => bindS (mi env h2) env fun i h3 => match opSetIx o i v h3 with
  | some h' => .nx env h'
  | none => .bad
def sSetIx2 (mi : M) (env : Ev) (v : D) (r : R D) : SR := bindS r env fun o h2 => bindS (mi env h2) env fun i h3 => match opSetIx o i v h3 with
  | some h' => .nx env h'
  | none => .bad
def sSetIx3 (env : Ev) (v o : D) (r : R D) : SR := bindS r env fun i h3 => match opSetIx o i v h3 with
  | some h' => .nx env h'
  | none => .bad
@[simp] theorem sSetIx_eq : sSetIx a b c env h = sSetIx1 a b env (c env h) := rfl
@[simp] theorem sSetIx1_ok : sSetIx1 a b env (.ok d h) = sSetIx2 b env d (a env h) := rfl
@[simp] theorem sSetIx2_ok : sSetIx2 b env d (.ok e h) = sSetIx3 env d e (b env h) := rfl
@[simp] theorem sSetIx3_ok (z : D) : sSetIx3 env d e (.ok z h) = match opSetIx e z d h with
  | some h' => .nx env h'
  | none => .bad := rfl
def fnEnd (r : SR) : R D := match r with
  | .nx _ h' => .ok .non h'
  | .rt d h' => .ok d h'
  | .exc c fs _ h' => .exc c fs h'
  | _ => .bad
@[simp] theorem fnM_eq (n : Nat) : fnM n s1 ds h = fnEnd (s1 (ds.map some ++ List.replicate (n - ds.length) none) h) := by
  unfold fnM fnEnd
  cases s1 (ds.map some ++ List.replicate (n - ds.length) none) h <;> rfl
@[simp] theorem fnEnd_nx : fnEnd (.nx env h) = .ok .non h := rfl
@[simp] theorem fnEnd_rt : fnEnd (.rt d h) = .ok d h := rfl
@[simp] theorem fnEnd_exc (n : Nat) : fnEnd (.exc n ds env h) = .exc n ds h := rfl
def sAug1 (i : Nat) (x : D) (env : Ev) (r : R D) : SR := bindS r env fun y h1 => bindS (R.opt (f x y h1)) env fun z h2 => .nx (env.set i (some z)) h2
@[simp] theorem sAug_eq : sAug f i a env h = match env[i]? with
  | some (some x) => sAug1 f i x env (a env h)
  | _ => .bad := rfl
@[simp] theorem sAug1_ok : sAug1 f i d env (.ok e h) = sSet1 i env (R.opt (f d e h)) := rfl
end
section
variable (i j : Int) (x y : Str) (k l : Bool) (xs ys : List D) (n m : Nat) (h : Hh) (d e : D)
@[simp] theorem opAdd_ii : opAdd (.int i) (.int j) h = some (.int (i + j), h) := rfl
@[simp] theorem opAdd_ib : opAdd (.int i) (.bl k) h = some (.int (i + b2i k), h) := rfl
@[simp] theorem opAdd_ss : opAdd (.str x) (.str y) h = if x.length + y.length ≤ sizeLine then some (.str (x ++ y), h) else none := rfl
@[simp] theorem opAdd_tt : opAdd (.tup xs) (.tup ys) h = if xs.length + ys.length ≤ sizeLine then some (.tup (xs ++ ys), h) else none := rfl
@[simp] theorem opAdd_rr : opAdd (.ref m) (.ref n) h = match h[m]?, h[n]? with
    | some (.lst xs), some (.lst ys) => if xs.length + ys.length ≤ sizeLine then some (.ref h.length, h ++ [.lst (xs ++ ys)]) else none
    | _, _ => none := rfl
@[simp] theorem opSub_ii : opSub (.int i) (.int j) h = some (.int (i - j), h) := rfl
@[simp] theorem opMul_ii : opMul (.int i) (.int j) h = if mulOk i j = true then some (.int (i * j), h) else none := rfl
@[simp] theorem opMod_ii : opMod (.int i) (.int j) h = if 0 < j then some (.int (i % j), h) else none := rfl
@[simp] theorem opFdiv_ii : opFdiv (.int i) (.int j) h = if 0 < j ∧ j < 1073741824 then some (.int (i / j), h) else none := rfl
@[simp] theorem opPow_ii : opPow (.int i) (.int j) h = if 0 ≤ j ∧ j ≤ 1000000 ∧ i.natAbs < 18446744073709551616 then some (.int (i ^ j.toNat), h) else none := rfl
@[simp] theorem opNeg_i : opNeg (.int i) h = some (.int (-i), h) := rfl
@[simp] theorem opEq_ii : opEq (.int i) (.int j) h = some (.bl (decide (i = j)), h) := rfl
@[simp] theorem opEq_ss : opEq (.str x) (.str y) h = some (.bl (decide (x = y)), h) := rfl
@[simp] theorem opEq_bb : opEq (.bl k) (.bl l) h = some (.bl (decide (k = l)), h) := rfl
@[simp] theorem opEq_nn : opEq .non .non h = some (.bl true, h) := rfl
@[simp] theorem opNe_ii : opNe (.int i) (.int j) h = some (.bl (!decide (i = j)), h) := rfl
@[simp] theorem opNe_ss : opNe (.str x) (.str y) h = some (.bl (!decide (x = y)), h) := rfl
@[simp] theorem opNe_bb : opNe (.bl k) (.bl l) h = some (.bl (!decide (k = l)), h) := rfl
@[simp] theorem opNe_nn : opNe .non .non h = some (.bl false, h) := rfl
@[simp] theorem opLt_ii : opLt (.int i) (.int j) h = some (.bl (decide (i < j)), h) := rfl
@[simp] theorem opLt_ss : opLt (.str x) (.str y) h = some (.bl (decide (x.cps.toList < y.cps.toList)), h) := rfl
@[simp] theorem opLe_ii : opLe (.int i) (.int j) h = some (.bl (decide (i ≤ j)), h) := rfl
@[simp] theorem opGt_ii : opGt (.int i) (.int j) h = some (.bl (decide (j < i)), h) := rfl
@[simp] theorem opGe_ii : opGe (.int i) (.int j) h = some (.bl (decide (j ≤ i)), h) := rfl
@[simp] theorem opIsN_n : opIsN .non h = some (.bl true, h) := rfl
@[simp] theorem opIsN_i : opIsN (.int i) h = some (.bl false, h) := rfl
@[simp] theorem opIsN_b : opIsN (.bl k) h = some (.bl false, h) := rfl
@[simp] theorem opIsN_s : opIsN (.str x) h = some (.bl false, h) := rfl
@[simp] theorem opIsN_t : opIsN (.tup xs) h = some (.bl false, h) := rfl
@[simp] theorem opIsN_f : opIsN (.fls xs) h = some (.bl false, h) := rfl
@[simp] theorem opIsN_r : opIsN (.ref n) h = some (.bl false, h) := rfl
@[simp] theorem opNotN_n : opNotN .non h = some (.bl false, h) := rfl
@[simp] theorem opNotN_i : opNotN (.int i) h = some (.bl true, h) := rfl
@[simp] theorem opNotN_b : opNotN (.bl k) h = some (.bl true, h) := rfl
@[simp] theorem opNotN_s : opNotN (.str x) h = some (.bl true, h) := rfl
@[simp] theorem opNotN_t : opNotN (.tup xs) h = some (.bl true, h) := rfl
@[simp] theorem opNotN_f : opNotN (.fls xs) h = some (.bl true, h) := rfl
@[simp] theorem opNotN_r : opNotN (.ref n) h = some (.bl true, h) := rfl
@[simp] theorem opTruth_n : opTruth .non h = some false := rfl
@[simp] theorem opTruth_b : opTruth (.bl k) h = some k := rfl
@[simp] theorem opTruth_i : opTruth (.int i) h = some (i != 0) := rfl
@[simp] theorem opTruth_t : opTruth (.tup xs) h = some (!xs.isEmpty) := rfl
@[simp] theorem opTruth_f : opTruth (.fls xs) h = some (!xs.isEmpty) := rfl
@[simp] theorem opTruth_s : opTruth (.str y) h = if y.length ≤ sizeLine then some ((y.length : Int) != 0) else none := rfl
@[simp] theorem opTruth_r : opTruth (.ref n) h = match h[n]? with
    | some (.lst ds) => some (!ds.isEmpty)
    | some (.dK ds) => some (!ds.isEmpty)
    | _ => none := rfl
@[simp] theorem opBl_b : opBl (.bl k) = some k := rfl
@[simp] theorem opIx_t : opIx (.tup xs) (.int i) h = (atI xs i).map fun d => (d, h) := rfl
@[simp] theorem opIx_f : opIx (.fls xs) (.int i) h = (atI xs i).map fun d => (d, h) := rfl
@[simp] theorem opIx_s : opIx (.str x) (.int i) h = if x.length ≤ sizeLine then (atI x.cps.toList i).map fun c => (.str ⟨#[c]⟩, h) else none := rfl
@[simp] theorem opIx_r : opIx (.ref n) (.int i) h = match h[n]? with
    | some (.lst ds) => (atI ds i).map fun d => (d, h)
    | _ => none := rfl
variable (lo hi : Option Int)
@[simp] theorem opSl_t : opSl (.tup xs) lo hi h = some (.tup (cutD xs lo hi), h) := rfl
@[simp] theorem opSl_f : opSl (.fls xs) lo hi h = some (.ref h.length, h ++ [.lst (cutD xs lo hi)]) := rfl
@[simp] theorem opSl_s : opSl (.str x) lo hi h = if x.length ≤ sizeLine then some (.str (cutS x lo hi), h) else none := rfl
@[simp] theorem opSl_r : opSl (.ref n) lo hi h = match h[n]? with
    | some (.lst ds) => some (.ref h.length, h ++ [.lst (cutD ds lo hi)])
    | _ => none := rfl
@[simp] theorem opRev_f : opRev (.fls xs) h = some (.ref h.length, h ++ [.lst xs.reverse]) := rfl
@[simp] theorem opRev_r : opRev (.ref n) h = match h[n]? with
    | some (.lst ds) => some (.ref h.length, h ++ [.lst ds.reverse])
    | _ => none := rfl
@[simp] theorem partsOf_t : partsOf (.tup xs) h = some xs := rfl
@[simp] theorem partsOf_f : partsOf (.fls xs) h = some xs := rfl
@[simp] theorem partsOf_r : partsOf (.ref n) h = match h[n]? with
    | some (.lst ds) => some ds
    | _ => none := rfl
@[simp] theorem gtTup_eq (is : List Nat) (env : Ev) : gtTup is d h env = match partsOf d h with
  | some ds => if ds.length = is.length then some (setAll is ds env) else none
  | none => none := rfl
@[simp] theorem opAbs_i : opAbs [.int i] h = some (.int (if i < 0 then -i else i), h) := rfl
@[simp] theorem opInt_i : opInt [.int i] h = some (.int i, h) := rfl
@[simp] theorem opInt_b : opInt [.bl k] h = some (.int (if k = true then 1 else 0), h) := rfl
@[simp] theorem opMax_ii : opMax [.int i, .int j] h = some (.int (if j > i then j else i), h) := rfl
@[simp] theorem opMin_ii : opMin [.int i, .int j] h = some (.int (if j < i then j else i), h) := rfl
@[simp] theorem opLen_t : opLen [.tup xs] h = some (.int xs.length, h) := rfl
@[simp] theorem opLen_f : opLen [.fls xs] h = some (.int xs.length, h) := rfl
@[simp] theorem opLen_s : opLen [.str y] h = if y.length ≤ sizeLine then some (.int y.length, h) else none := rfl
@[simp] theorem opLen_r : opLen [.ref n] h = match h[n]? with
    | some (.lst ds) => some (.int ds.length, h)
    | some (.dK ds) => some (.int ds.length, h)
    | some (.dT ds) => some (.int ds.length, h)
    | _ => none := rfl
@[simp] theorem opList_t : opList [.tup xs] h = some (.ref h.length, h ++ [.lst xs]) := rfl
@[simp] theorem opList_f : opList [.fls xs] h = some (.ref h.length, h ++ [.lst xs]) := rfl
@[simp] theorem opList_r : opList [.ref n] h = match h[n]? with
    | some (.lst ds) => some (.ref h.length, h ++ [.lst ds])
    | some (.dK kvs) => some (.ref h.length, h ++ [.lst (kvs.map fun kv => kD kv.1)])
    | some (.dT kvs) => some (.ref h.length, h ++ [.lst (kvs.map fun kv => .tup (kv.1.map kD))])
    | _ => none := rfl
@[simp] theorem opTupleOf_t : opTupleOf [.tup xs] h = some (.tup xs, h) := rfl
@[simp] theorem opTupleOf_f : opTupleOf [.fls xs] h = some (.tup xs, h) := rfl
@[simp] theorem opTupleOf_r : opTupleOf [.ref n] h = match h[n]? with
    | some (.lst ds) => some (.tup ds, h)
    | _ => none := rfl
@[simp] theorem opSorted_r : opSorted [.ref n] h = match h[n]? with
    | some (.lst ds) => match intsOf ds with
      | some ns => some (.ref h.length, h ++ [.lst ((sortI ns).map D.int)])
      | none => none
    | some (.dK kvs) => match keyInts kvs with
      | some ns => if ns.length < 64 then some (.ref h.length, h ++ [.lst ((sortI ns).map D.int)]) else none
      | none => none
    | _ => none := rfl
@[simp] theorem isi_n (t : Ty) : opIsi t .non h = some (.bl (isT .none t), h) := rfl
@[simp] theorem isi_b (t : Ty) : opIsi t (.bl k) h = some (.bl (isT .bool t), h) := rfl
@[simp] theorem isi_i (t : Ty) : opIsi t (.int i) h = some (.bl (isT .int t), h) := rfl
@[simp] theorem isi_s (t : Ty) : opIsi t (.str x) h = some (.bl (isT .str t), h) := rfl
@[simp] theorem isi_t (t : Ty) : opIsi t (.tup xs) h = some (.bl (isT .tuple t), h) := rfl
@[simp] theorem isi_f (t : Ty) : opIsi t (.fls xs) h = some (.bl (isT .list t), h) := rfl
@[simp] theorem isi_r (t : Ty) : opIsi t (.ref n) h = (match h[n]? with
    | some (.lst _) => some .list
    | some (.dK _) => some .dict
    | some (.dT _) => some .dict
    | _ => none : Option Ty).map fun u => (.bl (isT u t), h) := rfl
@[simp] theorem isL_r : isL (.ref n) h = (match h[n]? with
    | some (.lst _) => true
    | _ => false) := rfl
@[simp] theorem opAppend_r : opAppend (.ref n) [d] h = match h[n]? with
    | some (.lst xs) => if xs.length < sizeLine then some (.non, h.set n (.lst (xs ++ [d]))) else none
    | _ => none := rfl
@[simp] theorem opPop_r : opPop (.ref n) [] h = match h[n]? with
    | some (.lst xs) => match xs[xs.length - 1]? with
      | some y => some (y, h.set n (.lst xs.dropLast))
      | none => none
    | _ => none := rfl
@[simp] theorem opSetIx_i : opSetIx (.ref n) (.int i) d h = match h[n]? with
    | some (.lst xs) => (ixN xs.length i).map fun j => h.set n (.lst (xs.set j d))
    | some (.dK kvs) => if kvs.length < sizeLine then some (h.set n (.dK (putP kvs (.inl i) d))) else none
    | _ => none := by
  cases e : h[n]? with
  | none => simp [opSetIx, e]
  | some o => cases o <;> simp [opSetIx, e]
@[simp] theorem opSetIx_s : opSetIx (.ref n) (.str x) d h = match h[n]? with
    | some (.dK kvs) => if kvs.length < sizeLine then some (h.set n (.dK (putP kvs (.inr x) d))) else none
    | _ => none := by
  cases e : h[n]? with
  | none => simp [opSetIx, e]
  | some o => cases o <;> simp [opSetIx, e]
@[simp] theorem opSetIx_t : opSetIx (.ref n) (.tup xs) d h = match h[n]? with
    | some (.dT kvs) => match keysOf xs with
      | some ks => if isK xs = false ∧ kvs.length < sizeLine then some (h.set n (.dT (putP kvs ks d))) else none
      | none => none
    | _ => none := rfl
end
@[simp] theorem isT_ii : isT .int .int = true := rfl
@[simp] theorem isT_ib : isT .int .bool = false := rfl
@[simp] theorem isT_bi : isT .bool .int = true := rfl
@[simp] theorem isT_bb : isT .bool .bool = true := rfl
@[simp] theorem isT_it : isT .int .tuple = false := rfl
@[simp] theorem isT_tt : isT .tuple .tuple = true := rfl
@[simp] theorem isT_nt : isT .none .tuple = false := rfl
theorem forL_nil {g : TgM} {body : S} {gd : Option (Nat × O)} {env : Ev} {h : Hh} (hg : gdOk gd h) : forL g body gd [] env h = .nx env h := by
  unfold forL
  rw [if_pos hg]
theorem forL_nx {g : TgM} {body : S} {gd : Option (Nat × O)} {x : D} {xs : List D} {env env1 e' : Ev} {h h' : Hh} (hg : gdOk gd h) (e1 : g x h env = some env1) (e2 : body env1 h = .nx e' h') : forL g body gd (x :: xs) env h = forL g body gd xs e' h' := by
  rw [forL, if_pos hg, e1]
  dsimp only
  rw [e2]
theorem forL_rt {g : TgM} {body : S} {gd : Option (Nat × O)} {x d : D} {xs : List D} {env env1 : Ev} {h h' : Hh} (hg : gdOk gd h) (e1 : g x h env = some env1) (e2 : body env1 h = .rt d h') : forL g body gd (x :: xs) env h = .rt d h' := by
  rw [forL, if_pos hg, e1]
  dsimp only
  rw [e2]
/-- a loop that folds -/
theorem forL_fold {α σ : Type} {g : TgM} {body : S} {gd : Option (Nat × O)} (f : α → D) (upd : σ → α → σ) (Inv : σ → Ev → Hh → Prop) (hg : ∀ s env h, Inv s env h → gdOk gd h) (s0 : σ) (xs : List α) (env : Ev) (h : Hh) (h0 : Inv s0 env h)
    (step : ∀ pre a post env h, xs = pre ++ a :: post → Inv (pre.foldl upd s0) env h → ∃ env1, g (f a) h env = some env1 ∧ ∃ e' h', body env1 h = .nx e' h' ∧ Inv (upd (pre.foldl upd s0) a) e' h') :
    ∃ e' h', forL g body gd (xs.map f) env h = .nx e' h' ∧ Inv (xs.foldl upd s0) e' h' := by
  obtain ⟨e', h', eq, pre, post, hx, hp, i⟩ := forL_inv (g := g) (body := body) (gd := gd) (fun rest env h => ∃ pre post, xs = pre ++ post ∧ rest = post.map f ∧ Inv (pre.foldl upd s0) env h) (xs.map f) env h ⟨[], xs, rfl, rfl, h0⟩
    (fun _ _ _ ⟨_, _, _, _, i⟩ => hg _ _ _ i) (fun x rest env h ⟨pre, post, hx, hp, i⟩ => by
      cases post with
      | nil => cases hp
      | cons a post =>
        obtain ⟨rfl, rfl⟩ := List.cons.inj hp
        obtain ⟨env1, e1, e', h', q, i'⟩ := step pre a post env h hx i
        exact ⟨env1, e1, e', h', q, pre ++ [a], post, by rw [hx, List.append_assoc]; rfl, rfl, by rw [List.foldl_append]; exact i'⟩)
  refine ⟨e', h', eq, ?_⟩
  cases post with
  | nil =>
    rw [List.append_nil] at hx
    rw [hx]
    exact i
  | cons _ _ => cases hp
/-- 0, 1, .. below n -/
def upto (n : Nat) : List Int := (List.range n).map fun (i : Nat) => (i : Int)
theorem rngD_upto (n : Nat) : rngD 0 n = (upto n).map D.int := by
  unfold rngD upto
  rw [List.map_map]
  apply List.map_congr_left
  intro a _
  simp
theorem mem_upto {n : Nat} {x : Int} : x ∈ upto n ↔ 0 ≤ x ∧ x < n := by
  unfold upto
  simp only [List.mem_map, List.mem_range]
  constructor
  · rintro ⟨a, h, rfl⟩
    omega
  · rintro ⟨h1, h2⟩
    exact ⟨x.toNat, by omega, by omega⟩
theorem len_upto (n : Nat) : (upto n).length = n := by unfold upto; simp
/-! ### places behind a heap -/
section
variable (h : Hh) (a b c d : O)
@[simp] theorem hp_at1 : (h ++ [a])[h.length]? = some a := by simp
@[simp] theorem hp_at2 : (h ++ [a, b])[h.length]? = some a := by simp
@[simp] theorem hp_at2b : (h ++ [a, b])[h.length + 1]? = some b := by
  rw [List.getElem?_append_right (by omega)]
  simp
@[simp] theorem hp_set1 : (h ++ [a]).set h.length c = h ++ [c] := by simp
@[simp] theorem hp_set2 : (h ++ [a, b]).set h.length c = h ++ [c, b] := by simp
end
theorem cut_to {xs : List D} {n : Nat} : cutD xs none (some (n : Int)) = xs.take n := by
  unfold cutD
  rw [HT.sIx_none, HT.sIx_nat]
  simp only [List.drop_zero, Nat.sub_zero]
  by_cases h : n ≤ xs.length
  · rw [Nat.min_eq_left h]
  · rw [Nat.min_eq_right (by omega), List.take_of_length_le (Nat.le_refl _), List.take_of_length_le (by omega)]
theorem cut_from {xs : List D} {n : Nat} : cutD xs (some (n : Int)) none = xs.drop n := by
  unfold cutD
  rw [HT.sIx_none, HT.sIx_nat]
  by_cases h : n ≤ xs.length
  · rw [Nat.min_eq_left h, List.take_of_length_le (by simp)]
  · rw [Nat.min_eq_right (by omega), List.drop_of_length_le (Nat.le_refl _), List.drop_of_length_le (by omega)]
    simp
/-- an int's range -/
theorem rngD_nil (lo : Int) : rngD lo 0 = [] := rfl
theorem rngD_succ (lo : Int) (n : Nat) : rngD lo (n + 1) = .int lo :: rngD (lo + 1) n := by
  unfold rngD
  rw [List.range_succ_eq_map]
  simp only [List.map_cons, List.map_map]
  congr 1
  · simp
  · apply List.map_congr_left
    intro a _
    simp only [Function.comp]
    congr 1
    push_cast
    omega
@[simp] theorem b2i_t : b2i true = 1 := rfl
@[simp] theorem b2i_f : b2i false = 0 := rfl
theorem mulOk_r {i j : Int} (h1 : -18446744073709551616 < j) (h2 : j < 18446744073709551616) : mulOk i j = true := by
  unfold mulOk
  simp [h1, h2]
theorem mulOk_l {i j : Int} (h1 : -18446744073709551616 < i) (h2 : i < 18446744073709551616) : mulOk i j = true := by
  unfold mulOk
  simp [h1, h2]
end Sm
/-! the law law_k25_window_of_a_line: mirrors and derivations, printed by gen.py -/
namespace Lk25
open PySem L2 PyProof.Rows Sm
def G0 : Cl := ⟨fun _ => 0, fun _ => []⟩
structure Tx (mg : Str → Option Value) : Prop where
  z_abs : mg "abs" = none
  z_bool : mg "bool" = none
  z_int : mg "int" = none
  z_isinstance : mg "isinstance" = none
  z_len : mg "len" = none
  z_list : mg "list" = none
  z_max : mg "max" = none
  z_min : mg "min" = none
  z_range : mg "range" = none
  z_sorted : mg "sorted" = none
  z_tuple : mg "tuple" = none
  c_MOST_DELAY : ∃ u, mg "MOST_DELAY" = some (.int 1000 u)
  c_MOST_MOMENT : ∃ u, mg "MOST_MOMENT" = some (.int 1000000 u)
  c_MOST_TRAIL : ∃ u, mg "MOST_TRAIL" = some (.int 4 u)
  c_MOST_TTL : ∃ u, mg "MOST_TTL" = some (.int 100000 u)
noncomputable def b_is_integer : S := (sRet (eAnd (eU (opIsi .int) (eV 0)) (eNot (eU (opIsi .bool) (eV 0)))))
noncomputable def m_is_integer : Fm := fnM 1 b_is_integer
noncomputable def b_is_between : S := (sRet (eAnd (eCall m_is_integer [(eV 0)]) (eAnd (eB opLe (eV 1) (eV 0)) (eB opLe (eV 0) (eV 2)))))
noncomputable def m_is_between : Fm := fnM 3 b_is_between
noncomputable def b_check_line : S := (sSeq (sIf (tOrM (tNotM (tTru (eU (opIsi .tuple) (eV 0)))) (tBl (eB opNe (eN opLen [(eV 0)]) (eC (.int 2))))) sNever sSkip)
    (sSeq (sIf (tNotM (tTru (eCall m_is_between [(eB opIx (eV 0) (eC (.int 0))), (eC (.int 0)), (eC (.int 1000))]))) sNever sSkip)
    (sSeq (sIf (tNotM (tTru (eCall m_is_between [(eB opIx (eV 0) (eC (.int 1))), (eC (.int 0)), (eC (.int 100000))]))) sNever sSkip)
    (sSeq (sIf (tNotM (tTru (eCall m_is_between [(eV 1), (eC (.int 0)), (eC (.int 1000000))]))) sNever sSkip)
    (sSeq (sIf (tNotM (tTru (eCall m_is_between [(eV 2), (eC (.int 0)), (eC (.int 1000000))]))) sNever sSkip)
    (sSeq (sIf (tNotM (tTru (eCall m_is_between [(eV 3), (eC (.int 0)), (eC (.int 100000))]))) sNever sSkip)
    (sIf (tNotM (tTru (eCall m_is_between [(eV 4), (eC (.int 1)), (eC (.int 4))]))) sNever sSkip)))))))
noncomputable def m_check_line : Fm := fnM 5 b_check_line
noncomputable def b_last_told : S := (sRet (eTup [(eN opMax [(eV 1), (eB opSub (eV 2) (eB opIx (eV 0) (eC (.int 0))))]), (eN opMin [(eB opAdd (eV 1) (eB opIx (eV 0) (eC (.int 0)))), (eV 2)])]))
noncomputable def m_last_told : Fm := fnM 3 b_last_told
noncomputable def b_window_of : S := (sSeq (sExpr (eCall m_check_line [(eV 0), (eV 1), (eV 2), (eV 3), (eV 4)]))
    (sSeq (sUnp (gtTup [5, 6]) (eCall m_last_told [(eV 0), (eV 1), (eV 2)]))
    (sSeq (sIf (tOrM (tBl (eB opGt (eV 5) (eV 6))) (tOrM (tAndM (tBl (eB opEq (eV 4) (eC (.int 1)))) (tBl (eB opGt (eV 3) (eC (.int 0))))) (tBl (eB opLt (eB opSub (eV 6) (eV 3)) (eC (.int 0)))))) (sRet (eC .non)) sSkip)
    (sRet (eTup [(eN opMax [(eC (.int 0)), (eB opSub (eB opSub (eB opSub (eV 5) (eV 3)) (eB opMul (eB opSub (eV 4) (eC (.int 1))) (eB opIx (eV 0) (eC (.int 0))))) (eB opIx (eV 0) (eC (.int 1))))]), (eB opSub (eV 6) (eV 3))])))))
noncomputable def m_window_of : Fm := fnM 7 b_window_of
noncomputable def b__law_pool_2 : S := (sIf (tBl (eB opGt (eV 4) (eC (.int 0)))) (sSeq (sExpr (eMt opAppend (eV 1) [(eB opMod (eN opInt [(eV 4)]) (eC (.int 1000)))]))
    (sSet 4 (eB opFdiv (eV 4) (eC (.int 1000))))) sSkip)
noncomputable def b__law_pool_1 : S := (sSeq (sSet 4 (eB opMod (eN opInt [(eB opAdd (eB opMul (eC (.int 2)) (eN opAbs [(eN opInt [(eV 3)])])) (eN opInt [(eB opLt (eV 3) (eC (.int 0)))]))]) (eB opPow (eC (.int 10)) (eC (.int 60)))))
    (sSeq (sSet 2 (eB opMod (eN opInt [(eB opAdd (eB opAdd (eB opMul (eV 2) (eC (.int 48271))) (eV 4)) (eC (.int 11)))]) (eC (.int 2147483647))))
    (sSeq (sIf (tBl (eB opLt (eV 4) (eB opPow (eC (.int 10)) (eC (.int 18))))) (sSeq (sExpr (eMt opAppend (eV 1) [(eB opFdiv (eB opMod (eN opInt [(eB opMul (eV 2) (eC (.int 742938285)))]) (eC (.int 2147483399))) (eC (.int 64)))]))
    (sSet 4 (eC (.int 0)))) sSkip)
    (sFor (mRng1 (eC (.int 20))) (gtName 5) b__law_pool_2))))
noncomputable def b__law_pool : S := (sSeq (sSet 1 (eLst []))
    (sSeq (sSet 2 (eC (.int 7)))
    (sSeq (sFor (mSeq (eSl (eV 0) none (some (eC (.int 63))))) (gtName 3) b__law_pool_1)
    (sRet (eB opAdd (eLst [(eV 2)]) (eU opRev (eV 1)))))))
noncomputable def m__law_pool : Fm := fnM 6 b__law_pool
noncomputable def b__law_take : S := (sSeq (sIf (tBl (eB opGt (eN opLen [(eV 0)]) (eC (.int 1)))) (sRet (eB opMod (eN opInt [(eMt opPop (eV 0) [])]) (eV 1))) sSkip)
    (sSeq (sSetIx (eV 0) (eC (.int 0)) (eB opMod (eN opInt [(eB opAdd (eB opMul (eB opIx (eV 0) (eC (.int 0))) (eC (.int 48271))) (eC (.int 11)))]) (eC (.int 2147483647))))
    (sRet (eB opMod (eN opInt [(eB opFdiv (eB opMod (eN opInt [(eB opMul (eB opIx (eV 0) (eC (.int 0))) (eC (.int 742938285)))]) (eC (.int 2147483399))) (eC (.int 64)))]) (eV 1)))))
noncomputable def m__law_take : Fm := fnM 2 b__law_take
noncomputable def b__law_wide : S := (sRet (eB opMod (eN opInt [(eB opAdd (eB opMul (eCall m__law_take [(eV 0), (eC (.int 1000))]) (eC (.int 1000))) (eCall m__law_take [(eV 0), (eC (.int 1000))]))]) (eV 1)))
noncomputable def m__law_wide : Fm := fnM 2 b__law_wide
noncomputable def b__law_edge : S := (sSeq (sSet 2 (eCall m__law_take [(eV 0), (eC (.int 6))]))
    (sSeq (sIf (tBl (eB opEq (eV 2) (eC (.int 0)))) (sRet (eC (.int 0))) sSkip)
    (sSeq (sIf (tBl (eB opEq (eV 2) (eC (.int 1)))) (sRet (eV 1)) sSkip)
    (sSeq (sIf (tBl (eB opEq (eV 2) (eC (.int 2)))) (sRet (eN opMax [(eC (.int 0)), (eB opSub (eV 1) (eCall m__law_take [(eV 0), (eC (.int 3))]))])) sSkip)
    (sSeq (sIf (tBl (eB opEq (eV 2) (eC (.int 3)))) (sRet (eN opMin [(eV 1), (eCall m__law_take [(eV 0), (eC (.int 8))])])) sSkip)
    (sRet (eCall m__law_wide [(eV 0), (eB opAdd (eV 1) (eC (.int 1)))])))))))
noncomputable def m__law_edge : Fm := fnM 3 b__law_edge
noncomputable def b__law_search_1 : S := (sIf (tAndM (tBl (eCh opLe opLe (eC (.int 0)) (eB opSub (eV 2) (eV 8)) (eV 6))) (tBl (eCh opLe opLe (eC (.int 0)) (eB opSub (eV 9) (eV 2)) (eV 6)))) (sExpr (eMt opAppend (eV 1) [(eTup [(eV 2), (eC (.int 0))])])) sSkip)
noncomputable def b__law_search_5 : S := (sIf (tBl (eB opGe (eB opSub (eB opSub (eV 2) (eV 15)) (eV 16)) (eC (.int 0)))) (sSetIx (eV 12) (eTup [(eB opSub (eB opSub (eV 2) (eV 15)) (eV 16)), (eB opAdd (eV 13) (eV 15))]) (eC (.bl true))) sSkip)
noncomputable def b__law_search_4 : S := (sFor (mRng1 (eB opAdd (eV 6) (eC (.int 1)))) (gtName 16) b__law_search_5)
noncomputable def b__law_search_3 : S := (sFor (mRng1 (eB opAdd (eB opSub (eV 10) (eV 13)) (eC (.int 1)))) (gtName 15) b__law_search_4)
noncomputable def b__law_search_2 : S := (sSeq (sSet 12 eDT)
    (sSeq (sFor (mSeq (eV 1)) (gtTup [2, 13]) b__law_search_3)
    (sSet 1 (eN opList [(eV 12)]))))
noncomputable def b__law_search_7 : S := (sIf (tAndM (tBl (eB opEq (eV 13) (eV 10))) (tBl (eB opGe (eB opSub (eV 2) (eV 14)) (eC (.int 0))))) (sSetIx (eV 4) (eB opSub (eV 2) (eV 14)) (eC (.bl true))) sSkip)
noncomputable def b__law_search_6 : S := (sFor (mRng1 (eB opAdd (eV 7) (eC (.int 1)))) (gtName 14) b__law_search_7)
noncomputable def b__law_search : S := (sSeq (sUnp (gtTup [6, 7, 8, 9, 10, 11]) (eV 0))
    (sSeq (sSet 1 (eLst []))
    (sSeq (sFor (mRng1 (eC (.int 60))) (gtName 2) b__law_search_1)
    (sSeq (sFor (mRng1 (eB opSub (eV 11) (eC (.int 1)))) (gtName 3) b__law_search_2)
    (sSeq (sSet 4 eDK)
    (sSeq (sFor (mSeq (eV 1)) (gtTup [2, 13]) b__law_search_6)
    (sSeq (sIf (tBl (eB opEq (eN opLen [(eV 4)]) (eC (.int 0)))) (sRet (eC .non)) sSkip)
    (sSeq (sSet 5 (eN opSorted [(eV 4)]))
    (sRet (eTup [(eB opIx (eV 5) (eC (.int 0))), (eB opIx (eV 5) (eU opNeg (eC (.int 1))))]))))))))))
noncomputable def m__law_search : Fm := fnM 17 b__law_search
noncomputable def b__law_formula : S := (sSeq (sUnp (gtTup [3, 4, 5, 6, 7, 8]) (eV 0))
    (sSeq (sSet 1 (eN opMax [(eV 5), (eB opSub (eV 6) (eV 3))]))
    (sSeq (sSet 2 (eN opMin [(eB opAdd (eV 5) (eV 3)), (eV 6)]))
    (sSeq (sIf (tOrM (tBl (eB opGt (eV 1) (eV 2))) (tOrM (tAndM (tBl (eB opEq (eV 8) (eC (.int 1)))) (tBl (eB opGt (eV 7) (eC (.int 0))))) (tBl (eB opLt (eB opSub (eV 2) (eV 7)) (eC (.int 0)))))) (sRet (eC .non)) sSkip)
    (sRet (eTup [(eN opMax [(eC (.int 0)), (eB opSub (eB opSub (eB opSub (eV 1) (eV 7)) (eB opMul (eB opSub (eV 8) (eC (.int 1))) (eV 3))) (eV 4))]), (eB opSub (eV 2) (eV 7))]))))))
noncomputable def m__law_formula : Fm := fnM 9 b__law_formula
noncomputable def b__law_small_line : S := (sSeq (sSet 1 (eCall m__law_take [(eV 0), (eC (.int 3))]))
    (sSeq (sSet 2 (eCall m__law_take [(eV 0), (eC (.int 5))]))
    (sSeq (sSet 3 (eCall m__law_take [(eV 0), (eC (.int 21))]))
    (sSeq (sSet 4 (eN opMax [(eC (.int 0)), (eB opAdd (eB opSub (eV 3) (eC (.int 2))) (eCall m__law_take [(eV 0), (eB opAdd (eB opMul (eC (.int 2)) (eV 1)) (eC (.int 5)))]))]))
    (sSeq (sSet 5 (eCall m__law_take [(eV 0), (eC (.int 5))]))
    (sRet (eLst [(eV 1), (eV 2), (eV 3), (eV 4), (eV 5), (eB opAdd (eC (.int 1)) (eCall m__law_take [(eV 0), (eC (.int 4))]))])))))))
noncomputable def m__law_small_line : Fm := fnM 6 b__law_small_line
noncomputable def b__law_whole_line : S := (sSeq (sSet 1 (eCall m__law_edge [(eV 0), (eC (.int 1000))]))
    (sSeq (sSet 2 (eCall m__law_edge [(eV 0), (eC (.int 100000))]))
    (sSeq (sSet 3 (eCall m__law_edge [(eV 0), (eC (.int 1000000))]))
    (sSeq (sSet 4 (eB opAdd (eV 3) (eCall m__law_wide [(eV 0), (eB opAdd (eB opMul (eC (.int 2)) (eV 1)) (eC (.int 1)))])))
    (sSeq (sSet 5 (eCall m__law_take [(eV 0), (eC (.int 6))]))
    (sSeq (sIf (tBl (eB opEq (eV 5) (eC (.int 0)))) (sSet 4 (eB opAdd (eB opSub (eB opAdd (eV 3) (eB opMul (eC (.int 2)) (eV 1))) (eC (.int 1))) (eCall m__law_take [(eV 0), (eC (.int 3))]))) sSkip)
    (sSeq (sIf (tBl (eB opEq (eV 5) (eC (.int 1)))) (sSet 4 (eB opAdd (eB opSub (eV 3) (eC (.int 1))) (eCall m__law_take [(eV 0), (eC (.int 3))]))) sSkip)
    (sSeq (sIf (tBl (eB opEq (eV 5) (eC (.int 2)))) (sSet 4 (eCall m__law_edge [(eV 0), (eC (.int 1000000))])) sSkip)
    (sSeq (sSet 4 (eN opMin [(eN opMax [(eV 4), (eC (.int 0))]), (eC (.int 1000000))]))
    (sSeq (sSet 6 (eB opAdd (eC (.int 1)) (eCall m__law_take [(eV 0), (eC (.int 4))])))
    (sSeq (sSet 7 (eCall m__law_edge [(eV 0), (eC (.int 100000))]))
    (sSeq (sSet 5 (eCall m__law_take [(eV 0), (eC (.int 5))]))
    (sSeq (sIf (tBl (eB opEq (eV 5) (eC (.int 0)))) (sSet 7 (eC (.int 0))) sSkip)
    (sSeq (sIf (tBl (eB opEq (eV 5) (eC (.int 1)))) (sSet 7 (eB opAdd (eB opSub (eN opMin [(eB opAdd (eV 3) (eV 1)), (eV 4)]) (eC (.int 1))) (eCall m__law_take [(eV 0), (eC (.int 3))]))) sSkip)
    (sSeq (sIf (tBl (eB opEq (eV 5) (eC (.int 2)))) (sSet 7 (eB opAdd (eB opSub (eB opSub (eB opSub (eN opMax [(eV 3), (eB opSub (eV 4) (eV 1))]) (eB opMul (eB opSub (eV 6) (eC (.int 1))) (eV 1))) (eV 2)) (eC (.int 1))) (eCall m__law_take [(eV 0), (eC (.int 3))]))) sSkip)
    (sRet (eLst [(eV 1), (eV 2), (eV 3), (eV 4), (eN opMin [(eN opMax [(eV 7), (eC (.int 0))]), (eC (.int 100000))]), (eV 6)])))))))))))))))))
noncomputable def m__law_whole_line : Fm := fnM 8 b__law_whole_line
noncomputable def b__law_moved : S := (sSeq (sSet 2 (eLst [(eC (.int 0)), (eC (.int 0)), (eC (.int 0)), (eC (.int 0)), (eC (.int 0)), (eC (.int 1))]))
    (sSeq (sSet 3 (eLst [(eC (.int 1000)), (eC (.int 100000)), (eC (.int 1000000)), (eC (.int 1000000)), (eC (.int 100000)), (eC (.int 4))]))
    (sSeq (sSet 4 (eCall m__law_take [(eV 0), (eC (.int 6))]))
    (sSeq (sSet 5 (eB opAdd (eB opSub (eB opIx (eV 1) (eV 4)) (eC (.int 1))) (eB opMul (eC (.int 2)) (eCall m__law_take [(eV 0), (eC (.int 2))]))))
    (sSeq (sSet 6 (eN opList [(eV 1)]))
    (sSeq (sSetIx (eV 6) (eV 4) (eN opMin [(eN opMax [(eV 5), (eB opIx (eV 2) (eV 4))]), (eB opIx (eV 3) (eV 4))]))
    (sRet (eV 6))))))))
noncomputable def m__law_moved : Fm := fnM 7 b__law_moved
noncomputable def b__law_same_1 : S := (sIf (tOrM (tNotM (tTru (eU (opIsi .int) (eV 2)))) (tTru (eU (opIsi .bool) (eV 2)))) (sRet (eC (.bl false))) sSkip)
noncomputable def b__law_same : S := (sSeq (sIf (tBl (eU opIsN (eV 1))) (sRet (eU opIsN (eV 0))) sSkip)
    (sSeq (sIf (tOrM (tNotM (tTru (eU (opIsi .tuple) (eV 0)))) (tBl (eB opNe (eN opLen [(eV 0)]) (eC (.int 2))))) (sRet (eC (.bl false))) sSkip)
    (sSeq (sFor (mSeq (eV 0)) (gtName 2) b__law_same_1)
    (sRet (eB opEq (eV 0) (eV 1))))))
noncomputable def m__law_same : Fm := fnM 3 b__law_same
noncomputable def b_law_1 : S := (sSeq (sSet 5 (eCall m__law_formula [(eV 3)]))
    (sSeq (sIf (tTru (eV 2)) (sSet 5 (eCall m__law_search [(eV 3)])) sSkip)
    (sIf (tNotM (tTru (eCall m__law_same [(eCall m_window_of [(eTup [(eB opIx (eV 3) (eC (.int 0))), (eB opIx (eV 3) (eC (.int 1)))]), (eB opIx (eV 3) (eC (.int 2))), (eB opIx (eV 3) (eC (.int 3))), (eB opIx (eV 3) (eC (.int 4))), (eB opIx (eV 3) (eC (.int 5)))]), (eV 5)]))) (sRet (eC (.bl false))) sSkip)))
noncomputable def b_law : S := (sSeq (sSet 1 (eCall m__law_pool [(eV 0)]))
    (sSeq (sSet 2 (eB opEq (eCall m__law_take [(eV 1), (eC (.int 2))]) (eC (.int 0))))
    (sSeq (sIf (tTru (eV 2)) (sSet 4 (eCall m__law_small_line [(eV 1)])) (sSet 4 (eCall m__law_whole_line [(eV 1)])))
    (sSeq (sFor (mSeq (eLst [(eV 4), (eCall m__law_moved [(eV 1), (eV 4)]), (eV 4)])) (gtName 3) b_law_1)
    (sRet (eC (.bl true)))))))
noncomputable def m_law : Fm := fnM 6 b_law
end Lk25
namespace Lk25
open PySem L2 PyProof.Rows Sm
def top (i : Nat) : Stmt := PySem.Challenge.pw_surely_k25_window_of_a_line.main.body.getD i (.Pass ⟨0, 0, 0, 0⟩)
abbrev s_is_integer : Stmt := top 8
abbrev s_is_between : Stmt := top 9
abbrev s_check_line : Stmt := top 11
abbrev s_last_told : Stmt := top 12
abbrev s_window_of : Stmt := top 13
abbrev s__law_pool : Stmt := top 15
abbrev s__law_take : Stmt := top 16
abbrev s__law_wide : Stmt := top 17
abbrev s__law_edge : Stmt := top 18
abbrev s__law_search : Stmt := top 19
abbrev s__law_formula : Stmt := top 20
abbrev s__law_small_line : Stmt := top 21
abbrev s__law_whole_line : Stmt := top 22
abbrev s__law_moved : Stmt := top 23
abbrev s__law_same : Stmt := top 24
abbrev s_law : Stmt := top 25
section
variable {P : Program} {w : World} {K : PySem.W.Frag} {mg : Str → Option Value} {base : Heap}
theorem sc_is_integer : FnScope ["value"] ["value"] (defScope s_is_integer) := ⟨rfl, rfl, rfl, by decide +kernel, rfl, by decide +kernel, by decide +kernel⟩
theorem d_is_integer {f : Addr} {fd : FuncData} (F : Fun K "is_integer" "is_integer" s_is_integer f fd) (T : Tx mg)  : FnOk P w K mg base (L2.CX P w) 1 f fd ["value"] (spM K G0 1 m_is_integer) :=
  fn_ok (N := ["value"]) (ps := ["value"]) (k := 0) (n := 1) (np := 1) (body := b_is_integer) rfl rfl F sc_is_integer fun cdv A outer s H E c => by
    exact (ss_one (s_ret (se_and (se_isi .int (se_var 0) (se_ty (by rfl) T.z_int bt_int) (by rfl) T.z_isinstance) (se_one (se_not (se_isi .bool (se_var 0) (se_ty (by rfl) T.z_bool bt_bool) (by rfl) T.z_isinstance))))))
theorem sc_is_between : FnScope ["value", "low", "high"] ["value", "low", "high"] (defScope s_is_between) := ⟨rfl, rfl, rfl, by decide +kernel, rfl, by decide +kernel, by decide +kernel⟩
theorem d_is_between {f : Addr} {fd : FuncData} (F : Fun K "is_between" "is_between" s_is_between f fd) (T : Tx mg) (O_is_integer : Ok P w K mg base G0 1 "is_integer" ["value"] m_is_integer) : FnOk P w K mg base (L2.CX P w) 2 f fd ["value", "low", "high"] (spM K G0 3 m_is_between) :=
  fn_ok (N := ["value", "low", "high"]) (ps := ["value", "low", "high"]) (k := 1) (n := 3) (np := 3) (body := b_is_between) rfl rfl F sc_is_between fun cdv A outer s H E c => by
    exact (ss_one (s_ret (se_and (se_call c O_is_integer (by decide) (by rfl) (sa_cons (se_var 0) sa_nil)) (se_and (se_le c.hu (se_var 1) (se_var 0)) (se_one (se_le c.hu (se_var 0) (se_var 2)))))))
theorem sc_check_line : FnScope ["rules", "sent", "got", "age", "hops"] ["rules", "sent", "got", "age", "hops"] (defScope s_check_line) := ⟨rfl, rfl, rfl, by decide +kernel, rfl, by decide +kernel, by decide +kernel⟩
theorem d_check_line {f : Addr} {fd : FuncData} (F : Fun K "check_line" "check_line" s_check_line f fd) (T : Tx mg) (O_is_between : Ok P w K mg base G0 2 "is_between" ["value", "low", "high"] m_is_between) : FnOk P w K mg base (L2.CX P w) 3 f fd ["rules", "sent", "got", "age", "hops"] (spM K G0 5 m_check_line) :=
  fn_ok (N := ["rules", "sent", "got", "age", "hops"]) (ps := ["rules", "sent", "got", "age", "hops"]) (k := 2) (n := 5) (np := 5) (body := b_check_line) rfl rfl F sc_check_line fun cdv A outer s H E c => by
    exact (ss_cons (s_if (st_w (sw_or (st_not (st_truth (se_isi .tuple (se_var 0) (se_ty (by rfl) T.z_tuple bt_tuple) (by rfl) T.z_isinstance))) (sw_or1 (st_ne c.hu (se_callB call_lenAll im_len (by rfl) T.z_len bt_len (sa_cons (se_var 0) sa_nil)) se_int)))) (ss_one s_never) ss_nil)
    (ss_cons (s_if (st_not (st_truth (se_call c O_is_between (by decide) (by rfl) (sa_cons (se_ix (se_var 0) se_int) (sa_cons se_int (sa_cons (se_globI' (by rfl) T.c_MOST_DELAY) sa_nil)))))) (ss_one s_never) ss_nil)
    (ss_cons (s_if (st_not (st_truth (se_call c O_is_between (by decide) (by rfl) (sa_cons (se_ix (se_var 0) se_int) (sa_cons se_int (sa_cons (se_globI' (by rfl) T.c_MOST_TTL) sa_nil)))))) (ss_one s_never) ss_nil)
    (ss_cons (s_if (st_not (st_truth (se_call c O_is_between (by decide) (by rfl) (sa_cons (se_var 1) (sa_cons se_int (sa_cons (se_globI' (by rfl) T.c_MOST_MOMENT) sa_nil)))))) (ss_one s_never) ss_nil)
    (ss_cons (s_if (st_not (st_truth (se_call c O_is_between (by decide) (by rfl) (sa_cons (se_var 2) (sa_cons se_int (sa_cons (se_globI' (by rfl) T.c_MOST_MOMENT) sa_nil)))))) (ss_one s_never) ss_nil)
    (ss_cons (s_if (st_not (st_truth (se_call c O_is_between (by decide) (by rfl) (sa_cons (se_var 3) (sa_cons se_int (sa_cons (se_globI' (by rfl) T.c_MOST_TTL) sa_nil)))))) (ss_one s_never) ss_nil)
    (ss_one (s_if (st_not (st_truth (se_call c O_is_between (by decide) (by rfl) (sa_cons (se_var 4) (sa_cons se_int (sa_cons (se_globI' (by rfl) T.c_MOST_TRAIL) sa_nil)))))) (ss_one s_never) ss_nil))))))))
theorem sc_last_told : FnScope ["rules", "sent", "got"] ["rules", "sent", "got"] (defScope s_last_told) := ⟨rfl, rfl, rfl, by decide +kernel, rfl, by decide +kernel, by decide +kernel⟩
theorem d_last_told {f : Addr} {fd : FuncData} (F : Fun K "last_told" "last_told" s_last_told f fd) (T : Tx mg)  : FnOk P w K mg base (L2.CX P w) 1 f fd ["rules", "sent", "got"] (spM K G0 3 m_last_told) :=
  fn_ok (N := ["rules", "sent", "got"]) (ps := ["rules", "sent", "got"]) (k := 0) (n := 3) (np := 3) (body := b_last_told) rfl rfl F sc_last_told fun cdv A outer s H E c => by
    exact (ss_one (s_ret (se_tup (sa_cons (se_callB (call_max2 c.hc) im_max (by rfl) T.z_max bt_max (sa_cons (se_var 1) (sa_cons (se_sub (se_var 2) (se_ix (se_var 0) se_int)) sa_nil))) (sa_cons (se_callB (call_min2 c.hc) im_min (by rfl) T.z_min bt_min (sa_cons (se_add (se_var 1) (se_ix (se_var 0) se_int)) (sa_cons (se_var 2) sa_nil))) sa_nil)))))
theorem sc_window_of : FnScope ["rules", "sent", "got", "age", "hops", "low", "high"] ["rules", "sent", "got", "age", "hops"] (defScope s_window_of) := ⟨rfl, rfl, rfl, by decide +kernel, rfl, by decide +kernel, by decide +kernel⟩
theorem d_window_of {f : Addr} {fd : FuncData} (F : Fun K "window_of" "window_of" s_window_of f fd) (T : Tx mg) (O_check_line : Ok P w K mg base G0 3 "check_line" ["rules", "sent", "got", "age", "hops"] m_check_line) (O_last_told : Ok P w K mg base G0 1 "last_told" ["rules", "sent", "got"] m_last_told) : FnOk P w K mg base (L2.CX P w) 4 f fd ["rules", "sent", "got", "age", "hops"] (spM K G0 5 m_window_of) :=
  fn_ok (N := ["rules", "sent", "got", "age", "hops", "low", "high"]) (ps := ["rules", "sent", "got", "age", "hops"]) (k := 3) (n := 7) (np := 5) (body := b_window_of) rfl rfl F sc_window_of fun cdv A outer s H E c => by
    exact (ss_cons (s_expr (se_call c O_check_line (by decide) (by rfl) (sa_cons (se_var 0) (sa_cons (se_var 1) (sa_cons (se_var 2) (sa_cons (se_var 3) (sa_cons (se_var 4) sa_nil)))))))
    (ss_cons (s_unp (se_call c O_last_told (by decide) (by rfl) (sa_cons (se_var 0) (sa_cons (se_var 1) (sa_cons (se_var 2) sa_nil)))) (pgn_tup c.hc (pgn_cons (i := 5) c.nd (pgn_cons (i := 6) c.nd pgn_nil))) (tg_tup rfl))
    (ss_cons (s_if (st_w (sw_or (st_gt c.hu (se_var 5) (se_var 6)) (sw_or (st_w (sw_and (st_eq c.hu (se_var 4) se_int) (sw_and1 (st_gt c.hu (se_var 3) se_int)))) (sw_or1 (st_lt c.hu (se_sub (se_var 6) (se_var 3)) se_int))))) (ss_one (s_ret se_non)) ss_nil)
    (ss_one (s_ret (se_tup (sa_cons (se_callB (call_max2 c.hc) im_max (by rfl) T.z_max bt_max (sa_cons se_int (sa_cons (se_sub (se_sub (se_sub (se_var 5) (se_var 3)) (se_mul (se_sub (se_var 4) se_int) (se_ix (se_var 0) se_int))) (se_ix (se_var 0) se_int)) sa_nil))) (sa_cons (se_sub (se_var 6) (se_var 3)) sa_nil))))))))
theorem sc__law_pool : FnScope ["script", "row", "seed", "cell", "number", "k"] ["script"] (defScope s__law_pool) := ⟨rfl, rfl, rfl, by decide +kernel, rfl, by decide +kernel, by decide +kernel⟩
theorem d__law_pool {f : Addr} {fd : FuncData} (F : Fun K "_law_pool" "_law_pool" s__law_pool f fd) (T : Tx mg)  : FnOk P w K mg base (L2.CX P w) 1 f fd ["script"] (spM K G0 1 m__law_pool) :=
  fn_ok (N := ["script", "row", "seed", "cell", "number", "k"]) (ps := ["script"]) (k := 0) (n := 6) (np := 1) (body := b__law_pool) rfl rfl F sc__law_pool fun cdv A outer s H E c => by
    exact (ss_cons (s_set 1 c.nd (se_lst sa_nil))
    (ss_cons (s_set 2 c.nd se_int)
    (ss_cons (s_for c.po c.hc (pi_seq (se_sl (se_var 0) so_none (so_some se_int))) io_seq (pg_name (i := 3) c.nd rfl (by first | exact Or.inl rfl | exact Or.inr rfl)) tg_name (ss_cons (s_set 4 c.nd (se_mod (se_callTy call_int1 im_int (by rfl) T.z_int bt_int (sa_cons (se_add (se_mul se_int (se_callB call_abs im_abs (by rfl) T.z_abs bt_abs (sa_cons (se_callTy call_int1 im_int (by rfl) T.z_int bt_int (sa_cons (se_var 3) sa_nil)) sa_nil))) (se_callTy call_int1 im_int (by rfl) T.z_int bt_int (sa_cons (se_lt c.hu (se_var 3) se_int) sa_nil))) sa_nil)) (se_pow se_int se_int)))
    (ss_cons (s_set 2 c.nd (se_mod (se_callTy call_int1 im_int (by rfl) T.z_int bt_int (sa_cons (se_add (se_add (se_mul (se_var 2) se_int) (se_var 4)) se_int) sa_nil)) se_int))
    (ss_cons (s_if (st_lt c.hu (se_var 4) (se_pow se_int se_int)) (ss_cons (s_expr (se_append (se_var 1) (sa_cons (se_fdiv (se_mod (se_callTy call_int1 im_int (by rfl) T.z_int bt_int (sa_cons (se_mul (se_var 2) se_int) sa_nil)) se_int) se_int) sa_nil)))
    (ss_one (s_set 4 c.nd se_int))) ss_nil)
    (ss_one (s_for c.po c.hc (pi_range1 (by rfl) T.z_range (sa_cons se_int sa_nil)) io_rng1 (pg_name (i := 5) c.nd rfl (by first | exact Or.inl rfl | exact Or.inr rfl)) tg_name (ss_one (s_if (st_gt c.hu (se_var 4) se_int) (ss_cons (s_expr (se_append (se_var 1) (sa_cons (se_mod (se_callTy call_int1 im_int (by rfl) T.z_int bt_int (sa_cons (se_var 4) sa_nil)) se_int) sa_nil)))
    (ss_one (s_set 4 c.nd (se_fdiv (se_var 4) se_int)))) ss_nil))))))))
    (ss_one (s_ret (se_add (se_lst (sa_cons (se_var 2) sa_nil)) (se_rev (se_var 1))))))))
theorem sc__law_take : FnScope ["pool", "many"] ["pool", "many"] (defScope s__law_take) := ⟨rfl, rfl, rfl, by decide +kernel, rfl, by decide +kernel, by decide +kernel⟩
theorem d__law_take {f : Addr} {fd : FuncData} (F : Fun K "_law_take" "_law_take" s__law_take f fd) (T : Tx mg)  : FnOk P w K mg base (L2.CX P w) 1 f fd ["pool", "many"] (spM K G0 2 m__law_take) :=
  fn_ok (N := ["pool", "many"]) (ps := ["pool", "many"]) (k := 0) (n := 2) (np := 2) (body := b__law_take) rfl rfl F sc__law_take fun cdv A outer s H E c => by
    exact (ss_cons (s_if (st_gt c.hu (se_callB call_lenAll im_len (by rfl) T.z_len bt_len (sa_cons (se_var 0) sa_nil)) se_int) (ss_one (s_ret (se_mod (se_callTy call_int1 im_int (by rfl) T.z_int bt_int (sa_cons (se_pop (se_var 0)) sa_nil)) (se_var 1)))) ss_nil)
    (ss_cons (s_setIx c.hu1 (se_var 0) se_int (se_mod (se_callTy call_int1 im_int (by rfl) T.z_int bt_int (sa_cons (se_add (se_mul (se_ix (se_var 0) se_int) se_int) se_int) sa_nil)) se_int))
    (ss_one (s_ret (se_mod (se_callTy call_int1 im_int (by rfl) T.z_int bt_int (sa_cons (se_fdiv (se_mod (se_callTy call_int1 im_int (by rfl) T.z_int bt_int (sa_cons (se_mul (se_ix (se_var 0) se_int) se_int) sa_nil)) se_int) se_int) sa_nil)) (se_var 1))))))
theorem sc__law_wide : FnScope ["pool", "many"] ["pool", "many"] (defScope s__law_wide) := ⟨rfl, rfl, rfl, by decide +kernel, rfl, by decide +kernel, by decide +kernel⟩
theorem d__law_wide {f : Addr} {fd : FuncData} (F : Fun K "_law_wide" "_law_wide" s__law_wide f fd) (T : Tx mg) (O__law_take : Ok P w K mg base G0 1 "_law_take" ["pool", "many"] m__law_take) : FnOk P w K mg base (L2.CX P w) 2 f fd ["pool", "many"] (spM K G0 2 m__law_wide) :=
  fn_ok (N := ["pool", "many"]) (ps := ["pool", "many"]) (k := 1) (n := 2) (np := 2) (body := b__law_wide) rfl rfl F sc__law_wide fun cdv A outer s H E c => by
    exact (ss_one (s_ret (se_mod (se_callTy call_int1 im_int (by rfl) T.z_int bt_int (sa_cons (se_add (se_mul (se_call c O__law_take (by decide) (by rfl) (sa_cons (se_var 0) (sa_cons se_int sa_nil))) se_int) (se_call c O__law_take (by decide) (by rfl) (sa_cons (se_var 0) (sa_cons se_int sa_nil)))) sa_nil)) (se_var 1))))
theorem sc__law_edge : FnScope ["pool", "most", "pick"] ["pool", "most"] (defScope s__law_edge) := ⟨rfl, rfl, rfl, by decide +kernel, rfl, by decide +kernel, by decide +kernel⟩
theorem d__law_edge {f : Addr} {fd : FuncData} (F : Fun K "_law_edge" "_law_edge" s__law_edge f fd) (T : Tx mg) (O__law_take : Ok P w K mg base G0 1 "_law_take" ["pool", "many"] m__law_take) (O__law_wide : Ok P w K mg base G0 2 "_law_wide" ["pool", "many"] m__law_wide) : FnOk P w K mg base (L2.CX P w) 3 f fd ["pool", "most"] (spM K G0 2 m__law_edge) :=
  fn_ok (N := ["pool", "most", "pick"]) (ps := ["pool", "most"]) (k := 2) (n := 3) (np := 2) (body := b__law_edge) rfl rfl F sc__law_edge fun cdv A outer s H E c => by
    exact (ss_cons (s_set 2 c.nd (se_call c O__law_take (by decide) (by rfl) (sa_cons (se_var 0) (sa_cons se_int sa_nil))))
    (ss_cons (s_if (st_eq c.hu (se_var 2) se_int) (ss_one (s_ret se_int)) ss_nil)
    (ss_cons (s_if (st_eq c.hu (se_var 2) se_int) (ss_one (s_ret (se_var 1))) ss_nil)
    (ss_cons (s_if (st_eq c.hu (se_var 2) se_int) (ss_one (s_ret (se_callB (call_max2 c.hc) im_max (by rfl) T.z_max bt_max (sa_cons se_int (sa_cons (se_sub (se_var 1) (se_call c O__law_take (by decide) (by rfl) (sa_cons (se_var 0) (sa_cons se_int sa_nil)))) sa_nil))))) ss_nil)
    (ss_cons (s_if (st_eq c.hu (se_var 2) se_int) (ss_one (s_ret (se_callB (call_min2 c.hc) im_min (by rfl) T.z_min bt_min (sa_cons (se_var 1) (sa_cons (se_call c O__law_take (by decide) (by rfl) (sa_cons (se_var 0) (sa_cons se_int sa_nil))) sa_nil))))) ss_nil)
    (ss_one (s_ret (se_call c O__law_wide (by decide) (by rfl) (sa_cons (se_var 0) (sa_cons (se_add (se_var 1) se_int) sa_nil))))))))))
theorem sc__law_search : FnScope ["line", "told", "moment", "hop", "moments", "row", "delay", "expire", "sent", "got", "age", "hops", "earlier", "kept", "lag", "more", "transit"] ["line"] (defScope s__law_search) := ⟨rfl, rfl, rfl, by decide +kernel, rfl, by decide +kernel, by decide +kernel⟩
theorem d__law_search {f : Addr} {fd : FuncData} (F : Fun K "_law_search" "_law_search" s__law_search f fd) (T : Tx mg)  : FnOk P w K mg base (L2.CX P w) 1 f fd ["line"] (spM K G0 1 m__law_search) :=
  fn_ok (N := ["line", "told", "moment", "hop", "moments", "row", "delay", "expire", "sent", "got", "age", "hops", "earlier", "kept", "lag", "more", "transit"]) (ps := ["line"]) (k := 0) (n := 17) (np := 1) (body := b__law_search) rfl rfl F sc__law_search fun cdv A outer s H E c => by
    exact (ss_cons (s_unp (se_var 0) (pgn_tup c.hc (pgn_cons (i := 6) c.nd (pgn_cons (i := 7) c.nd (pgn_cons (i := 8) c.nd (pgn_cons (i := 9) c.nd (pgn_cons (i := 10) c.nd (pgn_cons (i := 11) c.nd pgn_nil))))))) (tg_tup rfl))
    (ss_cons (s_set 1 c.nd (se_lst sa_nil))
    (ss_cons (s_for c.po c.hc (pi_range1 (by rfl) T.z_range (sa_cons se_int sa_nil)) io_rng1 (pg_name (i := 2) c.nd rfl (by first | exact Or.inl rfl | exact Or.inr rfl)) tg_name (ss_one (s_if (st_w (sw_and (st_chain op_le op_le im_le im_le se_int (se_sub (se_var 2) (se_var 8)) (se_var 6)) (sw_and1 (st_chain op_le op_le im_le im_le se_int (se_sub (se_var 9) (se_var 2)) (se_var 6))))) (ss_one (s_expr (se_append (se_var 1) (sa_cons (se_tup (sa_cons (se_var 2) (sa_cons se_int sa_nil))) sa_nil)))) ss_nil)))
    (ss_cons (s_for c.po c.hc (pi_range1 (by rfl) T.z_range (sa_cons (se_sub (se_var 11) se_int) sa_nil)) io_rng1 (pg_name (i := 3) c.nd rfl (by first | exact Or.inl rfl | exact Or.inr rfl)) tg_name (ss_cons (s_set 12 c.nd se_dT)
    (ss_cons (s_for c.po c.hc (pi_seq (se_var 1)) io_seq (pgn_tup c.hc (pgn_cons (i := 2) c.nd (pgn_cons (i := 13) c.nd pgn_nil))) (tg_tup rfl) (ss_one (s_for c.po c.hc (pi_range1 (by rfl) T.z_range (sa_cons (se_add (se_sub (se_var 10) (se_var 13)) se_int) sa_nil)) io_rng1 (pg_name (i := 15) c.nd rfl (by first | exact Or.inl rfl | exact Or.inr rfl)) tg_name (ss_one (s_for c.po c.hc (pi_range1 (by rfl) T.z_range (sa_cons (se_add (se_var 6) se_int) sa_nil)) io_rng1 (pg_name (i := 16) c.nd rfl (by first | exact Or.inl rfl | exact Or.inr rfl)) tg_name (ss_one (s_if (st_ge c.hu (se_sub (se_sub (se_var 2) (se_var 15)) (se_var 16)) se_int) (ss_one (s_setIx c.hu1 (se_var 12) (se_tup (sa_cons (se_sub (se_sub (se_var 2) (se_var 15)) (se_var 16)) (sa_cons (se_add (se_var 13) (se_var 15)) sa_nil))) se_bl)) ss_nil)))))))
    (ss_one (s_set 1 c.nd (se_callTy (call_listAll c.hc) im_list (by rfl) T.z_list bt_list (sa_cons (se_var 12) sa_nil)))))))
    (ss_cons (s_set 4 c.nd se_dK)
    (ss_cons (s_for c.po c.hc (pi_seq (se_var 1)) io_seq (pgn_tup c.hc (pgn_cons (i := 2) c.nd (pgn_cons (i := 13) c.nd pgn_nil))) (tg_tup rfl) (ss_one (s_for c.po c.hc (pi_range1 (by rfl) T.z_range (sa_cons (se_add (se_var 7) se_int) sa_nil)) io_rng1 (pg_name (i := 14) c.nd rfl (by first | exact Or.inl rfl | exact Or.inr rfl)) tg_name (ss_one (s_if (st_w (sw_and (st_eq c.hu (se_var 13) (se_var 10)) (sw_and1 (st_ge c.hu (se_sub (se_var 2) (se_var 14)) se_int)))) (ss_one (s_setIx c.hu1 (se_var 4) (se_sub (se_var 2) (se_var 14)) se_bl)) ss_nil)))))
    (ss_cons (s_if (st_eq c.hu (se_callB call_lenAll im_len (by rfl) T.z_len bt_len (sa_cons (se_var 4) sa_nil)) se_int) (ss_one (s_ret se_non)) ss_nil)
    (ss_cons (s_set 5 c.nd (se_callB (cr_sortedI.or (call_sortedDI c.hc)) im_sorted (by rfl) T.z_sorted bt_sorted (sa_cons (se_var 4) sa_nil)))
    (ss_one (s_ret (se_tup (sa_cons (se_ix (se_var 5) se_int) (sa_cons (se_ix (se_var 5) (se_neg se_int)) sa_nil)))))))))))))
theorem sc__law_formula : FnScope ["line", "first", "last", "delay", "expire", "sent", "got", "age", "hops"] ["line"] (defScope s__law_formula) := ⟨rfl, rfl, rfl, by decide +kernel, rfl, by decide +kernel, by decide +kernel⟩
theorem d__law_formula {f : Addr} {fd : FuncData} (F : Fun K "_law_formula" "_law_formula" s__law_formula f fd) (T : Tx mg)  : FnOk P w K mg base (L2.CX P w) 1 f fd ["line"] (spM K G0 1 m__law_formula) :=
  fn_ok (N := ["line", "first", "last", "delay", "expire", "sent", "got", "age", "hops"]) (ps := ["line"]) (k := 0) (n := 9) (np := 1) (body := b__law_formula) rfl rfl F sc__law_formula fun cdv A outer s H E c => by
    exact (ss_cons (s_unp (se_var 0) (pgn_tup c.hc (pgn_cons (i := 3) c.nd (pgn_cons (i := 4) c.nd (pgn_cons (i := 5) c.nd (pgn_cons (i := 6) c.nd (pgn_cons (i := 7) c.nd (pgn_cons (i := 8) c.nd pgn_nil))))))) (tg_tup rfl))
    (ss_cons (s_set 1 c.nd (se_callB (call_max2 c.hc) im_max (by rfl) T.z_max bt_max (sa_cons (se_var 5) (sa_cons (se_sub (se_var 6) (se_var 3)) sa_nil))))
    (ss_cons (s_set 2 c.nd (se_callB (call_min2 c.hc) im_min (by rfl) T.z_min bt_min (sa_cons (se_add (se_var 5) (se_var 3)) (sa_cons (se_var 6) sa_nil))))
    (ss_cons (s_if (st_w (sw_or (st_gt c.hu (se_var 1) (se_var 2)) (sw_or (st_w (sw_and (st_eq c.hu (se_var 8) se_int) (sw_and1 (st_gt c.hu (se_var 7) se_int)))) (sw_or1 (st_lt c.hu (se_sub (se_var 2) (se_var 7)) se_int))))) (ss_one (s_ret se_non)) ss_nil)
    (ss_one (s_ret (se_tup (sa_cons (se_callB (call_max2 c.hc) im_max (by rfl) T.z_max bt_max (sa_cons se_int (sa_cons (se_sub (se_sub (se_sub (se_var 1) (se_var 7)) (se_mul (se_sub (se_var 8) se_int) (se_var 3))) (se_var 4)) sa_nil))) (sa_cons (se_sub (se_var 2) (se_var 7)) sa_nil)))))))))
theorem sc__law_small_line : FnScope ["pool", "delay", "expire", "sent", "got", "age"] ["pool"] (defScope s__law_small_line) := ⟨rfl, rfl, rfl, by decide +kernel, rfl, by decide +kernel, by decide +kernel⟩
theorem d__law_small_line {f : Addr} {fd : FuncData} (F : Fun K "_law_small_line" "_law_small_line" s__law_small_line f fd) (T : Tx mg) (O__law_take : Ok P w K mg base G0 1 "_law_take" ["pool", "many"] m__law_take) : FnOk P w K mg base (L2.CX P w) 2 f fd ["pool"] (spM K G0 1 m__law_small_line) :=
  fn_ok (N := ["pool", "delay", "expire", "sent", "got", "age"]) (ps := ["pool"]) (k := 1) (n := 6) (np := 1) (body := b__law_small_line) rfl rfl F sc__law_small_line fun cdv A outer s H E c => by
    exact (ss_cons (s_set 1 c.nd (se_call c O__law_take (by decide) (by rfl) (sa_cons (se_var 0) (sa_cons se_int sa_nil))))
    (ss_cons (s_set 2 c.nd (se_call c O__law_take (by decide) (by rfl) (sa_cons (se_var 0) (sa_cons se_int sa_nil))))
    (ss_cons (s_set 3 c.nd (se_call c O__law_take (by decide) (by rfl) (sa_cons (se_var 0) (sa_cons se_int sa_nil))))
    (ss_cons (s_set 4 c.nd (se_callB (call_max2 c.hc) im_max (by rfl) T.z_max bt_max (sa_cons se_int (sa_cons (se_add (se_sub (se_var 3) se_int) (se_call c O__law_take (by decide) (by rfl) (sa_cons (se_var 0) (sa_cons (se_add (se_mul se_int (se_var 1)) se_int) sa_nil)))) sa_nil))))
    (ss_cons (s_set 5 c.nd (se_call c O__law_take (by decide) (by rfl) (sa_cons (se_var 0) (sa_cons se_int sa_nil))))
    (ss_one (s_ret (se_lst (sa_cons (se_var 1) (sa_cons (se_var 2) (sa_cons (se_var 3) (sa_cons (se_var 4) (sa_cons (se_var 5) (sa_cons (se_add se_int (se_call c O__law_take (by decide) (by rfl) (sa_cons (se_var 0) (sa_cons se_int sa_nil)))) sa_nil))))))))))))))
theorem sc__law_whole_line : FnScope ["pool", "delay", "expire", "sent", "got", "pick", "hops", "age"] ["pool"] (defScope s__law_whole_line) := ⟨rfl, rfl, rfl, by decide +kernel, rfl, by decide +kernel, by decide +kernel⟩
theorem d__law_whole_line {f : Addr} {fd : FuncData} (F : Fun K "_law_whole_line" "_law_whole_line" s__law_whole_line f fd) (T : Tx mg) (O__law_take : Ok P w K mg base G0 1 "_law_take" ["pool", "many"] m__law_take) (O__law_wide : Ok P w K mg base G0 2 "_law_wide" ["pool", "many"] m__law_wide) (O__law_edge : Ok P w K mg base G0 3 "_law_edge" ["pool", "most"] m__law_edge) : FnOk P w K mg base (L2.CX P w) 4 f fd ["pool"] (spM K G0 1 m__law_whole_line) :=
  fn_ok (N := ["pool", "delay", "expire", "sent", "got", "pick", "hops", "age"]) (ps := ["pool"]) (k := 3) (n := 8) (np := 1) (body := b__law_whole_line) rfl rfl F sc__law_whole_line fun cdv A outer s H E c => by
    exact (ss_cons (s_set 1 c.nd (se_call c O__law_edge (by decide) (by rfl) (sa_cons (se_var 0) (sa_cons se_int sa_nil))))
    (ss_cons (s_set 2 c.nd (se_call c O__law_edge (by decide) (by rfl) (sa_cons (se_var 0) (sa_cons se_int sa_nil))))
    (ss_cons (s_set 3 c.nd (se_call c O__law_edge (by decide) (by rfl) (sa_cons (se_var 0) (sa_cons se_int sa_nil))))
    (ss_cons (s_set 4 c.nd (se_add (se_var 3) (se_call c O__law_wide (by decide) (by rfl) (sa_cons (se_var 0) (sa_cons (se_add (se_mul se_int (se_var 1)) se_int) sa_nil)))))
    (ss_cons (s_set 5 c.nd (se_call c O__law_take (by decide) (by rfl) (sa_cons (se_var 0) (sa_cons se_int sa_nil))))
    (ss_cons (s_if (st_eq c.hu (se_var 5) se_int) (ss_one (s_set 4 c.nd (se_add (se_sub (se_add (se_var 3) (se_mul se_int (se_var 1))) se_int) (se_call c O__law_take (by decide) (by rfl) (sa_cons (se_var 0) (sa_cons se_int sa_nil)))))) ss_nil)
    (ss_cons (s_if (st_eq c.hu (se_var 5) se_int) (ss_one (s_set 4 c.nd (se_add (se_sub (se_var 3) se_int) (se_call c O__law_take (by decide) (by rfl) (sa_cons (se_var 0) (sa_cons se_int sa_nil)))))) ss_nil)
    (ss_cons (s_if (st_eq c.hu (se_var 5) se_int) (ss_one (s_set 4 c.nd (se_call c O__law_edge (by decide) (by rfl) (sa_cons (se_var 0) (sa_cons se_int sa_nil))))) ss_nil)
    (ss_cons (s_set 4 c.nd (se_callB (call_min2 c.hc) im_min (by rfl) T.z_min bt_min (sa_cons (se_callB (call_max2 c.hc) im_max (by rfl) T.z_max bt_max (sa_cons (se_var 4) (sa_cons se_int sa_nil))) (sa_cons se_int sa_nil))))
    (ss_cons (s_set 6 c.nd (se_add se_int (se_call c O__law_take (by decide) (by rfl) (sa_cons (se_var 0) (sa_cons se_int sa_nil)))))
    (ss_cons (s_set 7 c.nd (se_call c O__law_edge (by decide) (by rfl) (sa_cons (se_var 0) (sa_cons se_int sa_nil))))
    (ss_cons (s_set 5 c.nd (se_call c O__law_take (by decide) (by rfl) (sa_cons (se_var 0) (sa_cons se_int sa_nil))))
    (ss_cons (s_if (st_eq c.hu (se_var 5) se_int) (ss_one (s_set 7 c.nd se_int)) ss_nil)
    (ss_cons (s_if (st_eq c.hu (se_var 5) se_int) (ss_one (s_set 7 c.nd (se_add (se_sub (se_callB (call_min2 c.hc) im_min (by rfl) T.z_min bt_min (sa_cons (se_add (se_var 3) (se_var 1)) (sa_cons (se_var 4) sa_nil))) se_int) (se_call c O__law_take (by decide) (by rfl) (sa_cons (se_var 0) (sa_cons se_int sa_nil)))))) ss_nil)
    (ss_cons (s_if (st_eq c.hu (se_var 5) se_int) (ss_one (s_set 7 c.nd (se_add (se_sub (se_sub (se_sub (se_callB (call_max2 c.hc) im_max (by rfl) T.z_max bt_max (sa_cons (se_var 3) (sa_cons (se_sub (se_var 4) (se_var 1)) sa_nil))) (se_mul (se_sub (se_var 6) se_int) (se_var 1))) (se_var 2)) se_int) (se_call c O__law_take (by decide) (by rfl) (sa_cons (se_var 0) (sa_cons se_int sa_nil)))))) ss_nil)
    (ss_one (s_ret (se_lst (sa_cons (se_var 1) (sa_cons (se_var 2) (sa_cons (se_var 3) (sa_cons (se_var 4) (sa_cons (se_callB (call_min2 c.hc) im_min (by rfl) T.z_min bt_min (sa_cons (se_callB (call_max2 c.hc) im_max (by rfl) T.z_max bt_max (sa_cons (se_var 7) (sa_cons se_int sa_nil))) (sa_cons se_int sa_nil))) (sa_cons (se_var 6) sa_nil))))))))))))))))))))))))
theorem sc__law_moved : FnScope ["pool", "line", "least", "most", "place", "number", "moved"] ["pool", "line"] (defScope s__law_moved) := ⟨rfl, rfl, rfl, by decide +kernel, rfl, by decide +kernel, by decide +kernel⟩
theorem d__law_moved {f : Addr} {fd : FuncData} (F : Fun K "_law_moved" "_law_moved" s__law_moved f fd) (T : Tx mg) (O__law_take : Ok P w K mg base G0 1 "_law_take" ["pool", "many"] m__law_take) : FnOk P w K mg base (L2.CX P w) 2 f fd ["pool", "line"] (spM K G0 2 m__law_moved) :=
  fn_ok (N := ["pool", "line", "least", "most", "place", "number", "moved"]) (ps := ["pool", "line"]) (k := 1) (n := 7) (np := 2) (body := b__law_moved) rfl rfl F sc__law_moved fun cdv A outer s H E c => by
    exact (ss_cons (s_set 2 c.nd (se_lst (sa_cons se_int (sa_cons se_int (sa_cons se_int (sa_cons se_int (sa_cons se_int (sa_cons se_int sa_nil))))))))
    (ss_cons (s_set 3 c.nd (se_lst (sa_cons se_int (sa_cons se_int (sa_cons se_int (sa_cons se_int (sa_cons se_int (sa_cons se_int sa_nil))))))))
    (ss_cons (s_set 4 c.nd (se_call c O__law_take (by decide) (by rfl) (sa_cons (se_var 0) (sa_cons se_int sa_nil))))
    (ss_cons (s_set 5 c.nd (se_add (se_sub (se_ix (se_var 1) (se_var 4)) se_int) (se_mul se_int (se_call c O__law_take (by decide) (by rfl) (sa_cons (se_var 0) (sa_cons se_int sa_nil))))))
    (ss_cons (s_set 6 c.nd (se_callTy (call_listAll c.hc) im_list (by rfl) T.z_list bt_list (sa_cons (se_var 1) sa_nil)))
    (ss_cons (s_setIx c.hu1 (se_var 6) (se_var 4) (se_callB (call_min2 c.hc) im_min (by rfl) T.z_min bt_min (sa_cons (se_callB (call_max2 c.hc) im_max (by rfl) T.z_max bt_max (sa_cons (se_var 5) (sa_cons (se_ix (se_var 2) (se_var 4)) sa_nil))) (sa_cons (se_ix (se_var 3) (se_var 4)) sa_nil))))
    (ss_one (s_ret (se_var 6)))))))))
theorem sc__law_same : FnScope ["actual", "due", "part"] ["actual", "due"] (defScope s__law_same) := ⟨rfl, rfl, rfl, by decide +kernel, rfl, by decide +kernel, by decide +kernel⟩
theorem d__law_same {f : Addr} {fd : FuncData} (F : Fun K "_law_same" "_law_same" s__law_same f fd) (T : Tx mg)  : FnOk P w K mg base (L2.CX P w) 1 f fd ["actual", "due"] (spM K G0 2 m__law_same) :=
  fn_ok (N := ["actual", "due", "part"]) (ps := ["actual", "due"]) (k := 0) (n := 3) (np := 2) (body := b__law_same) rfl rfl F sc__law_same fun cdv A outer s H E c => by
    exact (ss_cons (s_if (st_isN (se_var 1)) (ss_one (s_ret (se_isN (se_var 0)))) ss_nil)
    (ss_cons (s_if (st_w (sw_or (st_not (st_truth (se_isi .tuple (se_var 0) (se_ty (by rfl) T.z_tuple bt_tuple) (by rfl) T.z_isinstance))) (sw_or1 (st_ne c.hu (se_callB call_lenAll im_len (by rfl) T.z_len bt_len (sa_cons (se_var 0) sa_nil)) se_int)))) (ss_one (s_ret se_bl)) ss_nil)
    (ss_cons (s_for c.po c.hc (pi_seq (se_var 0)) io_seq (pg_name (i := 2) c.nd rfl (by first | exact Or.inl rfl | exact Or.inr rfl)) tg_name (ss_one (s_if (st_w (sw_or (st_not (st_truth (se_isi .int (se_var 2) (se_ty (by rfl) T.z_int bt_int) (by rfl) T.z_isinstance))) (sw_or1 (st_truth (se_isi .bool (se_var 2) (se_ty (by rfl) T.z_bool bt_bool) (by rfl) T.z_isinstance))))) (ss_one (s_ret se_bl)) ss_nil)))
    (ss_one (s_ret (se_eq c.hu (se_var 0) (se_var 1)))))))
theorem sc_law : FnScope ["script", "pool", "small", "line", "first", "due"] ["script"] (defScope s_law) := ⟨rfl, rfl, rfl, by decide +kernel, rfl, by decide +kernel, by decide +kernel⟩
theorem d_law {f : Addr} {fd : FuncData} (F : Fun K "law" "law" s_law f fd) (T : Tx mg) (O_window_of : Ok P w K mg base G0 4 "window_of" ["rules", "sent", "got", "age", "hops"] m_window_of) (O__law_pool : Ok P w K mg base G0 1 "_law_pool" ["script"] m__law_pool) (O__law_take : Ok P w K mg base G0 1 "_law_take" ["pool", "many"] m__law_take) (O__law_search : Ok P w K mg base G0 1 "_law_search" ["line"] m__law_search) (O__law_formula : Ok P w K mg base G0 1 "_law_formula" ["line"] m__law_formula) (O__law_small_line : Ok P w K mg base G0 2 "_law_small_line" ["pool"] m__law_small_line) (O__law_whole_line : Ok P w K mg base G0 4 "_law_whole_line" ["pool"] m__law_whole_line) (O__law_moved : Ok P w K mg base G0 2 "_law_moved" ["pool", "line"] m__law_moved) (O__law_same : Ok P w K mg base G0 1 "_law_same" ["actual", "due"] m__law_same) : FnOk P w K mg base (L2.CX P w) 5 f fd ["script"] (spM K G0 1 m_law) :=
  fn_ok (N := ["script", "pool", "small", "line", "first", "due"]) (ps := ["script"]) (k := 4) (n := 6) (np := 1) (body := b_law) rfl rfl F sc_law fun cdv A outer s H E c => by
    exact (ss_cons (s_set 1 c.nd (se_call c O__law_pool (by decide) (by rfl) (sa_cons (se_var 0) sa_nil)))
    (ss_cons (s_set 2 c.nd (se_eq c.hu (se_call c O__law_take (by decide) (by rfl) (sa_cons (se_var 1) (sa_cons se_int sa_nil))) se_int))
    (ss_cons (s_if (st_truth (se_var 2)) (ss_one (s_set 4 c.nd (se_call c O__law_small_line (by decide) (by rfl) (sa_cons (se_var 1) sa_nil)))) (ss_one (s_set 4 c.nd (se_call c O__law_whole_line (by decide) (by rfl) (sa_cons (se_var 1) sa_nil)))))
    (ss_cons (s_for c.po c.hc (pi_seq (se_lst (sa_cons (se_var 4) (sa_cons (se_call c O__law_moved (by decide) (by rfl) (sa_cons (se_var 1) (sa_cons (se_var 4) sa_nil))) (sa_cons (se_var 4) sa_nil))))) io_seq (pg_name (i := 3) c.nd rfl (by first | exact Or.inl rfl | exact Or.inr rfl)) tg_name (ss_cons (s_set 5 c.nd (se_call c O__law_formula (by decide) (by rfl) (sa_cons (se_var 3) sa_nil)))
    (ss_cons (s_if (st_truth (se_var 2)) (ss_one (s_set 5 c.nd (se_call c O__law_search (by decide) (by rfl) (sa_cons (se_var 3) sa_nil)))) ss_nil)
    (ss_one (s_if (st_not (st_truth (se_call c O__law_same (by decide) (by rfl) (sa_cons (se_call c O_window_of (by decide) (by rfl) (sa_cons (se_tup (sa_cons (se_ix (se_var 3) se_int) (sa_cons (se_ix (se_var 3) se_int) sa_nil))) (sa_cons (se_ix (se_var 3) se_int) (sa_cons (se_ix (se_var 3) se_int) (sa_cons (se_ix (se_var 3) se_int) (sa_cons (se_ix (se_var 3) se_int) sa_nil)))))) (sa_cons (se_var 5) sa_nil))))) (ss_one (s_ret se_bl)) ss_nil)))))
    (ss_one (s_ret se_bl))))))
end
end Lk25
namespace Lk25
open PySem L2 PyProof.Rows Sm

/-- a pool stands at n -/
def Pl (h : Hh) (n : Nat) : Prop := ∃ p : List Int, p ≠ [] ∧ p.length ≤ 2000 ∧ h[n]? = some (.lst (p.map D.int))
theorem take_spec {h : Hh} {n : Nat} {m : Int} {p : List Int} (hp : p ≠ []) (hl : p.length ≤ 2000) (e : h[n]? = some (.lst (p.map D.int))) (hm : 0 < m) :
    ∃ (r : Int) (q : List Int), q ≠ [] ∧ q.length ≤ 2000 ∧ 0 ≤ r ∧ r < m ∧ m__law_take [.ref n, .int m] h = .ok (.int r) (h.set n (.lst (q.map D.int))) := by
  obtain ⟨hn, e'⟩ := List.getElem?_eq_some_iff.mp e
  by_cases hlen : 1 < p.length
  · have hlen' : (1 : Int) < (p.length : Int) := by omega
    obtain ⟨y, hy⟩ : ∃ y, p[p.length - 1]? = some y := ⟨p[p.length - 1], by simp⟩
    refine ⟨y % m, p.dropLast, ?_, ?_, Int.emod_nonneg _ (by omega), Int.emod_lt_of_pos _ hm, ?_⟩
    · intro z
      have := congrArg List.length z
      simp at this
      omega
    · simp; omega
    · simp [m__law_take, b__law_take, e, hlen', hy, hm]
  · cases p with
    | nil => exact absurd rfl hp
    | cons x p =>
      have hp0 : p = [] := by
        cases p with
        | nil => rfl
        | cons _ _ => simp at hlen
      subst hp0
      refine ⟨(((x * 48271 + 11) % 2147483647) * 742938285 % 2147483399 / 64) % m, [(x * 48271 + 11) % 2147483647], by simp, by simp, Int.emod_nonneg _ (by omega), Int.emod_lt_of_pos _ hm, ?_⟩
      have hs : ∀ o : O, (h.set n o)[n]? = some o := fun o => List.getElem?_set_self hn
      simp [m__law_take, b__law_take, e, hm, mulOk_r, ixN, atI, hs]

theorem big_line {n : Nat} (h : n ≤ 3000) : n < sizeLine := by rw [sizeLine_eq]; omega
theorem inner_spec (h : Hh) (cells : O) (e0 e2 e3 : Option D) (num : Int) (e5 : Option D) (xs : List D) (p : List Int) (hl : p.length + xs.length ≤ 2900) :
    ∃ (q : List Int) (num' : Int) (e5' : Option D), q.length ≤ p.length + xs.length ∧ forL (gtName 5) b__law_pool_2 none xs [e0, some (.ref h.length), e2, e3, some (.int num), e5] (h ++ [.lst (p.map D.int), cells]) =
      .nx [e0, some (.ref h.length), e2, e3, some (.int num'), e5'] (h ++ [.lst (q.map D.int), cells]) := by
  obtain ⟨e', h', eq, q, num', e5', hq, rfl, rfl⟩ := forL_inv (g := gtName 5) (body := b__law_pool_2) (gd := none)
    (fun rest env h' => ∃ (q : List Int) (num' : Int) (e5' : Option D), q.length + rest.length ≤ p.length + xs.length ∧ env = [e0, some (.ref h.length), e2, e3, some (.int num'), e5'] ∧ h' = h ++ [.lst (q.map D.int), cells])
    xs _ _ ⟨p, num, e5, Nat.le_refl _, rfl, rfl⟩ (fun _ _ _ _ => trivial) (fun x rest env h' => by
      rintro ⟨q, num', e5', hq, rfl, rfl⟩
      rw [List.length_cons] at hq
      have hq' : q.length < sizeLine := big_line (by omega)
      refine ⟨_, rfl, ?_⟩
      by_cases hn : 0 < num'
      · exact ⟨[e0, some (.ref h.length), e2, e3, some (.int (num' / 1000)), some x], h ++ [.lst ((q ++ [num' % 1000]).map D.int), cells], by simp [b__law_pool_2, hn, hq'], q ++ [num' % 1000], num' / 1000, some x, by simp; omega, rfl, rfl⟩
      · exact ⟨[e0, some (.ref h.length), e2, e3, some (.int num'), some x], h ++ [.lst (q.map D.int), cells], by simp [b__law_pool_2, hn], q, num', some x, by omega, rfl, rfl⟩)
  exact ⟨q, num', e5', by simpa using hq, eq⟩
theorem rngD_len (lo : Int) (n : Nat) : (rngD lo n).length = n := by unfold rngD; simp
theorem pool_turn (h : Hh) (cells : O) (e0 : Option D) (seed y : Int) (e4 e5 : Option D) (q : List Int) (hq : q.length ≤ 1400) :
    ∃ (q2 : List Int) (seed' : Int) (e4' e5' : Option D), q2.length ≤ q.length + 21 ∧ b__law_pool_1 [e0, some (.ref h.length), some (.int seed), some (.int y), e4, e5] (h ++ [.lst (q.map D.int), cells]) =
      .nx [e0, some (.ref h.length), some (.int seed'), some (.int y), e4', e5'] (h ++ [.lst (q2.map D.int), cells]) := by
  have hq' : q.length < sizeLine := big_line (by omega)
  have h60 : (10 : Int) ^ 60 = 1000000000000000000000000000000000000000000000000000000000000 := by decide
  have h18 : (10 : Int) ^ 18 = 1000000000000000000 := by decide
  have hb : ∀ (b : Bool), (if b = true then (1 : Int) else 0) = (if b = true then (1 : Int) else 0) := fun _ => rfl
  generalize hN : (2 * (if y < 0 then -y else y) + (if decide (y < 0) = true then 1 else 0)) % (1000000000000000000000000000000000000000000000000000000000000 : Int) = N
  by_cases hn : N < 1000000000000000000
  · obtain ⟨q2, n2, e2, hl, eq⟩ := inner_spec h cells e0 (some (.int ((seed * 48271 + N + 11) % 2147483647))) (some (.int y)) 0 e5 (rngD 0 20) (q ++ [(seed * 48271 + N + 11) % 2147483647 * 742938285 % 2147483399 / 64]) (by rw [rngD_len]; simp; omega)
    rw [rngD_len, List.length_append] at hl
    refine ⟨q2, (seed * 48271 + N + 11) % 2147483647, some (.int n2), e2, by simp at hl; omega, ?_⟩
    rw [List.map_append, List.map_cons, List.map_nil] at eq
    rw [← eq]
    simp [b__law_pool_1, mulOk_r, mulOk_l, h60, h18, Sm.inR] at hN ⊢
    simp [hN, hn, hq', mulOk_r, mulOk_l, Sm.inR]
  · obtain ⟨q2, n2, e2, hl, eq⟩ := inner_spec h cells e0 (some (.int ((seed * 48271 + N + 11) % 2147483647))) (some (.int y)) N e5 (rngD 0 20) q (by rw [rngD_len]; omega)
    rw [rngD_len] at hl
    refine ⟨q2, (seed * 48271 + N + 11) % 2147483647, some (.int n2), e2, by omega, ?_⟩
    rw [← eq]
    simp [b__law_pool_1, mulOk_r, mulOk_l, h60, h18, Sm.inR] at hN ⊢
    simp [hN, hn, mulOk_r, mulOk_l, Sm.inR]
theorem pool_spec (ns : List Int) (hl : ns.length ≤ 63) (h : Hh) : ∃ (p : List Int) (a b c d : O), p ≠ [] ∧ p.length ≤ 2000 ∧
    m__law_pool [.fls (ns.map D.int)] h = .ok (.ref (h.length + 4)) (h ++ [a, b, c, d, .lst (p.map D.int)]) := by
  obtain ⟨e', h', eq, seed, q, e3, e4, e5, ⟨⟨r, hr⟩, hq⟩, rfl, rfl⟩ := forL_inv (g := gtName 3) (body := b__law_pool_1) (gd := some (h.length + 1, .lst (ns.map D.int)))
    (fun rest env h' => ∃ (seed : Int) (q : List Int) (e3 e4 e5 : Option D), ((∃ r : List Int, rest = r.map D.int) ∧ q.length + 21 * rest.length ≤ 1323) ∧ env = [some (.fls (ns.map D.int)), some (.ref h.length), some (.int seed), e3, e4, e5] ∧ h' = h ++ [.lst (q.map D.int), .lst (ns.map D.int)])
    (ns.map D.int) [some (.fls (ns.map D.int)), some (.ref h.length), some (.int 7), none, none, none] (h ++ [.lst [], .lst (ns.map D.int)]) ⟨7, [], none, none, none, ⟨⟨ns, rfl⟩, by simp; omega⟩, rfl, rfl⟩
    (fun rest env h' ⟨_, _, _, _, _, _, _, z⟩ => by subst z; simp) (fun x rest env h' => by
      rintro ⟨seed, q, e3, e4, e5, ⟨⟨r, hr⟩, hq⟩, rfl, rfl⟩
      cases r with
      | nil => cases hr
      | cons y r =>
        obtain ⟨rfl, rfl⟩ := List.cons.inj hr
        rw [List.length_cons] at hq
        obtain ⟨q2, seed', e4', e5', l2, eq⟩ := pool_turn h (.lst (ns.map D.int)) (some (.fls (ns.map D.int))) seed y e4 e5 q (by omega)
        exact ⟨_, rfl, _, _, eq, seed', q2, some (.int y), e4', e5', ⟨⟨r, rfl⟩, by omega⟩, rfl, rfl⟩)
  have hc : cutD (ns.map D.int) none (some 63) = ns.map D.int := by
    have := cut_to (xs := ns.map D.int) (n := 63)
    rw [List.take_of_length_le (by simpa using hl)] at this
    exact this
  have hz : 1 + q.length ≤ sizeLine := by rw [sizeLine_eq]; simp at hq; omega
  refine ⟨seed :: q.reverse, .lst (q.map D.int), .lst (ns.map D.int), .lst [.int seed], .lst (q.reverse.map D.int), by simp, by simp at hq ⊢; omega, ?_⟩
  simp [m__law_pool, b__law_pool, hc, eq, hz]
/-! ### draws: the pool at n -/
theorem set_at {h : Hh} {n : Nat} {o u : O} (e : h[n]? = some u) : (h.set n o)[n]? = some o := List.getElem?_set_self (List.getElem?_eq_some_iff.mp e).1
theorem wide_spec {h : Hh} {n : Nat} {m : Int} {p : List Int} (hp : p ≠ []) (hl : p.length ≤ 2000) (e : h[n]? = some (.lst (p.map D.int))) (hm : 0 < m) :
    ∃ (r : Int) (q : List Int), q ≠ [] ∧ q.length ≤ 2000 ∧ 0 ≤ r ∧ r < m ∧ m__law_wide [.ref n, .int m] h = .ok (.int r) (h.set n (.lst (q.map D.int))) := by
  obtain ⟨r1, q1, a1, b1, _, _, e1⟩ := take_spec (m := 1000) hp hl e (by decide)
  obtain ⟨r2, q2, a2, b2, _, _, e2⟩ := take_spec (h := h.set n (.lst (q1.map D.int))) (m := 1000) a1 b1 (set_at e) (by decide)
  refine ⟨(r1 * 1000 + r2) % m, q2, a2, b2, Int.emod_nonneg _ (by omega), Int.emod_lt_of_pos _ hm, ?_⟩
  simp [m__law_wide, b__law_wide, e1, e2, mulOk_r, hm]
theorem edge_spec {h : Hh} {n : Nat} {m : Int} {p : List Int} (hp : p ≠ []) (hl : p.length ≤ 2000) (e : h[n]? = some (.lst (p.map D.int))) (hm : 0 ≤ m) :
    ∃ (r : Int) (q : List Int), q ≠ [] ∧ q.length ≤ 2000 ∧ 0 ≤ r ∧ r ≤ m ∧ m__law_edge [.ref n, .int m] h = .ok (.int r) (h.set n (.lst (q.map D.int))) := by
  obtain ⟨k, q1, a1, b1, k1, k2, e1⟩ := take_spec (m := 6) hp hl e (by decide)
  have e' := set_at (o := .lst (q1.map D.int)) e
  by_cases h0 : k = 0
  · subst h0
    exact ⟨0, q1, a1, b1, by omega, by omega, by simp [m__law_edge, b__law_edge, e1]⟩
  by_cases h1 : k = 1
  · subst h1
    exact ⟨m, q1, a1, b1, by omega, by omega, by simp [m__law_edge, b__law_edge, e1]⟩
  by_cases h2 : k = 2
  · subst h2
    obtain ⟨r2, q2, a2, b2, _, _, e2⟩ := take_spec (m := 3) a1 b1 e' (by decide)
    exact ⟨if m - r2 > 0 then m - r2 else 0, q2, a2, b2, by split <;> omega, by split <;> omega, by simp [m__law_edge, b__law_edge, e1, e2]⟩
  by_cases h3 : k = 3
  · subst h3
    obtain ⟨r2, q2, a2, b2, _, _, e2⟩ := take_spec (m := 8) a1 b1 e' (by decide)
    exact ⟨if r2 < m then r2 else m, q2, a2, b2, by split <;> omega, by split <;> omega, by simp [m__law_edge, b__law_edge, e1, e2]⟩
  obtain ⟨r2, q2, a2, b2, _, _, e2⟩ := wide_spec (m := m + 1) a1 b1 e' (by omega)
  exact ⟨r2, q2, a2, b2, by omega, by omega, by simp [m__law_edge, b__law_edge, e1, e2, h0, h1, h2, h3]⟩
theorem wide_spec' {h : Hh} {n : Nat} {m : Int} {u : O} {p : List Int} (e : h[n]? = some u) (hp : p ≠ []) (hl : p.length ≤ 2000) (hm : 0 < m) :
    ∃ (r : Int) (q : List Int), q ≠ [] ∧ q.length ≤ 2000 ∧ 0 ≤ r ∧ r < m ∧ m__law_wide [.ref n, .int m] (h.set n (.lst (p.map D.int))) = .ok (.int r) (h.set n (.lst (q.map D.int))) := by
  obtain ⟨r, q, a, b, c, d, f⟩ := wide_spec hp hl (set_at e) hm
  exact ⟨r, q, a, b, c, d, by rw [f, List.set_set]⟩
theorem take_spec' {h : Hh} {n : Nat} {m : Int} {u : O} {p : List Int} (e : h[n]? = some u) (hp : p ≠ []) (hl : p.length ≤ 2000) (hm : 0 < m) :
    ∃ (r : Int) (q : List Int), q ≠ [] ∧ q.length ≤ 2000 ∧ 0 ≤ r ∧ r < m ∧ m__law_take [.ref n, .int m] (h.set n (.lst (p.map D.int))) = .ok (.int r) (h.set n (.lst (q.map D.int))) := by
  obtain ⟨r, q, a, b, c, d, f⟩ := take_spec hp hl (set_at e) hm
  exact ⟨r, q, a, b, c, d, by rw [f, List.set_set]⟩
theorem edge_spec' {h : Hh} {n : Nat} {m : Int} {u : O} {p : List Int} (e : h[n]? = some u) (hp : p ≠ []) (hl : p.length ≤ 2000) (hm : 0 ≤ m) :
    ∃ (r : Int) (q : List Int), q ≠ [] ∧ q.length ≤ 2000 ∧ 0 ≤ r ∧ r ≤ m ∧ m__law_edge [.ref n, .int m] (h.set n (.lst (p.map D.int))) = .ok (.int r) (h.set n (.lst (q.map D.int))) := by
  obtain ⟨r, q, a, b, c, d, f⟩ := edge_spec hp hl (set_at e) hm
  exact ⟨r, q, a, b, c, d, by rw [f, List.set_set]⟩
/-- the numbers of a line -/
structure Line where
  (delay expire sent got age hops : Int)
def Line.ds (l : Line) : List D := [.int l.delay, .int l.expire, .int l.sent, .int l.got, .int l.age, .int l.hops]
structure Line.Ok (l : Line) : Prop where
  d0 : 0 ≤ l.delay
  d1 : l.delay ≤ 1000
  e0 : 0 ≤ l.expire
  e1 : l.expire ≤ 100000
  s0 : 0 ≤ l.sent
  s1 : l.sent ≤ 1000000
  g0 : 0 ≤ l.got
  g1 : l.got ≤ 1000000
  a0 : 0 ≤ l.age
  a1 : l.age ≤ 100000
  h0 : 1 ≤ l.hops
  h1 : l.hops ≤ 4
structure Line.Small (l : Line) : Prop where
  d : l.delay ≤ 3
  e : l.expire ≤ 5
  s : l.sent ≤ 21
  g : l.got ≤ 30
  a : l.age ≤ 5
theorem small_spec {h : Hh} {n : Nat} {p : List Int} (hp : p ≠ []) (hl : p.length ≤ 2000) (e : h[n]? = some (.lst (p.map D.int))) :
    ∃ (l : Line) (q : List Int), q ≠ [] ∧ q.length ≤ 2000 ∧ l.Ok ∧ (l.delay ≤ 2 ∧ l.expire ≤ 4 ∧ l.sent ≤ 20 ∧ l.got ≤ 26 ∧ l.age ≤ 4) ∧ m__law_small_line [.ref n] h = .ok (.ref h.length) (h.set n (.lst (q.map D.int)) ++ [.lst l.ds]) := by
  obtain ⟨r1, q1, a1, b1, _, _, e1⟩ := take_spec (m := 3) hp hl e (by decide)
  obtain ⟨r2, q2, a2, b2, _, _, e2⟩ := take_spec' (m := 5) e a1 b1 (by decide)
  obtain ⟨r3, q3, a3, b3, _, _, e3⟩ := take_spec' (m := 21) e a2 b2 (by decide)
  obtain ⟨r4, q4, a4, b4, _, _, e4⟩ := take_spec' (m := 2 * r1 + 5) e a3 b3 (by omega)
  obtain ⟨r5, q5, a5, b5, _, _, e5⟩ := take_spec' (m := 5) e a4 b4 (by decide)
  obtain ⟨r6, q6, a6, b6, _, _, e6⟩ := take_spec' (m := 4) e a5 b5 (by decide)
  refine ⟨⟨r1, r2, r3, if r3 - 2 + r4 > 0 then r3 - 2 + r4 else 0, r5, 1 + r6⟩, q6, a6, b6, ⟨?_, ?_, ?_, ?_, ?_, ?_, ?_, ?_, ?_, ?_, ?_, ?_⟩, ⟨?_, ?_, ?_, ?_, ?_⟩, ?_⟩
  rotate_left 17
  · simp [m__law_small_line, b__law_small_line, e1, e2, e3, e4, e5, e6, mulOk_l, Line.ds]
  all_goals dsimp only
  all_goals first | omega | (split <;> omega)
/-! a line from the whole ranges -/
theorem got_blk {h : Hh} {n : Nat} {u : O} {p : List Int} (e : h[n]? = some u) (hp : p ≠ []) (hl : p.length ≤ 2000) (d s g k : Int) (e2 e6 e7 : Option D) :
    ∃ (g' : Int) (q : List Int), q ≠ [] ∧ q.length ≤ 2000 ∧ ∀ rest : S, sSeq (sIf (tBl (eB opEq (eV 5) (eC (.int 0)))) (sSet 4 (eB opAdd (eB opSub (eB opAdd (eV 3) (eB opMul (eC (.int 2)) (eV 1))) (eC (.int 1))) (eCall m__law_take [(eV 0), (eC (.int 3))]))) sSkip)
    (sSeq (sIf (tBl (eB opEq (eV 5) (eC (.int 1)))) (sSet 4 (eB opAdd (eB opSub (eV 3) (eC (.int 1))) (eCall m__law_take [(eV 0), (eC (.int 3))]))) sSkip)
    (sSeq (sIf (tBl (eB opEq (eV 5) (eC (.int 2)))) (sSet 4 (eCall m__law_edge [(eV 0), (eC (.int 1000000))])) sSkip) rest)) [some (.ref n), some (.int d), e2, some (.int s), some (.int g), some (.int k), e6, e7] (h.set n (.lst (p.map D.int))) =
      rest [some (.ref n), some (.int d), e2, some (.int s), some (.int g'), some (.int k), e6, e7] (h.set n (.lst (q.map D.int))) := by
  obtain ⟨r, q, a, b, _, _, e1⟩ := take_spec' (m := 3) e hp hl (by decide)
  obtain ⟨r2, q2, a2, b2, _, _, e3⟩ := edge_spec' (m := 1000000) e hp hl (by decide)
  by_cases h0 : k = 0
  · subst h0
    exact ⟨s + 2 * d - 1 + r, q, a, b, fun rest => by simp [e1, mulOk_l]⟩
  by_cases h1 : k = 1
  · subst h1
    exact ⟨s - 1 + r, q, a, b, fun rest => by simp [e1]⟩
  by_cases h2 : k = 2
  · subst h2
    exact ⟨r2, q2, a2, b2, fun rest => by simp [e3]⟩
  exact ⟨g, p, hp, hl, fun rest => by simp [h0, h1, h2]⟩
theorem age_blk {h : Hh} {n : Nat} {u : O} {p : List Int} (e : h[n]? = some u) (hp : p ≠ []) (hl : p.length ≤ 2000) (d x s g k hops age : Int) (hd : 0 ≤ d ∧ d ≤ 1000) :
    ∃ (age' : Int) (q : List Int), q ≠ [] ∧ q.length ≤ 2000 ∧ ∀ rest : S, sSeq (sIf (tBl (eB opEq (eV 5) (eC (.int 0)))) (sSet 7 (eC (.int 0))) sSkip)
    (sSeq (sIf (tBl (eB opEq (eV 5) (eC (.int 1)))) (sSet 7 (eB opAdd (eB opSub (eN opMin [(eB opAdd (eV 3) (eV 1)), (eV 4)]) (eC (.int 1))) (eCall m__law_take [(eV 0), (eC (.int 3))]))) sSkip)
    (sSeq (sIf (tBl (eB opEq (eV 5) (eC (.int 2)))) (sSet 7 (eB opAdd (eB opSub (eB opSub (eB opSub (eN opMax [(eV 3), (eB opSub (eV 4) (eV 1))]) (eB opMul (eB opSub (eV 6) (eC (.int 1))) (eV 1))) (eV 2)) (eC (.int 1))) (eCall m__law_take [(eV 0), (eC (.int 3))]))) sSkip) rest)) [some (.ref n), some (.int d), some (.int x), some (.int s), some (.int g), some (.int k), some (.int hops), some (.int age)] (h.set n (.lst (p.map D.int))) =
      rest [some (.ref n), some (.int d), some (.int x), some (.int s), some (.int g), some (.int k), some (.int hops), some (.int age')] (h.set n (.lst (q.map D.int))) := by
  obtain ⟨r, q, a, b, _, _, e1⟩ := take_spec' (m := 3) e hp hl (by decide)
  have hm : mulOk (hops - 1) d = true := mulOk_r (by omega) (by omega)
  by_cases h0 : k = 0
  · subst h0
    exact ⟨0, p, hp, hl, fun rest => by simp⟩
  by_cases h1 : k = 1
  · subst h1
    exact ⟨(if g < s + d then g else s + d) - 1 + r, q, a, b, fun rest => by simp [e1]⟩
  by_cases h2 : k = 2
  · subst h2
    exact ⟨(if g - d > s then g - d else s) - (hops - 1) * d - x - 1 + r, q, a, b, fun rest => by simp [e1, hm]⟩
  exact ⟨age, p, hp, hl, fun rest => by simp [h0, h1, h2]⟩
theorem whole_spec {h : Hh} {n : Nat} {p : List Int} (hp : p ≠ []) (hl : p.length ≤ 2000) (e : h[n]? = some (.lst (p.map D.int))) :
    ∃ (l : Line) (q : List Int), q ≠ [] ∧ q.length ≤ 2000 ∧ l.Ok ∧ m__law_whole_line [.ref n] h = .ok (.ref h.length) (h.set n (.lst (q.map D.int)) ++ [.lst l.ds]) := by
  obtain ⟨d, q1, a1, b1, _, _, e1⟩ := edge_spec (m := 1000) hp hl e (by decide)
  obtain ⟨x, q2, a2, b2, _, _, e2⟩ := edge_spec' (m := 100000) e a1 b1 (by decide)
  obtain ⟨s, q3, a3, b3, _, _, e3⟩ := edge_spec' (m := 1000000) e a2 b2 (by decide)
  obtain ⟨g, q4, a4, b4, _, _, e4⟩ := wide_spec' (m := 2 * d + 1) e a3 b3 (by omega)
  obtain ⟨k, q5, a5, b5, _, _, e5⟩ := take_spec' (m := 6) e a4 b4 (by decide)
  obtain ⟨g', q6, a6, b6, e6⟩ := got_blk e a5 b5 d s (s + g) k (some (.int x)) none none
  obtain ⟨hp', q7, a7, b7, _, _, e7⟩ := take_spec' (m := 4) e a6 b6 (by decide)
  obtain ⟨age, q8, a8, b8, _, _, e8⟩ := edge_spec' (m := 100000) e a7 b7 (by decide)
  obtain ⟨k2, q9, a9, b9, _, _, e9⟩ := take_spec' (m := 5) e a8 b8 (by decide)
  generalize hG : (if 1000000 < (if (0 : Int) > g' then 0 else g') then (1000000 : Int) else (if (0 : Int) > g' then 0 else g')) = G
  obtain ⟨age', q10, a10, b10, e10⟩ := age_blk e a9 b9 d x s G k2 (1 + hp') age ⟨by omega, by omega⟩
  refine ⟨⟨d, x, s, G, if 100000 < (if (0 : Int) > age' then 0 else age') then (100000 : Int) else (if (0 : Int) > age' then 0 else age'), 1 + hp'⟩, q10, a10, b10, ⟨?_, ?_, ?_, ?_, ?_, ?_, ?_, ?_, ?_, ?_, ?_, ?_⟩, ?_⟩
  rotate_left 12
  · simp only [gt_iff_lt] at hG
    simp [m__law_whole_line, b__law_whole_line, e1, e2, e3, e4, e5, ↓e6, e7, e8, e9, ↓e10, mulOk_l, Line.ds, hG]
  all_goals dsimp only
  all_goals first | omega | (subst hG; split <;> split <;> omega) | (split <;> split <;> omega)
theorem get_app {h g : Hh} {n : Nat} {o : O} (e : h[n]? = some o) : (h ++ g)[n]? = some o := by
  rw [List.getElem?_append_left (List.getElem?_eq_some_iff.mp e).1]
  exact e
theorem set_app {h g : Hh} {n : Nat} {o u : O} (e : h[n]? = some o) : (h ++ g).set n u = h.set n u ++ g := List.set_append_left _ _ (List.getElem?_eq_some_iff.mp e).1
theorem moved_spec {h : Hh} {n l : Nat} {p : List Int} {L : Line} (hp : p ≠ []) (hl : p.length ≤ 2000) (e : h[n]? = some (.lst (p.map D.int))) (el : h[l]? = some (.lst L.ds)) (hnl : n ≠ l) (ok : L.Ok) :
    ∃ (L' : Line) (q : List Int) (a b : O), q ≠ [] ∧ q.length ≤ 2000 ∧ L'.Ok ∧ (L.delay ≤ 2 ∧ L.expire ≤ 4 ∧ L.sent ≤ 20 ∧ L.got ≤ 26 ∧ L.age ≤ 4 → L'.Small) ∧
      m__law_moved [.ref n, .ref l] h = .ok (.ref (h.length + 2)) (h.set n (.lst (q.map D.int)) ++ [a, b, .lst L'.ds]) := by
  obtain ⟨d0, d1, e0, e1', s0, s1, g0, g1, a0, a1', h0, h1⟩ := ok
  obtain ⟨k, q1, a1, b1, k0, k6, e1⟩ := take_spec (h := h ++ [.lst [.int 0, .int 0, .int 0, .int 0, .int 0, .int 1], .lst [.int 1000, .int 100000, .int 1000000, .int 1000000, .int 100000, .int 4]]) (m := 6) hp hl (get_app e) (by decide)
  obtain ⟨r, q2, a2, b2, r0, r1, e2⟩ := take_spec (h := h.set n (.lst (q1.map D.int)) ++ [.lst [.int 0, .int 0, .int 0, .int 0, .int 0, .int 1], .lst [.int 1000, .int 100000, .int 1000000, .int 1000000, .int 100000, .int 4]]) (m := 2) a1 b1 (get_app (set_at e)) (by decide)
  rw [set_app e] at e1
  rw [set_app (set_at e), List.set_set] at e2
  have f1 : (h.set n (.lst (q1.map D.int)))[l]? = some (.lst L.ds) := by rw [List.getElem?_set_ne hnl]; exact el
  have f2 : (h.set n (.lst (q2.map D.int)))[l]? = some (.lst L.ds) := by rw [List.getElem?_set_ne hnl]; exact el
  have hk : k = 0 ∨ k = 1 ∨ k = 2 ∨ k = 3 ∨ k = 4 ∨ k = 5 := by omega
  have fin : ∀ (L' : Line), L'.Ok → (L.delay ≤ 2 ∧ L.expire ≤ 4 ∧ L.sent ≤ 20 ∧ L.got ≤ 26 ∧ L.age ≤ 4 → L'.Small) → m__law_moved [.ref n, .ref l] h = .ok (.ref (h.length + 2)) (h.set n (.lst (q2.map D.int)) ++ [.lst [.int 0, .int 0, .int 0, .int 0, .int 0, .int 1], .lst [.int 1000, .int 100000, .int 1000000, .int 1000000, .int 100000, .int 4], .lst L'.ds]) →
    ∃ (L' : Line) (q : List Int) (a b : O), q ≠ [] ∧ q.length ≤ 2000 ∧ L'.Ok ∧ (L.delay ≤ 2 ∧ L.expire ≤ 4 ∧ L.sent ≤ 20 ∧ L.got ≤ 26 ∧ L.age ≤ 4 → L'.Small) ∧
      m__law_moved [.ref n, .ref l] h = .ok (.ref (h.length + 2)) (h.set n (.lst (q.map D.int)) ++ [a, b, .lst L'.ds]) := fun L' z1 z2 z3 => ⟨L', q2, _, _, a2, b2, z1, z2, z3⟩
  rcases hk with rfl | rfl | rfl | rfl | rfl | rfl
  · refine fin ⟨if 1000 < (if 0 > L.delay - 1 + 2 * r then 0 else L.delay - 1 + 2 * r) then 1000 else (if 0 > L.delay - 1 + 2 * r then 0 else L.delay - 1 + 2 * r), L.expire, L.sent, L.got, L.age, L.hops⟩ ?_ (fun z => ?_) ?_
    · constructor <;> dsimp only <;> first | omega | (split <;> split <;> omega)
    · constructor <;> dsimp only <;> first | omega | (split <;> split <;> omega)
    · simp [m__law_moved, b__law_moved, e1, e2, get_app f1, get_app f2, Line.ds, atI, ixN, mulOk_l]
  · refine fin ⟨L.delay, if 100000 < (if 0 > L.expire - 1 + 2 * r then 0 else L.expire - 1 + 2 * r) then 100000 else (if 0 > L.expire - 1 + 2 * r then 0 else L.expire - 1 + 2 * r), L.sent, L.got, L.age, L.hops⟩ ?_ (fun z => ?_) ?_
    · constructor <;> dsimp only <;> first | omega | (split <;> split <;> omega)
    · constructor <;> dsimp only <;> first | omega | (split <;> split <;> omega)
    · simp [m__law_moved, b__law_moved, e1, e2, get_app f1, get_app f2, Line.ds, atI, ixN, mulOk_l]
  · refine fin ⟨L.delay, L.expire, if 1000000 < (if 0 > L.sent - 1 + 2 * r then 0 else L.sent - 1 + 2 * r) then 1000000 else (if 0 > L.sent - 1 + 2 * r then 0 else L.sent - 1 + 2 * r), L.got, L.age, L.hops⟩ ?_ (fun z => ?_) ?_
    · constructor <;> dsimp only <;> first | omega | (split <;> split <;> omega)
    · constructor <;> dsimp only <;> first | omega | (split <;> split <;> omega)
    · simp [m__law_moved, b__law_moved, e1, e2, get_app f1, get_app f2, Line.ds, atI, ixN, mulOk_l]
  · refine fin ⟨L.delay, L.expire, L.sent, if 1000000 < (if 0 > L.got - 1 + 2 * r then 0 else L.got - 1 + 2 * r) then 1000000 else (if 0 > L.got - 1 + 2 * r then 0 else L.got - 1 + 2 * r), L.age, L.hops⟩ ?_ (fun z => ?_) ?_
    · constructor <;> dsimp only <;> first | omega | (split <;> split <;> omega)
    · constructor <;> dsimp only <;> first | omega | (split <;> split <;> omega)
    · simp [m__law_moved, b__law_moved, e1, e2, get_app f1, get_app f2, Line.ds, atI, ixN, mulOk_l]
  · refine fin ⟨L.delay, L.expire, L.sent, L.got, if 100000 < (if 0 > L.age - 1 + 2 * r then 0 else L.age - 1 + 2 * r) then 100000 else (if 0 > L.age - 1 + 2 * r then 0 else L.age - 1 + 2 * r), L.hops⟩ ?_ (fun z => ?_) ?_
    · constructor <;> dsimp only <;> first | omega | (split <;> split <;> omega)
    · constructor <;> dsimp only <;> first | omega | (split <;> split <;> omega)
    · simp [m__law_moved, b__law_moved, e1, e2, get_app f1, get_app f2, Line.ds, atI, ixN, mulOk_l]
  · refine fin ⟨L.delay, L.expire, L.sent, L.got, L.age, if 4 < (if 1 > L.hops - 1 + 2 * r then 1 else L.hops - 1 + 2 * r) then 4 else (if 1 > L.hops - 1 + 2 * r then 1 else L.hops - 1 + 2 * r)⟩ ?_ (fun z => ?_) ?_
    · constructor <;> dsimp only <;> first | omega | (split <;> split <;> omega)
    · constructor <;> dsimp only <;> first | omega | (split <;> split <;> omega)
    · simp [m__law_moved, b__law_moved, e1, e2, get_app f1, get_app f2, Line.ds, atI, ixN, mulOk_l]
/-! what the program answers -/
def win (L : Line) : Option (Int × Int) :=
  if (if L.got - L.delay > L.sent then L.got - L.delay else L.sent) > (if L.got < L.sent + L.delay then L.got else L.sent + L.delay) ∨ (L.hops = 1 ∧ L.age > 0) ∨ (if L.got < L.sent + L.delay then L.got else L.sent + L.delay) - L.age < 0 then none
  else some (if (if L.got - L.delay > L.sent then L.got - L.delay else L.sent) - L.age - (L.hops - 1) * L.delay - L.expire > 0 then (if L.got - L.delay > L.sent then L.got - L.delay else L.sent) - L.age - (L.hops - 1) * L.delay - L.expire else 0, (if L.got < L.sent + L.delay then L.got else L.sent + L.delay) - L.age)
def wd : Option (Int × Int) → D
  | none => .non
  | some (a, b) => .tup [.int a, .int b]
theorem isint_spec (i : Int) (h : Hh) : m_is_integer [.int i] h = .ok (.bl true) h := by simp [m_is_integer, b_is_integer]
theorem between_spec (i a b : Int) (h : Hh) (h1 : a ≤ i) (h2 : i ≤ b) : m_is_between [.int i, .int a, .int b] h = .ok (.bl true) h := by simp [m_is_between, b_is_between, isint_spec, h1, h2]
theorem check_spec (L : Line) (ok : L.Ok) (h : Hh) : m_check_line [.tup [.int L.delay, .int L.expire], .int L.sent, .int L.got, .int L.age, .int L.hops] h = .ok .non h := by
  obtain ⟨d0, d1, e0, e1', s0, s1, g0, g1, a0, a1', h0, h1⟩ := ok
  simp [m_check_line, b_check_line, atI, ixN, between_spec, *]
theorem told_spec (d x s g : Int) (h : Hh) : m_last_told [.tup [.int d, .int x], .int s, .int g] h = .ok (.tup [.int (if g - d > s then g - d else s), .int (if g < s + d then g else s + d)]) h := by
  simp [m_last_told, b_last_told, atI, ixN]
theorem window_spec (L : Line) (ok : L.Ok) (h : Hh) : m_window_of [.tup [.int L.delay, .int L.expire], .int L.sent, .int L.got, .int L.age, .int L.hops] h = .ok (wd (win L)) h := by
  have hm : mulOk (L.hops - 1) L.delay = true := mulOk_r (by have := ok.d0; omega) (by have := ok.d1; omega)
  have c := check_spec L ok h
  unfold win
  generalize hA : (if L.got - L.delay > L.sent then L.got - L.delay else L.sent) = A
  generalize hB : (if L.got < L.sent + L.delay then L.got else L.sent + L.delay) = B
  have gt : ∀ {i j : Int}, i > j ↔ j < i := Iff.rfl
  simp only [gt] at hA hB ⊢
  by_cases h1 : B < A
  · simp [m_window_of, b_window_of, c, told_spec, hA, hB, h1, wd]
  by_cases h2 : L.hops = 1
  · rw [h2] at c
    by_cases h3 : 0 < L.age
    · simp [m_window_of, b_window_of, c, told_spec, hA, hB, h1, h2, h3, wd]
    · by_cases h4 : B - L.age < 0
      · simp [m_window_of, b_window_of, c, told_spec, hA, hB, h1, h2, h3, h4, wd]
      · simp [m_window_of, b_window_of, c, told_spec, hA, hB, h1, h2, h3, h4, wd, atI, ixN, mulOk_l]
  · by_cases h4 : B - L.age < 0
    · simp [m_window_of, b_window_of, c, told_spec, hA, hB, h1, h2, h4, wd]
    · simp [m_window_of, b_window_of, c, told_spec, hA, hB, h1, h2, h4, wd, atI, ixN, hm]
theorem formula_spec (L : Line) (ok : L.Ok) (h : Hh) (l : Nat) (e : h[l]? = some (.lst L.ds)) : m__law_formula [.ref l] h = .ok (wd (win L)) h := by
  have hm : mulOk (L.hops - 1) L.delay = true := mulOk_r (by have := ok.d0; omega) (by have := ok.d1; omega)
  unfold win
  generalize hA : (if L.got - L.delay > L.sent then L.got - L.delay else L.sent) = A
  generalize hB : (if L.got < L.sent + L.delay then L.got else L.sent + L.delay) = B
  have gt : ∀ {i j : Int}, i > j ↔ j < i := Iff.rfl
  simp only [gt] at hA hB ⊢
  by_cases h1 : B < A
  · simp [m__law_formula, b__law_formula, e, Line.ds, hA, hB, h1, wd]
  by_cases h2 : L.hops = 1
  · by_cases h3 : 0 < L.age
    · simp [m__law_formula, b__law_formula, e, Line.ds, hA, hB, h1, h2, h3, wd]
    · by_cases h4 : B - L.age < 0
      · simp [m__law_formula, b__law_formula, e, Line.ds, hA, hB, h1, h2, h3, h4, wd]
      · simp [m__law_formula, b__law_formula, e, Line.ds, hA, hB, h1, h2, h3, h4, wd, mulOk_l]
  · by_cases h4 : B - L.age < 0
    · simp [m__law_formula, b__law_formula, e, Line.ds, hA, hB, h1, h2, h4, wd]
    · simp [m__law_formula, b__law_formula, e, Line.ds, hA, hB, h1, h2, h4, wd, hm]
theorem same_spec (w : Option (Int × Int)) (h : Hh) : m__law_same [wd w, wd w] h = .ok (.bl true) h := by
  cases w with
  | none => simp [m__law_same, b__law_same, wd]
  | some w =>
    obtain ⟨a, b⟩ := w
    have he : opEq (.tup [.int a, .int b]) (.tup [.int a, .int b]) h = some (.bl true, h) := by
      have h1 : SeqAt.shaped (.tuple [.int a, .int b]) = true := rfl
      have h2 : PyData.eqv (.tuple [.int a, .int b]) (.tuple [.int a, .int b]) = true := by simp [PyData.eqv, PyData.eqvAll]
      simp [opEq, opEqB, eqP, toP, h1, h2]
    obtain ⟨e', h', eq, rfl, ⟨x, rfl⟩, _⟩ := forL_inv (g := gtName 2) (body := b__law_same_1) (gd := none)
      (fun rest env h' => h' = h ∧ (∃ x : Option D, env = [some (.tup [.int a, .int b]), some (.tup [.int a, .int b]), x]) ∧ ∀ d ∈ rest, ∃ i : Int, d = .int i)
      [.int a, .int b] [some (.tup [.int a, .int b]), some (.tup [.int a, .int b]), none] h ⟨rfl, ⟨none, rfl⟩, by simp⟩ (fun _ _ _ _ => trivial) (fun x rest env h' => by
        rintro ⟨rfl, ⟨y, rfl⟩, hr⟩
        obtain ⟨i, rfl⟩ := hr x (by simp)
        exact ⟨_, rfl, [some (.tup [.int a, .int b]), some (.tup [.int a, .int b]), some (.int i)], h', by simp [b__law_same_1], rfl, ⟨_, rfl⟩, fun d hd => hr d (by simp [hd])⟩)
    simp [m__law_same, b__law_same, wd, eq, he]
end Lk25
namespace Lk25
open PySem L2 PyProof.Rows Sm

/-! ### the search: pairs of ints in a dict -/
abbrev Pr := Int × Int
def pD (p : Pr) : D := .tup [.int p.1, .int p.2]
def kP (p : Pr) : List Key := [.inl p.1, .inl p.2]
def enc (ps : List Pr) : List (List Key × D) := ps.map fun p => (kP p, .bl true)
def ins (ps : List Pr) (p : Pr) : List Pr := if p ∈ ps then ps else ps ++ [p]
theorem kP_inj {p q : Pr} (h : kP p = kP q) : p = q := by
  obtain ⟨a, b⟩ := p
  obtain ⟨c, d⟩ := q
  simp [kP] at h
  rw [h.1, h.2]
theorem put_enc (ps : List Pr) (p : Pr) : putP (enc ps) (kP p) (.bl true) = enc (ins ps p) := by
  have h1 : ((enc ps).any fun kv => decide (kv.1 = kP p)) = decide (p ∈ ps) := by
    induction ps with
    | nil => rfl
    | cons q r ih =>
      simp only [enc, List.map_cons, List.any_cons] at ih ⊢
      rw [ih]
      by_cases e : q = p
      · subst e; simp
      · have e' : ¬ kP q = kP p := fun z => e (kP_inj z)
        have e2 : ¬ p = q := fun z => e z.symm
        simp [e', e2]
  unfold putP ins
  rw [h1]
  by_cases h : p ∈ ps
  · rw [if_pos (decide_eq_true h), if_pos h]
    unfold enc
    rw [List.map_map]
    apply List.map_congr_left
    intro a _
    simp only [Function.comp]
    split
    · rename_i e; rw [e]
    · rfl
  · rw [decide_eq_false h, if_neg h, if_neg (by decide)]
    unfold enc
    rw [List.map_append]
    rfl
theorem mem_ins {ps : List Pr} {p q : Pr} : q ∈ ins ps p ↔ q ∈ ps ∨ q = p := by
  unfold ins
  split
  · rename_i h
    constructor
    · exact Or.inl
    · rintro (z | rfl)
      · exact z
      · exact h
  · simp
theorem len_ins (ps : List Pr) (p : Pr) : (ins ps p).length ≤ ps.length + 1 := by
  unfold ins
  split
  · omega
  · simp
/-- the turns of the loops of one hop -/
def uT (m k more : Int) (ps : List Pr) (tr : Int) : List Pr := if 0 ≤ m - more - tr then ins ps (m - more - tr, k + more) else ps
def uM (d m k : Int) (ps : List Pr) (more : Int) : List Pr := (upto (d + 1).toNat).foldl (uT m k more) ps
def uK (d age : Int) (ps : List Pr) (q : Pr) : List Pr := (upto (age - q.2 + 1).toNat).foldl (uM d q.1 q.2) ps
def hopP (d age : Int) (told : List Pr) : List Pr := told.foldl (uK d age) []
theorem mem_foldl {α : Type} {u : List Pr → α → List Pr} {C : α → Pr → Prop} (hu : ∀ ps a q, q ∈ u ps a ↔ q ∈ ps ∨ C a q) : ∀ (xs : List α) (ps : List Pr) (q : Pr), q ∈ xs.foldl u ps ↔ q ∈ ps ∨ ∃ a ∈ xs, C a q
  | [], ps, q => by simp
  | x :: xs, ps, q => by
    rw [List.foldl_cons, mem_foldl hu xs, hu]
    simp [or_assoc]
theorem len_foldl {α : Type} {u : List Pr → α → List Pr} {c : Nat} (hu : ∀ ps a, (u ps a).length ≤ ps.length + c) : ∀ (xs : List α) (ps : List Pr), (xs.foldl u ps).length ≤ ps.length + c * xs.length
  | [], ps => by simp
  | x :: xs, ps => by
    rw [List.foldl_cons, List.length_cons, Nat.mul_add]
    have h1 := len_foldl hu xs (u ps x)
    have h2 := hu ps x
    omega
theorem mem_uT {m k more : Int} (ps : List Pr) (tr : Int) (q : Pr) : q ∈ uT m k more ps tr ↔ q ∈ ps ∨ (0 ≤ m - more - tr ∧ q = (m - more - tr, k + more)) := by
  unfold uT
  split
  · rename_i h
    rw [mem_ins]
    exact ⟨fun z => z.imp id fun y => ⟨h, y⟩, fun z => z.imp id And.right⟩
  · rename_i h
    exact ⟨Or.inl, fun z => z.elim id fun y => absurd y.1 h⟩
theorem mem_uM {d m k : Int} (ps : List Pr) (more : Int) (q : Pr) : q ∈ uM d m k ps more ↔ q ∈ ps ∨ ∃ tr ∈ upto (d + 1).toNat, 0 ≤ m - more - tr ∧ q = (m - more - tr, k + more) := mem_foldl (fun ps a q => mem_uT ps a q) _ _ _
theorem mem_uK {d age : Int} (ps : List Pr) (p q : Pr) : q ∈ uK d age ps p ↔ q ∈ ps ∨ ∃ more ∈ upto (age - p.2 + 1).toNat, ∃ tr ∈ upto (d + 1).toNat, 0 ≤ p.1 - more - tr ∧ q = (p.1 - more - tr, p.2 + more) := mem_foldl (fun ps a q => mem_uM ps a q) _ _ _
theorem mem_hop {d age : Int} (told : List Pr) (q : Pr) : q ∈ hopP d age told ↔ ∃ p ∈ told, ∃ more ∈ upto (age - p.2 + 1).toNat, ∃ tr ∈ upto (d + 1).toNat, 0 ≤ p.1 - more - tr ∧ q = (p.1 - more - tr, p.2 + more) := by
  unfold hopP
  rw [mem_foldl (fun ps a q => mem_uK ps a q)]
  simp
/-- what one hop leads to -/
theorem hop_step {d age A B J : Int} {told : List Pr} {z : Bool} (hd : 0 ≤ d) (ha : 0 ≤ age) (hJ : 0 ≤ J)
    (h : ∀ m k, (m, k) ∈ told ↔ (0 ≤ k ∧ k ≤ age ∧ (z = true → k = 0) ∧ 0 ≤ m ∧ A - k - J ≤ m ∧ m ≤ B - k ∧ A ≤ B)) (m k : Int) :
    (m, k) ∈ hopP d age told ↔ (0 ≤ k ∧ k ≤ age ∧ 0 ≤ m ∧ A - k - (J + d) ≤ m ∧ m ≤ B - k ∧ A ≤ B) := by
  rw [mem_hop]
  constructor
  · rintro ⟨⟨m0, k0⟩, hp, more, hm, tr, ht, h0, e⟩
    rw [h] at hp
    rw [mem_upto] at hm ht
    simp only [Prod.mk.injEq] at e
    simp only at hm h0 e
    omega
  · rintro ⟨h1, h2, h3, h4, h5, h6⟩
    by_cases c : A - J ≤ m + k
    · refine ⟨(m + k, 0), (h _ _).mpr ⟨by omega, by omega, fun _ => rfl, by omega, by omega, by omega, h6⟩, k, mem_upto.mpr ⟨h1, by dsimp only; omega⟩, 0, mem_upto.mpr ⟨by omega, by omega⟩, by dsimp only; omega, ?_⟩
      simp only [Prod.mk.injEq]
      omega
    · refine ⟨(A - J, 0), (h _ _).mpr ⟨by omega, by omega, fun _ => rfl, by omega, by omega, by omega, h6⟩, k, mem_upto.mpr ⟨h1, by dsimp only; omega⟩, A - J - k - m, mem_upto.mpr ⟨by omega, by omega⟩, by dsimp only; omega, ?_⟩
      simp only [Prod.mk.injEq]
      omega
theorem len_uT (m k more : Int) (ps : List Pr) (tr : Int) : (uT m k more ps tr).length ≤ ps.length + 1 := by
  unfold uT
  split
  · exact len_ins _ _
  · omega
theorem len_uM {d : Int} (hd : d ≤ 3) (m k : Int) (ps : List Pr) (more : Int) : (uM d m k ps more).length ≤ ps.length + 4 := by
  have h := len_foldl (c := 1) (u := uT m k more) (fun ps a => len_uT m k more ps a) (upto (d + 1).toNat) ps
  rw [len_upto] at h
  unfold uM
  omega
theorem len_uK {d age : Int} (hd : d ≤ 3) (ha : age ≤ 5) (ps : List Pr) (q : Pr) (hq : 0 ≤ q.2) : (uK d age ps q).length ≤ ps.length + 24 := by
  have h := len_foldl (c := 4) (u := uM d q.1 q.2) (fun ps a => len_uM hd q.1 q.2 ps a) (upto (age - q.2 + 1).toNat) ps
  rw [len_upto] at h
  unfold uK
  omega
/-- the frame of the search -/
def fr (l : Nat) (L : Line) (told mom hop mts row ear kept lag more tr : Option D) : Ev :=
  [some (.ref l), told, mom, hop, mts, row, some (.int L.delay), some (.int L.expire), some (.int L.sent), some (.int L.got), some (.int L.age), some (.int L.hops), ear, kept, lag, more, tr]
theorem tr_loop {B : Hh} (l : Nat) (L : Line) (told hop mts row lag tr : Option D) (m k more : Int) (ps : List Pr) (xs : List Int) (hl : ps.length + xs.length ≤ 1000000) :
    ∃ tr', forL (gtName 16) b__law_search_5 none (xs.map D.int) (fr l L told (some (.int m)) hop mts row (some (.ref B.length)) (some (.int k)) lag (some (.int more)) tr) (B ++ [.dT (enc ps)]) =
      .nx (fr l L told (some (.int m)) hop mts row (some (.ref B.length)) (some (.int k)) lag (some (.int more)) tr') (B ++ [.dT (enc (xs.foldl (uT m k more) ps))]) := by
  obtain ⟨e', h', eq, ⟨tr', rfl⟩, rfl⟩ := forL_fold (g := gtName 16) (body := b__law_search_5) (gd := none) D.int (uT m k more)
    (fun qs env h => (∃ tr' : Option D, env = fr l L told (some (.int m)) hop mts row (some (.ref B.length)) (some (.int k)) lag (some (.int more)) tr') ∧ h = B ++ [.dT (enc qs)]) (fun _ _ _ _ => trivial) ps xs _ _ ⟨⟨tr, rfl⟩, rfl⟩
    (fun pre x post env h hx => by
      rintro ⟨⟨t, rfl⟩, rfl⟩
      refine ⟨_, rfl, fr l L told (some (.int m)) hop mts row (some (.ref B.length)) (some (.int k)) lag (some (.int more)) (some (.int x)), B ++ [.dT (enc (uT m k more (pre.foldl (uT m k more) ps) x))], ?_, ⟨_, rfl⟩, rfl⟩
      have h1 := len_foldl (c := 1) (u := uT m k more) (fun ps a => len_uT m k more ps a) pre ps
      have h2 : pre.length ≤ xs.length := by rw [hx]; simp
      have h3 : (enc (pre.foldl (uT m k more) ps)).length < sizeLine := by unfold enc; rw [List.length_map, sizeLine_eq]; omega
      have h4 := put_enc (pre.foldl (uT m k more) ps) (m - more - x, k + more)
      have hK : isK [.int (m - more - x), .int (k + more)] = false := rfl
      by_cases c : 0 ≤ m - more - x
      · simp only [kP] at h4
        have c' : x ≤ m - more := by omega
        simp [b__law_search_5, fr, uT, c', hK, h3, h4, keysOf]
      · have c' : ¬ x ≤ m - more := by omega
        simp [b__law_search_5, fr, uT, c'])
  exact ⟨tr', eq⟩
theorem more_loop {B : Hh} (l : Nat) (L : Line) (ok : L.Ok) (sm : L.Small) (told hop mts row lag more tr : Option D) (m k : Int) (ps : List Pr) (xs : List Int) (hl : ps.length + 4 * xs.length ≤ 900000) :
    ∃ more' tr', forL (gtName 15) b__law_search_4 none (xs.map D.int) (fr l L told (some (.int m)) hop mts row (some (.ref B.length)) (some (.int k)) lag more tr) (B ++ [.dT (enc ps)]) =
      .nx (fr l L told (some (.int m)) hop mts row (some (.ref B.length)) (some (.int k)) lag more' tr') (B ++ [.dT (enc (xs.foldl (uM L.delay m k) ps))]) := by
  obtain ⟨e', h', eq, ⟨more', tr', rfl⟩, rfl⟩ := forL_fold (g := gtName 15) (body := b__law_search_4) (gd := none) D.int (uM L.delay m k)
    (fun qs env h => (∃ more' tr' : Option D, env = fr l L told (some (.int m)) hop mts row (some (.ref B.length)) (some (.int k)) lag more' tr') ∧ h = B ++ [.dT (enc qs)]) (fun _ _ _ _ => trivial) ps xs _ _ ⟨⟨more, tr, rfl⟩, rfl⟩
    (fun pre x post env h hx => by
      rintro ⟨⟨mo, t, rfl⟩, rfl⟩
      have h1 := len_foldl (c := 4) (u := uM L.delay m k) (fun ps a => len_uM sm.d m k ps a) pre ps
      have h2 : pre.length ≤ xs.length := by rw [hx]; simp
      have h5 := sm.d
      have h6 := ok.d0
      obtain ⟨t', e⟩ := tr_loop (B := B) l L told hop mts row lag t m k x (pre.foldl (uM L.delay m k) ps) (upto (L.delay + 1).toNat) (by rw [len_upto]; omega)
      rw [← rngD_upto] at e
      refine ⟨_, rfl, fr l L told (some (.int m)) hop mts row (some (.ref B.length)) (some (.int k)) lag (some (.int x)) t', B ++ [.dT (enc (uM L.delay m k (pre.foldl (uM L.delay m k) ps) x))], ?_, ⟨_, _, rfl⟩, rfl⟩
      have hr : Sm.inR (L.delay + 1) = true := by unfold Sm.inR; simp; omega
      unfold uM at e ⊢
      simp only [fr] at e ⊢
      simp [b__law_search_4, hr, e])
  exact ⟨more', tr', eq⟩
theorem len_hop {d age : Int} (hd : d ≤ 3) (ha : age ≤ 5) : ∀ (ys : List Pr) (ps : List Pr), (∀ y ∈ ys, 0 ≤ y.2) → (ys.foldl (uK d age) ps).length ≤ ps.length + 24 * ys.length := by
  intro ys
  induction ys with
  | nil => intro ps _; simp
  | cons y ys ih =>
    intro ps hy
    rw [List.foldl_cons, List.length_cons]
    have a1 := ih (uK d age ps y) (fun z hz => hy z (by simp [hz]))
    have a2 := len_uK hd ha ps y (hy y (by simp))
    omega
theorem told_loop {B : Hh} (l t : Nat) (L : Line) (ok : L.Ok) (sm : L.Small) (hop mts row lag mom kept more tr : Option D) (qs : List Pr) (hq : ∀ q ∈ qs, 0 ≤ q.2 ∧ q.2 ≤ L.age) (ht : B[t]? = some (.lst (qs.map pD))) (hl : 24 * qs.length ≤ 850000) :
    ∃ mom' kept' more' tr', forL (gtTup [2, 13]) b__law_search_3 (some (t, .lst (qs.map pD))) (qs.map pD) (fr l L (some (.ref t)) mom hop mts row (some (.ref B.length)) kept lag more tr) (B ++ [.dT []]) =
      .nx (fr l L (some (.ref t)) mom' hop mts row (some (.ref B.length)) kept' lag more' tr') (B ++ [.dT (enc (hopP L.delay L.age qs))]) := by
  obtain ⟨e', h', eq, ⟨mom', kept', more', tr', rfl⟩, rfl⟩ := forL_fold (g := gtTup [2, 13]) (body := b__law_search_3) (gd := some (t, .lst (qs.map pD))) pD (uK L.delay L.age)
    (fun zs env h => (∃ mom' kept' more' tr' : Option D, env = fr l L (some (.ref t)) mom' hop mts row (some (.ref B.length)) kept' lag more' tr') ∧ h = B ++ [.dT (enc zs)]) (fun s env h ⟨_, z⟩ => by subst z; exact get_app ht) [] qs _ _ ⟨⟨mom, kept, more, tr, rfl⟩, rfl⟩
    (fun pre q post env h hx => by
      rintro ⟨⟨mo, ke, mr, t2, rfl⟩, rfl⟩
      have hin : q ∈ qs := by rw [hx]; simp
      obtain ⟨q0, q1⟩ := hq q hin
      have h2 : pre.length ≤ qs.length := by rw [hx]; simp
      have h1 : (pre.foldl (uK L.delay L.age) []).length ≤ 24 * pre.length := by
        have := len_hop sm.d sm.a pre [] (fun y hy => (hq y (by rw [hx]; simp [hy])).1)
        simpa using this
      obtain ⟨m, k⟩ := q
      have h5 := sm.a
      obtain ⟨mr', t', e⟩ := more_loop (B := B) l L ok sm (some (.ref t)) hop mts row lag mr t2 m k (pre.foldl (uK L.delay L.age) []) (upto (L.age - k + 1).toNat) (by rw [len_upto]; simp only at q0 q1; omega)
      rw [← rngD_upto] at e
      refine ⟨fr l L (some (.ref t)) (some (.int m)) hop mts row (some (.ref B.length)) (some (.int k)) lag mr t2, by simp [pD, fr], fr l L (some (.ref t)) (some (.int m)) hop mts row (some (.ref B.length)) (some (.int k)) lag mr' t', B ++ [.dT (enc (uK L.delay L.age (pre.foldl (uK L.delay L.age) []) (m, k)))], ?_, ⟨_, _, _, _, rfl⟩, rfl⟩
      have h6 := ok.a0
      simp only at q0 q1
      have hr : Sm.inR (L.age - k + 1) = true := by unfold Sm.inR; simp; omega
      unfold uK at e ⊢
      simp only [fr] at e ⊢
      simp [b__law_search_3, hr, e])
  exact ⟨mom', kept', more', tr', eq⟩
/-- what a list of pairs is after the hops -/
structure Told (L : Line) (A B J : Int) (z : Bool) (qs : List Pr) : Prop where
  mem : ∀ m k, (m, k) ∈ qs ↔ (0 ≤ k ∧ k ≤ L.age ∧ (z = true → k = 0) ∧ 0 ≤ m ∧ A - k - J ≤ m ∧ m ≤ B - k ∧ A ≤ B)
theorem hop_loop (l : Nat) (L : Line) (ok : L.Ok) (sm : L.Small) (A B : Int) (mts row lag : Option D) : ∀ (xs : List D) (t : Nat) (H : Hh) (J : Int) (z : Bool) (qs : List Pr) (mom hop ear kept more tr : Option D) (c : Nat),
    0 ≤ J → Told L A B J z qs → H[t]? = some (.lst (qs.map pD)) → qs.length ≤ c → c * 24 ^ xs.length ≤ 850000 →
    ∃ (t' : Nat) (g : Hh) (qs' : List Pr) (mom' hop' ear' kept' more' tr' : Option D) , forL (gtName 3) b__law_search_2 none xs (fr l L (some (.ref t)) mom hop mts row ear kept lag more tr) H =
      .nx (fr l L (some (.ref t')) mom' hop' mts row ear' kept' lag more' tr') (H ++ g) ∧ Told L A B (J + xs.length * L.delay) (z && xs.isEmpty) qs' ∧ (H ++ g)[t']? = some (.lst (qs'.map pD)) ∧ qs'.length ≤ 850000
  | [], t, H, J, z, qs, mom, hop, ear, kept, more, tr, c, hJ, T, e, hc, hl => ⟨t, [], qs, mom, hop, ear, kept, more, tr, by simp [forL], by simpa using T, by simpa using e, by simp at hl; omega⟩
  | x :: xs, t, H, J, z, qs, mom, hop, ear, kept, more, tr, c, hJ, T, e, hc, hl => by
    have hc24 : c * 24 * 24 ^ xs.length ≤ 850000 := by
      rw [List.length_cons, Nat.pow_succ] at hl
      rw [Nat.mul_assoc, Nat.mul_comm 24]
      exact hl
    have hp : 0 < 24 ^ xs.length := Nat.pow_pos (by decide)
    have hb : c * 24 ≤ 850000 := Nat.le_trans (Nat.le_mul_of_pos_right _ hp) hc24
    obtain ⟨mom', kept', more', tr', el⟩ := told_loop (B := H) l t L ok sm (some x) mts row lag mom kept more tr qs (fun q hq => by
      obtain ⟨m, k⟩ := q
      have := (T.mem m k).mp hq
      exact ⟨this.1, this.2.1⟩) e (by omega)
    have hb2 : b__law_search_2 (fr l L (some (.ref t)) mom (some x) mts row ear kept lag more tr) H = .nx (fr l L (some (.ref (H.length + 1))) mom' (some x) mts row (some (.ref H.length)) kept' lag more' tr') (H ++ [.dT (enc (hopP L.delay L.age qs)), .lst ((hopP L.delay L.age qs).map pD)]) := by
      have hk : (enc (hopP L.delay L.age qs)).map (fun kv => D.tup (kv.1.map kD)) = (hopP L.delay L.age qs).map pD := by
        unfold enc
        rw [List.map_map]
        apply List.map_congr_left
        intro a _
        rfl
      simp only [fr] at el ⊢
      simp [b__law_search_2, get_app e, el, hk]
    have T' : Told L A B (J + L.delay) false (hopP L.delay L.age qs) := ⟨fun m k => by
      rw [hop_step ok.d0 ok.a0 hJ T.mem m k]
      simp⟩
    have hlen : (hopP L.delay L.age qs).length ≤ c * 24 := by
      have := len_hop sm.d sm.a qs [] (fun q hq => by
        obtain ⟨m, k⟩ := q
        exact ((T.mem m k).mp hq).1)
      simp at this
      unfold hopP
      omega
    obtain ⟨t', g, qs', mom2, hop2, ear2, kept2, more2, tr2, eq, T2, e2, l2⟩ := hop_loop l L ok sm A B mts row lag xs (H.length + 1) (H ++ [.dT (enc (hopP L.delay L.age qs)), .lst ((hopP L.delay L.age qs).map pD)]) (J + L.delay) false (hopP L.delay L.age qs) mom' (some x) (some (.ref H.length)) kept' more' tr' (c * 24) (by have := ok.d0; omega) T' (by simp) hlen hc24
    refine ⟨t', [.dT (enc (hopP L.delay L.age qs)), .lst ((hopP L.delay L.age qs).map pD)] ++ g, qs', mom2, hop2, ear2, kept2, more2, tr2, ?_, ?_, ?_, l2⟩
    · rw [forL_nx (gd := none) trivial rfl hb2]
      rw [eq, List.append_assoc]
    · have e3 : J + L.delay + (xs.length : Int) * L.delay = J + ((x :: xs).length : Int) * L.delay := by
        rw [List.length_cons]
        have : ((xs.length + 1 : Nat) : Int) = (xs.length : Int) + 1 := by omega
        rw [this, Int.add_mul]
        omega
      rw [← e3]
      simpa using T2
    · rw [← List.append_assoc]
      exact e2
/-! ### the first moments -/
def u1 (L : Line) (ps : List Pr) (m : Int) : List Pr := if 0 ≤ m - L.sent ∧ m - L.sent ≤ L.delay ∧ 0 ≤ L.got - m ∧ L.got - m ≤ L.delay then ps ++ [(m, 0)] else ps
theorem mem_u1 (L : Line) (ps : List Pr) (m : Int) (q : Pr) : q ∈ u1 L ps m ↔ q ∈ ps ∨ ((0 ≤ m - L.sent ∧ m - L.sent ≤ L.delay ∧ 0 ≤ L.got - m ∧ L.got - m ≤ L.delay) ∧ q = (m, 0)) := by
  unfold u1
  split
  · rename_i h
    simp only [List.mem_append, List.mem_singleton]
    exact ⟨fun z => z.imp id fun y => ⟨h, y⟩, fun z => z.imp id And.right⟩
  · rename_i h
    exact ⟨Or.inl, fun z => z.elim id fun y => absurd y.1 h⟩
theorem len_u1 (L : Line) (ps : List Pr) (m : Int) : (u1 L ps m).length ≤ ps.length + 1 := by
  unfold u1
  split
  · simp
  · omega
theorem first_loop {h : Hh} (l : Nat) (L : Line) (mom hop mts row ear kept lag more tr : Option D) :
    ∃ mom', forL (gtName 2) b__law_search_1 none (rngD 0 60) (fr l L (some (.ref h.length)) mom hop mts row ear kept lag more tr) (h ++ [.lst []]) =
      .nx (fr l L (some (.ref h.length)) mom' hop mts row ear kept lag more tr) (h ++ [.lst (((upto 60).foldl (u1 L) []).map pD)]) := by
  rw [rngD_upto]
  obtain ⟨e', h', eq, ⟨mom', rfl⟩, rfl⟩ := forL_fold (g := gtName 2) (body := b__law_search_1) (gd := none) D.int (u1 L)
    (fun zs env h' => (∃ mom' : Option D, env = fr l L (some (.ref h.length)) mom' hop mts row ear kept lag more tr) ∧ h' = h ++ [.lst (zs.map pD)]) (fun s env h _ => trivial) [] (upto 60) _ _ ⟨⟨mom, rfl⟩, rfl⟩
    (fun pre m post env h' hx => by
      rintro ⟨⟨mo, rfl⟩, rfl⟩
      have h1 := len_foldl (c := 1) (u := u1 L) (fun ps a => len_u1 L ps a) pre []
      have h2 : pre.length ≤ 60 := by have := congrArg List.length hx; rw [len_upto] at this; simp at this; omega
      have h3 : ((pre.foldl (u1 L) []).map pD).length < sizeLine := big_line (by simp at h1 ⊢; omega)
      rw [List.length_map] at h3
      refine ⟨_, rfl, fr l L (some (.ref h.length)) (some (.int m)) hop mts row ear kept lag more tr, h ++ [.lst ((u1 L (pre.foldl (u1 L) []) m).map pD)], ?_, ⟨_, rfl⟩, rfl⟩
      by_cases c1 : 0 ≤ m - L.sent
      · by_cases c2 : m - L.sent ≤ L.delay
        · by_cases c3 : 0 ≤ L.got - m
          · by_cases c4 : L.got - m ≤ L.delay
            · have c1' : L.sent ≤ m := by omega
              have c3' : m ≤ L.got := by omega
              simp [b__law_search_1, fr, u1, c1', c2, c3', c4, h3, pD]
            · have c1' : L.sent ≤ m := by omega
              have c3' : m ≤ L.got := by omega
              simp [b__law_search_1, fr, u1, c1', c2, c3', c4]
          · have c1' : L.sent ≤ m := by omega
            have c3' : ¬ m ≤ L.got := by omega
            simp [b__law_search_1, fr, u1, c1', c2, c3']
        · have c1' : L.sent ≤ m := by omega
          simp [b__law_search_1, fr, u1, c1', c2]
      · have c1' : ¬ L.sent ≤ m := by omega
        simp [b__law_search_1, fr, u1, c1'])
  exact ⟨mom', eq⟩
theorem told0 (L : Line) (ok : L.Ok) (sm : L.Small) {A B : Int} (hA : (if L.got - L.delay > L.sent then L.got - L.delay else L.sent) = A) (hB : (if L.got < L.sent + L.delay then L.got else L.sent + L.delay) = B) : Told L A B 0 true ((upto 60).foldl (u1 L) []) := ⟨fun m k => by
  rw [mem_foldl (fun ps a q => mem_u1 L ps a q)]
  have h1 := ok.a0
  have h2 := ok.s0
  have h3 := sm.g
  constructor
  · rintro (z | ⟨a, ha, hc, e⟩)
    · simp at z
    · rw [mem_upto] at ha
      simp only [Prod.mk.injEq] at e
      obtain ⟨rfl, rfl⟩ := e
      subst hA hB
      split <;> split <;> omega
  · rintro ⟨z1, z2, z3, z4, z5, z6, z7⟩
    have z8 := z3 rfl
    subst z8
    refine .inr ⟨m, mem_upto.mpr ⟨z4, ?_⟩, ?_, rfl⟩
    · subst hA hB
      split at z6 <;> split at z5 <;> omega
    · subst hA hB
      split at z6 <;> split at z5 <;> omega⟩
/-! ### the last moments -/
def encI (xs : List Int) : List (Key × D) := xs.map fun x => (Sum.inl x, .bl true)
def insI (xs : List Int) (x : Int) : List Int := if x ∈ xs then xs else xs ++ [x]
theorem put_encI (xs : List Int) (x : Int) : putP (encI xs) (Sum.inl x) (.bl true) = encI (insI xs x) := by
  have h1 : ((encI xs).any fun kv => decide (kv.1 = (Sum.inl x : Key))) = decide (x ∈ xs) := by
    induction xs with
    | nil => rfl
    | cons q r ih =>
      simp only [encI, List.map_cons, List.any_cons] at ih ⊢
      rw [ih]
      by_cases e : q = x
      · subst e; simp
      · have e2 : ¬ x = q := fun z => e z.symm
        simp [e, e2]
  unfold putP insI
  rw [h1]
  by_cases h : x ∈ xs
  · rw [if_pos (decide_eq_true h), if_pos h]
    unfold encI
    rw [List.map_map]
    apply List.map_congr_left
    intro a _
    simp only [Function.comp]
    split
    · rename_i e; rw [e]
    · rfl
  · rw [decide_eq_false h, if_neg h, if_neg (by decide)]
    unfold encI
    rw [List.map_append]
    rfl
theorem keyInts_enc : ∀ xs : List Int, keyInts (encI xs) = some xs
  | [] => rfl
  | x :: xs => by
    show (keyInts (encI xs)).map (x :: ·) = _
    rw [keyInts_enc xs]
    rfl
def uL (age m k : Int) (xs : List Int) (lag : Int) : List Int := if k = age ∧ 0 ≤ m - lag then insI xs (m - lag) else xs
def uQ (age e : Int) (xs : List Int) (q : Pr) : List Int := (upto (e + 1).toNat).foldl (uL age q.1 q.2) xs
theorem mem_insI {ps : List Int} {p q : Int} : q ∈ insI ps p ↔ q ∈ ps ∨ q = p := by
  unfold insI
  split
  · rename_i h
    constructor
    · exact Or.inl
    · rintro (z | rfl)
      · exact z
      · exact h
  · simp
theorem nd_insI {ps : List Int} {p : Int} (h : ps.Nodup) : (insI ps p).Nodup := by
  unfold insI
  split
  · exact h
  · rename_i n
    rw [List.nodup_append]
    exact ⟨h, by simp, fun a ha b hb => by simp at hb; subst hb; exact fun e => n (e ▸ ha)⟩
theorem mem_foldlI {α : Type} {u : List Int → α → List Int} {C : α → Int → Prop} (hu : ∀ ps a q, q ∈ u ps a ↔ q ∈ ps ∨ C a q) : ∀ (xs : List α) (ps : List Int) (q : Int), q ∈ xs.foldl u ps ↔ q ∈ ps ∨ ∃ a ∈ xs, C a q
  | [], ps, q => by simp
  | x :: xs, ps, q => by
    rw [List.foldl_cons, mem_foldlI hu xs, hu]
    simp [or_assoc]
theorem len_foldlI {α : Type} {u : List Int → α → List Int} {c : Nat} (hu : ∀ ps a, (u ps a).length ≤ ps.length + c) : ∀ (xs : List α) (ps : List Int), (xs.foldl u ps).length ≤ ps.length + c * xs.length
  | [], ps => by simp
  | x :: xs, ps => by
    rw [List.foldl_cons, List.length_cons, Nat.mul_add]
    have h1 := len_foldlI hu xs (u ps x)
    have h2 := hu ps x
    omega
theorem nd_foldlI {α : Type} {u : List Int → α → List Int} (hu : ∀ ps a, ps.Nodup → (u ps a).Nodup) : ∀ (xs : List α) (ps : List Int), ps.Nodup → (xs.foldl u ps).Nodup
  | [], ps, h => h
  | x :: xs, ps, h => nd_foldlI hu xs _ (hu ps x h)
theorem mem_uL {age m k : Int} (ps : List Int) (lag q : Int) : q ∈ uL age m k ps lag ↔ q ∈ ps ∨ ((k = age ∧ 0 ≤ m - lag) ∧ q = m - lag) := by
  unfold uL
  split
  · rename_i h
    rw [mem_insI]
    exact ⟨fun z => z.imp id fun y => ⟨h, y⟩, fun z => z.imp id And.right⟩
  · rename_i h
    exact ⟨Or.inl, fun z => z.elim id fun y => absurd y.1 h⟩
theorem len_uL (age m k : Int) (ps : List Int) (lag : Int) : (uL age m k ps lag).length ≤ ps.length + 1 := by
  unfold uL insI
  split
  · split <;> simp
  · omega
theorem len_uQ {age e : Int} (he : e ≤ 5) (ps : List Int) (q : Pr) : (uQ age e ps q).length ≤ ps.length + 6 := by
  have h := len_foldlI (c := 1) (u := uL age q.1 q.2) (fun ps a => len_uL age q.1 q.2 ps a) (upto (e + 1).toNat) ps
  rw [len_upto] at h
  unfold uQ
  omega
theorem lag_loop {B : Hh} (l : Nat) (L : Line) (told hop row ear lag more tr : Option D) (m k : Int) (ps : List Int) (xs : List Int) (hl : ps.length + xs.length ≤ 6000000) :
    ∃ lag', forL (gtName 14) b__law_search_7 none (xs.map D.int) (fr l L told (some (.int m)) hop (some (.ref B.length)) row ear (some (.int k)) lag more tr) (B ++ [.dK (encI ps)]) =
      .nx (fr l L told (some (.int m)) hop (some (.ref B.length)) row ear (some (.int k)) lag' more tr) (B ++ [.dK (encI (xs.foldl (uL L.age m k) ps))]) := by
  obtain ⟨e', h', eq, ⟨tr', rfl⟩, rfl⟩ := forL_fold (g := gtName 14) (body := b__law_search_7) (gd := none) D.int (uL L.age m k)
    (fun qs env h => (∃ lag' : Option D, env = fr l L told (some (.int m)) hop (some (.ref B.length)) row ear (some (.int k)) lag' more tr) ∧ h = B ++ [.dK (encI qs)]) (fun _ _ _ _ => trivial) ps xs _ _ ⟨⟨lag, rfl⟩, rfl⟩
    (fun pre x post env h hx => by
      rintro ⟨⟨t, rfl⟩, rfl⟩
      refine ⟨_, rfl, fr l L told (some (.int m)) hop (some (.ref B.length)) row ear (some (.int k)) (some (.int x)) more tr, B ++ [.dK (encI (uL L.age m k (pre.foldl (uL L.age m k) ps) x))], ?_, ⟨_, rfl⟩, rfl⟩
      have h1 := len_foldlI (c := 1) (u := uL L.age m k) (fun ps a => len_uL L.age m k ps a) pre ps
      have h2 : pre.length ≤ xs.length := by rw [hx]; simp
      have h3 : (encI (pre.foldl (uL L.age m k) ps)).length < sizeLine := by unfold encI; rw [List.length_map, sizeLine_eq]; omega
      have h4 := put_encI (pre.foldl (uL L.age m k) ps) (m - x)
      by_cases c0 : k = L.age
      · subst c0
        by_cases c : 0 ≤ m - x
        · have c' : x ≤ m := by omega
          have hu : uL L.age m L.age (pre.foldl (uL L.age m L.age) ps) x = insI (pre.foldl (uL L.age m L.age) ps) (m - x) := by simp [uL, c']
          rw [hu]
          simp [b__law_search_7, fr, c', h3, h4]
        · have c' : ¬ x ≤ m := by omega
          have hu : uL L.age m L.age (pre.foldl (uL L.age m L.age) ps) x = pre.foldl (uL L.age m L.age) ps := by simp [uL, c']
          rw [hu]
          simp [b__law_search_7, fr, c']
      · have hu : uL L.age m k (pre.foldl (uL L.age m k) ps) x = pre.foldl (uL L.age m k) ps := by simp [uL, c0]
        rw [hu]
        simp [b__law_search_7, fr, c0])
  exact ⟨tr', eq⟩
theorem end_loop {B : Hh} (l t : Nat) (L : Line) (ok : L.Ok) (sm : L.Small) (hop row ear lag mom kept more tr : Option D) (qs : List Pr) (ht : B[t]? = some (.lst (qs.map pD))) (hl : qs.length ≤ 850000) :
    ∃ mom' kept' lag', forL (gtTup [2, 13]) b__law_search_6 (some (t, .lst (qs.map pD))) (qs.map pD) (fr l L (some (.ref t)) mom hop (some (.ref B.length)) row ear kept lag more tr) (B ++ [.dK []]) =
      .nx (fr l L (some (.ref t)) mom' hop (some (.ref B.length)) row ear kept' lag' more tr) (B ++ [.dK (encI (qs.foldl (uQ L.age L.expire) []))]) := by
  obtain ⟨e', h', eq, ⟨mom', kept', lag', rfl⟩, rfl⟩ := forL_fold (g := gtTup [2, 13]) (body := b__law_search_6) (gd := some (t, .lst (qs.map pD))) pD (uQ L.age L.expire)
    (fun zs env h => (∃ mom' kept' lag' : Option D, env = fr l L (some (.ref t)) mom' hop (some (.ref B.length)) row ear kept' lag' more tr) ∧ h = B ++ [.dK (encI zs)]) (fun s env h ⟨_, z⟩ => by subst z; exact get_app ht) [] qs _ _ ⟨⟨mom, kept, lag, rfl⟩, rfl⟩
    (fun pre q post env h hx => by
      rintro ⟨⟨mo, ke, la, rfl⟩, rfl⟩
      have h2 : pre.length ≤ qs.length := by rw [hx]; simp
      have h5 := sm.e
      have h6 := ok.e0
      have h1 := len_foldlI (c := 6) (u := uQ L.age L.expire) (fun ps a => len_uQ sm.e ps a) pre []
      obtain ⟨m, k⟩ := q
      obtain ⟨la', e⟩ := lag_loop (B := B) l L (some (.ref t)) hop row ear la more tr m k (pre.foldl (uQ L.age L.expire) []) (upto (L.expire + 1).toNat) (by rw [len_upto]; simp at h1; omega)
      rw [← rngD_upto] at e
      refine ⟨fr l L (some (.ref t)) (some (.int m)) hop (some (.ref B.length)) row ear (some (.int k)) la more tr, by simp [pD, fr], fr l L (some (.ref t)) (some (.int m)) hop (some (.ref B.length)) row ear (some (.int k)) la' more tr, B ++ [.dK (encI (uQ L.age L.expire (pre.foldl (uQ L.age L.expire) []) (m, k)))], ?_, ⟨_, _, _, rfl⟩, rfl⟩
      have hr : Sm.inR (L.expire + 1) = true := by unfold Sm.inR; simp; omega
      unfold uQ at e ⊢
      simp only [fr] at e ⊢
      simp [b__law_search_6, hr, e])
  exact ⟨mom', kept', lag', eq⟩
theorem nat_nodup_le : ∀ (n : Nat) (l : List Nat), l.Nodup → (∀ x ∈ l, x < n) → l.length ≤ n
  | 0, l, _, h => by
    cases l with
    | nil => simp
    | cons a l => exact absurd (h a (by simp)) (by omega)
  | n + 1, l, hd, h => by
    have h1 := nat_nodup_le n (l.erase n) (hd.erase n) (fun x hx => by
      have h2 := List.mem_of_mem_erase hx
      have h3 := h x h2
      have h4 : x ≠ n := fun e => by
        subst e
        exact (List.Nodup.not_mem_erase hd) hx
      omega)
    by_cases hm : n ∈ l
    · rw [List.length_erase_of_mem hm] at h1
      omega
    · rw [List.erase_of_not_mem hm] at h1
      omega
theorem int_nodup_le (n : Nat) (l : List Int) (hd : l.Nodup) (h : ∀ x ∈ l, 0 ≤ x ∧ x < n) : l.length ≤ n := by
  have h1 := nat_nodup_le n (l.map Int.toNat) (by
    rw [List.nodup_iff_pairwise_ne, List.pairwise_map]
    refine List.Pairwise.imp_of_mem ?_ (List.nodup_iff_pairwise_ne.mp hd)
    intro a b ha hb hab e
    have := h a ha
    have := h b hb
    omega) (fun x hx => by
    obtain ⟨y, hy, rfl⟩ := List.mem_map.mp hx
    have := h y hy
    omega)
  rwa [List.length_map] at h1
theorem sort_ends {ns : List Int} {lo hi : Int} (h : ∀ x, x ∈ ns ↔ lo ≤ x ∧ x ≤ hi) (hle : lo ≤ hi) : ∃ r : List Int, sortI ns = r ∧ 0 < r.length ∧ r[0]? = some lo ∧ r[r.length - 1]? = some hi := by
  have hp := sortI_perm ns
  have hs := sortI_pair ns
  generalize sortI ns = r at hp hs
  have hm : ∀ x, x ∈ r ↔ lo ≤ x ∧ x ≤ hi := fun x => by rw [hp.mem_iff, h]
  have hlo : lo ∈ r := (hm lo).mpr ⟨Int.le_refl _, hle⟩
  have hhi : hi ∈ r := (hm hi).mpr ⟨hle, Int.le_refl _⟩
  have hl : 0 < r.length := List.length_pos_of_mem hlo
  rw [List.pairwise_iff_getElem] at hs
  refine ⟨r, rfl, hl, ?_, ?_⟩
  · rw [List.getElem?_eq_getElem hl]
    obtain ⟨i, hi', e⟩ := List.mem_iff_getElem.mp hlo
    have h1 := (hm r[0]).mp (List.getElem_mem hl)
    by_cases z : i = 0
    · subst z; rw [e]
    · have := hs 0 i hl hi' (by omega)
      rw [e] at this
      congr 1
      omega
  · have hl' : r.length - 1 < r.length := by omega
    rw [List.getElem?_eq_getElem hl']
    obtain ⟨i, hi', e⟩ := List.mem_iff_getElem.mp hhi
    have h1 := (hm r[r.length - 1]).mp (List.getElem_mem hl')
    by_cases z : i = r.length - 1
    · subst z; rw [e]
    · have := hs i (r.length - 1) hi' hl' (by omega)
      rw [e] at this
      congr 1
      omega
end Lk25
namespace Lk25
open PySem L2 PyProof.Rows Sm
theorem mem_uQ {age e : Int} (ps : List Int) (p : Pr) (q : Int) : q ∈ uQ age e ps p ↔ q ∈ ps ∨ ∃ lag ∈ upto (e + 1).toNat, (p.2 = age ∧ 0 ≤ p.1 - lag) ∧ q = p.1 - lag := mem_foldlI (fun ps a q => mem_uL ps a q) _ _ _
theorem nd_uL {age m k : Int} (ps : List Int) (lag : Int) (h : ps.Nodup) : (uL age m k ps lag).Nodup := by
  unfold uL
  split
  · exact nd_insI h
  · exact h
theorem nd_uQ {age e : Int} (ps : List Int) (p : Pr) (h : ps.Nodup) : (uQ age e ps p).Nodup := nd_foldlI (fun ps a => nd_uL ps a) _ _ h
theorem mom_mem {L : Line} (ok : L.Ok) {A B : Int} {qs : List Pr} (T : Told L A B ((L.hops - 1) * L.delay) (decide (L.hops = 1)) qs) (x : Int) :
    x ∈ qs.foldl (uQ L.age L.expire) [] ↔ ((L.hops = 1 → L.age = 0) ∧ A ≤ B ∧ 0 ≤ B - L.age ∧ 0 ≤ x ∧ A - L.age - (L.hops - 1) * L.delay - L.expire ≤ x ∧ x ≤ B - L.age) := by
  rw [mem_foldlI (fun ps a q => mem_uQ ps a q)]
  have h1 := ok.e0
  have h2 := ok.a0
  have hJ : 0 ≤ (L.hops - 1) * L.delay := Int.mul_nonneg (by have := ok.h0; omega) ok.d0
  generalize (L.hops - 1) * L.delay = J at T hJ ⊢
  constructor
  · rintro (z | ⟨⟨m, k⟩, hp, lag, hl, ⟨c1, c2⟩, e⟩)
    · simp at z
    · have t := (T.mem m k).mp hp
      simp only [decide_eq_true_eq] at t
      rw [mem_upto] at hl
      simp only at c1 c2 e
      obtain ⟨t1, t2, t3, t4, t5, t6, t7⟩ := t
      refine ⟨fun z => ?_, ?_, ?_, ?_, ?_, ?_⟩
      · have := t3 z; omega
      all_goals omega
  · rintro ⟨c1, c2, c3, c4, c5, c6⟩
    by_cases c : A - L.age - J ≤ x
    · refine .inr ⟨(x, L.age), (T.mem _ _).mpr ⟨h2, Int.le_refl _, fun z => c1 (by simpa using z), c4, c, c6, c2⟩, 0, mem_upto.mpr ⟨by omega, by omega⟩, ⟨rfl, by dsimp only; omega⟩, by dsimp only; omega⟩
    · by_cases cc : 0 ≤ A - L.age - J
      · refine .inr ⟨(A - L.age - J, L.age), (T.mem _ _).mpr ⟨h2, Int.le_refl _, fun z => c1 (by simpa using z), cc, by omega, by omega, c2⟩, A - L.age - J - x, mem_upto.mpr ⟨by omega, by omega⟩, ⟨rfl, by dsimp only; omega⟩, by dsimp only; omega⟩
      · omega
theorem search_spec {h : Hh} {l : Nat} {L : Line} (ok : L.Ok) (sm : L.Small) (el : h[l]? = some (.lst L.ds)) : ∃ g, m__law_search [.ref l] h = .ok (wd (win L)) (h ++ g) := by
  have hw : win L = win L := rfl
  rw [show win L = _ from by unfold win; rfl] at hw
  generalize hA : (if L.got - L.delay > L.sent then L.got - L.delay else L.sent) = A
  generalize hB : (if L.got < L.sent + L.delay then L.got else L.sent + L.delay) = B
  have hwin : win L = if A > B ∨ (L.hops = 1 ∧ L.age > 0) ∨ B - L.age < 0 then none else some (if A - L.age - (L.hops - 1) * L.delay - L.expire > 0 then A - L.age - (L.hops - 1) * L.delay - L.expire else 0, B - L.age) := by
    unfold win
    rw [hA, hB]
  clear hw
  have n0 := ok.h0
  have n1 := ok.h1
  obtain ⟨mom1, e1⟩ := first_loop (h := h) l L none none none none none none none none none
  have T0 := told0 L ok sm hA hB
  have hn : (rngD 0 (L.hops - 1).toNat).length = (L.hops - 1).toNat := rngD_len _ _
  have hc : 60 * 24 ^ (rngD 0 (L.hops - 1).toNat).length ≤ 850000 := by
    rw [hn]
    have : (L.hops - 1).toNat ≤ 3 := by omega
    have h2 : 24 ^ (L.hops - 1).toNat ≤ 24 ^ 3 := Nat.pow_le_pow_right (by decide) this
    omega
  have hl0 : ((upto 60).foldl (u1 L) []).length ≤ 60 := by
    have := len_foldl (c := 1) (u := u1 L) (fun ps a => len_u1 L ps a) (upto 60) []
    rw [len_upto] at this
    simpa using this
  obtain ⟨t', g, qs, mom2, hop2, ear2, kept2, more2, tr2, e2, T2, t2, l2⟩ := hop_loop l L ok sm A B none none none (rngD 0 (L.hops - 1).toNat) h.length (h ++ [.lst (((upto 60).foldl (u1 L) []).map pD)]) 0 true ((upto 60).foldl (u1 L) []) mom1 none none none none none 60 (Int.le_refl _) T0 (by simp) hl0 hc
  obtain ⟨mom3, kept3, lag3, e3⟩ := end_loop l t' L ok sm hop2 none ear2 none mom2 kept2 more2 tr2 qs t2 l2
  have hT : Told L A B ((L.hops - 1) * L.delay) (decide (L.hops = 1)) qs := by
    have a1 : (0 : Int) + ((rngD 0 (L.hops - 1).toNat).length : Int) * L.delay = (L.hops - 1) * L.delay := by
      rw [hn, Int.toNat_of_nonneg (by omega), Int.zero_add]
    have a2 : (true && (rngD 0 (L.hops - 1).toNat).isEmpty) = decide (L.hops = 1) := by
      rw [Bool.true_and, Bool.eq_iff_iff, decide_eq_true_iff, List.isEmpty_iff, ← List.length_eq_zero_iff, hn]
      omega
    rw [a1, a2] at T2
    exact T2
  have hmem := mom_mem ok hT
  have hnd : (qs.foldl (uQ L.age L.expire) []).Nodup := nd_foldlI (fun ps a => nd_uQ ps a) _ _ List.nodup_nil
  have hlt : (qs.foldl (uQ L.age L.expire) []).length < 64 := by
    have := int_nodup_le 60 _ hnd (fun x hx => by
      have := (hmem x).mp hx
      have g1 := sm.g
      have a0 := ok.a0
      subst hB
      refine ⟨this.2.2.2.1, ?_⟩
      have h6 := this.2.2.2.2.2
      split at h6 <;> omega)
    omega
  generalize (qs.foldl (uQ L.age L.expire) []) = ns at e3 hmem hnd hlt
  have hr : Sm.inR (L.hops - 1) = true := by unfold Sm.inR; simp; omega
  have h60 : Sm.inR 60 = true := rfl
  have hmap : (encI ns).length = ns.length := by unfold encI; simp
  have hq : (L.hops - 1).toNat = L.hops.toNat - 1 := by omega
  rw [hq] at e2
  simp only [fr] at e1 e2 e3
  obtain ⟨H2, hH⟩ : ∃ H2, H2 = h ++ [.lst (((upto 60).foldl (u1 L) []).map pD)] ++ g := ⟨_, rfl⟩
  rw [← hH] at e2 e3 t2
  have t3 : ∀ o : O, (H2 ++ [o])[t']? = some (.lst (qs.map pD)) := fun o => get_app t2
  by_cases hz : A > B ∨ (L.hops = 1 ∧ L.age > 0) ∨ B - L.age < 0
  · rw [hwin, if_pos hz]
    have hnil : ns = [] := by
      cases ns with
      | nil => rfl
      | cons x r =>
        have := (hmem x).mp (by simp)
        exfalso
        rcases hz with z | z | z
        · omega
        · have := this.1 z.1; omega
        · omega
    subst hnil
    refine ⟨[.lst (((upto 60).foldl (u1 L) []).map pD)] ++ g ++ [.dK (encI [])], ?_⟩
    rw [show ∀ k : Hh, h ++ ([.lst (((upto 60).foldl (u1 L) []).map pD)] ++ g ++ k) = H2 ++ k from fun k => by rw [hH]; simp only [List.append_assoc]]
    simp only [encI, List.map_nil] at e3
    simp [m__law_search, b__law_search, el, Line.ds, e1, e2, e3, t3, hr, h60, wd, encI]
  · rw [hwin, if_neg hz]
    obtain ⟨r, er, hr0, r0, r1⟩ := sort_ends (ns := ns) (lo := if A - L.age - (L.hops - 1) * L.delay - L.expire > 0 then A - L.age - (L.hops - 1) * L.delay - L.expire else 0) (hi := B - L.age) (fun x => by
      rw [hmem]
      have hh : L.hops = 1 → L.age = 0 := fun z => by have := ok.a0; omega
      have hJ : 0 ≤ (L.hops - 1) * L.delay := Int.mul_nonneg (by omega) ok.d0
      constructor
      · intro z
        obtain ⟨_, z1, z2, z3, z4, z5⟩ := z
        exact ⟨by split <;> omega, z5⟩
      · rintro ⟨z1, z2⟩
        split at z1 <;> exact ⟨hh, by omega, by omega, by omega, by omega, z2⟩) (by
      have hJ : 0 ≤ (L.hops - 1) * L.delay := Int.mul_nonneg (by omega) ok.d0
      have := ok.e0
      split <;> omega)
    have hne : ¬ ns.length = 0 := fun z => by
      have := List.length_eq_zero_iff.mp z
      subst this
      subst er
      have := (sortI_perm []).length_eq
      omega
    have g1 : (1 : Int) ≤ (r.length : Int) := by omega
    have g2 : (-1 + (r.length : Int)).toNat = r.length - 1 := by omega
    refine ⟨[.lst (((upto 60).foldl (u1 L) []).map pD)] ++ g ++ [.dK (encI ns), .lst (r.map D.int)], ?_⟩
    rw [show ∀ k : Hh, h ++ ([.lst (((upto 60).foldl (u1 L) []).map pD)] ++ g ++ k) = H2 ++ k from fun k => by rw [hH]; simp only [List.append_assoc]]
    simp [m__law_search, b__law_search, el, Line.ds, e1, e2, e3, t3, hr, h60, wd, hmap, hne, keyInts_enc, hlt, er, atI, ixN, r1, hr0, g1, g2]
    rw [List.getElem?_eq_getElem hr0] at r0
    rw [Option.some.inj r0]
    split <;> split <;> omega
/-- one line of the law -/
theorem turn_spec {B : Hh} {l : Nat} {L : Line} (ok : L.Ok) (small : Bool) (sm : small = true → L.Small) (el : B[l]? = some (.lst L.ds)) (e0 e1 e4 e5 : Option D) :
    ∃ e5' g, b_law_1 [e0, e1, some (.bl small), some (.ref l), e4, e5] B = .nx [e0, e1, some (.bl small), some (.ref l), e4, e5'] (B ++ g) := by
  have f := formula_spec L ok B l el
  have wn := fun h => window_spec L ok h
  have sa := fun h => same_spec (win L) h
  cases small with
  | false =>
    refine ⟨some (wd (win L)), [], ?_⟩
    simp only [Line.ds] at el
    simp [b_law_1, f, el, atI, ixN, wn, sa]
  | true =>
    obtain ⟨g, s⟩ := search_spec ok (sm rfl) el
    refine ⟨some (wd (win L)), g, ?_⟩
    have el' := get_app (g := g) el
    simp only [Line.ds] at el'
    simp [b_law_1, f, s, el', atI, ixN, wn, sa]
theorem three {B : Hh} {L L' : Line} (ok : L.Ok) (ok' : L'.Ok) (small : Bool) (sm : small = true → L.Small) (sm' : small = true → L'.Small) (e5 : B[5]? = some (.lst L.ds)) (e8 : B[8]? = some (.lst L'.ds)) (e9 : B[9]? = some (.lst [.ref 5, .ref 8, .ref 5])) (u0 u1 u3 u4 u5 : Option D) :
    ∃ env g, forL (gtName 3) b_law_1 (some (9, .lst [.ref 5, .ref 8, .ref 5])) [.ref 5, .ref 8, .ref 5] [u0, u1, some (.bl small), u3, u4, u5] B = .nx env g := by
  obtain ⟨w1, g1, t1⟩ := turn_spec ok small sm e5 u0 u1 u4 u5
  obtain ⟨w2, g2, t2⟩ := turn_spec ok' small sm' (get_app (g := g1) e8) u0 u1 u4 w1
  obtain ⟨w3, g3, t3⟩ := turn_spec ok small sm (get_app (g := g2) (get_app (g := g1) e5)) u0 u1 u4 w2
  refine ⟨[u0, u1, some (.bl small), some (.ref 5), u4, w3], B ++ g1 ++ g2 ++ g3, ?_⟩
  have k1 : gdOk (some (9, .lst [.ref 5, .ref 8, .ref 5])) B := e9
  have k2 : gdOk (some (9, .lst [.ref 5, .ref 8, .ref 5])) (B ++ g1) := get_app e9
  have k3 : gdOk (some (9, .lst [.ref 5, .ref 8, .ref 5])) (B ++ g1 ++ g2) := get_app (get_app e9)
  have k4 : gdOk (some (9, .lst [.ref 5, .ref 8, .ref 5])) (B ++ g1 ++ g2 ++ g3) := get_app (get_app (get_app e9))
  rw [forL_nx (g := gtName 3) (env := [u0, u1, some (.bl small), u3, u4, u5]) k1 rfl t1, forL_nx (g := gtName 3) k2 rfl t2, forL_nx (g := gtName 3) k3 rfl t3, forL_nil k4]
theorem main (ns : List Int) (hl : ns.length ≤ 63) : ∃ h', m_law [.fls (ns.map D.int)] [] = .ok (.bl true) h' := by
  obtain ⟨p, a, b, c, d, hp, hpl, e1⟩ := pool_spec ns hl []
  obtain ⟨r, q, hq, hql, r0, r1, e2⟩ := take_spec (h := [a, b, c, d, .lst (p.map D.int)]) (n := 4) (m := 2) hp hpl rfl (by decide)
  simp only [List.set_cons_succ, List.set_cons_zero] at e2
  simp only [List.length_nil, List.nil_append, Nat.zero_add] at e1
  by_cases hr : r = 0
  · obtain ⟨L, q1, a1, b1, ok, sm, e3⟩ := small_spec (h := [a, b, c, d, .lst (q.map D.int)]) (n := 4) hq hql rfl
    simp only [List.set_cons_succ, List.set_cons_zero, List.length_cons, List.length_nil, List.cons_append, List.nil_append, Nat.zero_add, Nat.reduceAdd] at e3
    obtain ⟨L', q2, x, y, a2, b2, ok', sm', e4⟩ := moved_spec (h := [a, b, c, d, .lst (q1.map D.int), .lst L.ds]) (n := 4) (l := 5) a1 b1 rfl rfl (by decide) ok
    simp only [List.set_cons_succ, List.set_cons_zero, List.length_cons, List.length_nil, List.cons_append, List.nil_append, Nat.zero_add, Nat.reduceAdd] at e4
    obtain ⟨env, g, e5⟩ := three (B := [a, b, c, d, .lst (q2.map D.int), .lst L.ds, x, y, .lst L'.ds, .lst [.ref 5, .ref 8, .ref 5]]) ok ok' true (fun _ => ⟨by omega, by omega, by omega, by omega, by omega⟩) (fun _ => sm' sm) rfl rfl rfl (some (.fls (ns.map D.int))) (some (.ref 4)) none (some (.ref 5)) none
    refine ⟨g, ?_⟩
    simp [m_law, b_law, e1, e2, e3, e4, e5, hr]
  · obtain ⟨L, q1, a1, b1, ok, e3⟩ := whole_spec (h := [a, b, c, d, .lst (q.map D.int)]) (n := 4) hq hql rfl
    simp only [List.set_cons_succ, List.set_cons_zero, List.length_cons, List.length_nil, List.cons_append, List.nil_append, Nat.zero_add, Nat.reduceAdd] at e3
    obtain ⟨L', q2, x, y, a2, b2, ok', sm', e4⟩ := moved_spec (h := [a, b, c, d, .lst (q1.map D.int), .lst L.ds]) (n := 4) (l := 5) a1 b1 rfl rfl (by decide) ok
    simp only [List.set_cons_succ, List.set_cons_zero, List.length_cons, List.length_nil, List.cons_append, List.nil_append, Nat.zero_add, Nat.reduceAdd] at e4
    obtain ⟨env, g, e5⟩ := three (B := [a, b, c, d, .lst (q2.map D.int), .lst L.ds, x, y, .lst L'.ds, .lst [.ref 5, .ref 8, .ref 5]]) ok ok' false (fun z => by cases z) (fun z => by cases z) rfl rfl rfl (some (.fls (ns.map D.int))) (some (.ref 4)) none (some (.ref 5)) none
    refine ⟨g, ?_⟩
    simp [m_law, b_law, e1, e2, e3, e4, e5, hr]
end Lk25
namespace Lk25
open PySem L2 PyProof.Rows Sm
theorem all_mk {l : PySem.W.OpenLaw} {w : World} {K : PySem.W.Frag} {h : Heap} {mg : Str → Option Value} {fa : Addr} (X : K.In h) (G : h.Ns mainGlobals mg) (hfa : mg "law" = some (.ref fa))
    {f_is_integer f_is_between f_check_line f_last_told f_window_of f__law_pool f__law_take f__law_wide f__law_edge f__law_search f__law_formula f__law_small_line f__law_whole_line f__law_moved f__law_same f_law : Addr} {od_is_integer an_is_integer od_is_between an_is_between od_check_line an_check_line od_last_told an_last_told od_window_of an_window_of od__law_pool an__law_pool od__law_take an__law_take od__law_wide an__law_wide od__law_edge an__law_edge od__law_search an__law_search od__law_formula an__law_formula od__law_small_line an__law_small_line od__law_whole_line an__law_whole_line od__law_moved an__law_moved od__law_same an__law_same od_law an_law : Option Addr} {sl_is_integer sl_is_between sl_check_line sl_last_told sl_window_of sl__law_pool sl__law_take sl__law_wide sl__law_edge sl__law_search sl__law_formula sl__law_small_line sl__law_whole_line sl__law_moved sl__law_same sl_law : Array (Option Value)} {oc_is_integer kV_is_integer dc_is_integer pm_is_integer cd_is_integer ct_is_integer oc_is_between kV_is_between dc_is_between pm_is_between cd_is_between ct_is_between oc_check_line kV_check_line dc_check_line pm_check_line cd_check_line ct_check_line oc_last_told kV_last_told dc_last_told pm_last_told cd_last_told ct_last_told oc_window_of kV_window_of dc_window_of pm_window_of cd_window_of ct_window_of oc__law_pool kV__law_pool dc__law_pool pm__law_pool cd__law_pool ct__law_pool oc__law_take kV__law_take dc__law_take pm__law_take cd__law_take ct__law_take oc__law_wide kV__law_wide dc__law_wide pm__law_wide cd__law_wide ct__law_wide oc__law_edge kV__law_edge dc__law_edge pm__law_edge cd__law_edge ct__law_edge oc__law_search kV__law_search dc__law_search pm__law_search cd__law_search ct__law_search oc__law_formula kV__law_formula dc__law_formula pm__law_formula cd__law_formula ct__law_formula oc__law_small_line kV__law_small_line dc__law_small_line pm__law_small_line cd__law_small_line ct__law_small_line oc__law_whole_line kV__law_whole_line dc__law_whole_line pm__law_whole_line cd__law_whole_line ct__law_whole_line oc__law_moved kV__law_moved dc__law_moved pm__law_moved cd__law_moved ct__law_moved oc__law_same kV__law_same dc__law_same pm__law_same cd__law_same ct__law_same oc_law kV_law dc_law pm_law cd_law ct_law : Value} {u_MOST_DELAY u_MOST_MOMENT u_MOST_TRAIL u_MOST_TTL : Tok}
    (a_is_integer : PySem.W.nsIn K mainGlobals "is_integer" = some (some (.ref f_is_integer))) (l_is_integer : K.lookup f_is_integer = some ⟨oc_is_integer, od_is_integer, .func (PySem.W.fnOf "is_integer" "is_integer" (defArgs s_is_integer) (defBody s_is_integer) (defScope s_is_integer) .none kV_is_integer dc_is_integer pm_is_integer an_is_integer cd_is_integer ct_is_integer), sl_is_integer⟩) (c_is_integer : PySem.W.codeIn K cd_is_integer "is_integer" = true) (k_is_integer : PySem.W.keepIn K (.ref f_is_integer) = true)
    (a_is_between : PySem.W.nsIn K mainGlobals "is_between" = some (some (.ref f_is_between))) (l_is_between : K.lookup f_is_between = some ⟨oc_is_between, od_is_between, .func (PySem.W.fnOf "is_between" "is_between" (defArgs s_is_between) (defBody s_is_between) (defScope s_is_between) .none kV_is_between dc_is_between pm_is_between an_is_between cd_is_between ct_is_between), sl_is_between⟩) (c_is_between : PySem.W.codeIn K cd_is_between "is_between" = true) (k_is_between : PySem.W.keepIn K (.ref f_is_between) = true)
    (a_check_line : PySem.W.nsIn K mainGlobals "check_line" = some (some (.ref f_check_line))) (l_check_line : K.lookup f_check_line = some ⟨oc_check_line, od_check_line, .func (PySem.W.fnOf "check_line" "check_line" (defArgs s_check_line) (defBody s_check_line) (defScope s_check_line) .none kV_check_line dc_check_line pm_check_line an_check_line cd_check_line ct_check_line), sl_check_line⟩) (c_check_line : PySem.W.codeIn K cd_check_line "check_line" = true) (k_check_line : PySem.W.keepIn K (.ref f_check_line) = true)
    (a_last_told : PySem.W.nsIn K mainGlobals "last_told" = some (some (.ref f_last_told))) (l_last_told : K.lookup f_last_told = some ⟨oc_last_told, od_last_told, .func (PySem.W.fnOf "last_told" "last_told" (defArgs s_last_told) (defBody s_last_told) (defScope s_last_told) .none kV_last_told dc_last_told pm_last_told an_last_told cd_last_told ct_last_told), sl_last_told⟩) (c_last_told : PySem.W.codeIn K cd_last_told "last_told" = true) (k_last_told : PySem.W.keepIn K (.ref f_last_told) = true)
    (a_window_of : PySem.W.nsIn K mainGlobals "window_of" = some (some (.ref f_window_of))) (l_window_of : K.lookup f_window_of = some ⟨oc_window_of, od_window_of, .func (PySem.W.fnOf "window_of" "window_of" (defArgs s_window_of) (defBody s_window_of) (defScope s_window_of) .none kV_window_of dc_window_of pm_window_of an_window_of cd_window_of ct_window_of), sl_window_of⟩) (c_window_of : PySem.W.codeIn K cd_window_of "window_of" = true) (k_window_of : PySem.W.keepIn K (.ref f_window_of) = true)
    (a__law_pool : PySem.W.nsIn K mainGlobals "_law_pool" = some (some (.ref f__law_pool))) (l__law_pool : K.lookup f__law_pool = some ⟨oc__law_pool, od__law_pool, .func (PySem.W.fnOf "_law_pool" "_law_pool" (defArgs s__law_pool) (defBody s__law_pool) (defScope s__law_pool) .none kV__law_pool dc__law_pool pm__law_pool an__law_pool cd__law_pool ct__law_pool), sl__law_pool⟩) (c__law_pool : PySem.W.codeIn K cd__law_pool "_law_pool" = true) (k__law_pool : PySem.W.keepIn K (.ref f__law_pool) = true)
    (a__law_take : PySem.W.nsIn K mainGlobals "_law_take" = some (some (.ref f__law_take))) (l__law_take : K.lookup f__law_take = some ⟨oc__law_take, od__law_take, .func (PySem.W.fnOf "_law_take" "_law_take" (defArgs s__law_take) (defBody s__law_take) (defScope s__law_take) .none kV__law_take dc__law_take pm__law_take an__law_take cd__law_take ct__law_take), sl__law_take⟩) (c__law_take : PySem.W.codeIn K cd__law_take "_law_take" = true) (k__law_take : PySem.W.keepIn K (.ref f__law_take) = true)
    (a__law_wide : PySem.W.nsIn K mainGlobals "_law_wide" = some (some (.ref f__law_wide))) (l__law_wide : K.lookup f__law_wide = some ⟨oc__law_wide, od__law_wide, .func (PySem.W.fnOf "_law_wide" "_law_wide" (defArgs s__law_wide) (defBody s__law_wide) (defScope s__law_wide) .none kV__law_wide dc__law_wide pm__law_wide an__law_wide cd__law_wide ct__law_wide), sl__law_wide⟩) (c__law_wide : PySem.W.codeIn K cd__law_wide "_law_wide" = true) (k__law_wide : PySem.W.keepIn K (.ref f__law_wide) = true)
    (a__law_edge : PySem.W.nsIn K mainGlobals "_law_edge" = some (some (.ref f__law_edge))) (l__law_edge : K.lookup f__law_edge = some ⟨oc__law_edge, od__law_edge, .func (PySem.W.fnOf "_law_edge" "_law_edge" (defArgs s__law_edge) (defBody s__law_edge) (defScope s__law_edge) .none kV__law_edge dc__law_edge pm__law_edge an__law_edge cd__law_edge ct__law_edge), sl__law_edge⟩) (c__law_edge : PySem.W.codeIn K cd__law_edge "_law_edge" = true) (k__law_edge : PySem.W.keepIn K (.ref f__law_edge) = true)
    (a__law_search : PySem.W.nsIn K mainGlobals "_law_search" = some (some (.ref f__law_search))) (l__law_search : K.lookup f__law_search = some ⟨oc__law_search, od__law_search, .func (PySem.W.fnOf "_law_search" "_law_search" (defArgs s__law_search) (defBody s__law_search) (defScope s__law_search) .none kV__law_search dc__law_search pm__law_search an__law_search cd__law_search ct__law_search), sl__law_search⟩) (c__law_search : PySem.W.codeIn K cd__law_search "_law_search" = true) (k__law_search : PySem.W.keepIn K (.ref f__law_search) = true)
    (a__law_formula : PySem.W.nsIn K mainGlobals "_law_formula" = some (some (.ref f__law_formula))) (l__law_formula : K.lookup f__law_formula = some ⟨oc__law_formula, od__law_formula, .func (PySem.W.fnOf "_law_formula" "_law_formula" (defArgs s__law_formula) (defBody s__law_formula) (defScope s__law_formula) .none kV__law_formula dc__law_formula pm__law_formula an__law_formula cd__law_formula ct__law_formula), sl__law_formula⟩) (c__law_formula : PySem.W.codeIn K cd__law_formula "_law_formula" = true) (k__law_formula : PySem.W.keepIn K (.ref f__law_formula) = true)
    (a__law_small_line : PySem.W.nsIn K mainGlobals "_law_small_line" = some (some (.ref f__law_small_line))) (l__law_small_line : K.lookup f__law_small_line = some ⟨oc__law_small_line, od__law_small_line, .func (PySem.W.fnOf "_law_small_line" "_law_small_line" (defArgs s__law_small_line) (defBody s__law_small_line) (defScope s__law_small_line) .none kV__law_small_line dc__law_small_line pm__law_small_line an__law_small_line cd__law_small_line ct__law_small_line), sl__law_small_line⟩) (c__law_small_line : PySem.W.codeIn K cd__law_small_line "_law_small_line" = true) (k__law_small_line : PySem.W.keepIn K (.ref f__law_small_line) = true)
    (a__law_whole_line : PySem.W.nsIn K mainGlobals "_law_whole_line" = some (some (.ref f__law_whole_line))) (l__law_whole_line : K.lookup f__law_whole_line = some ⟨oc__law_whole_line, od__law_whole_line, .func (PySem.W.fnOf "_law_whole_line" "_law_whole_line" (defArgs s__law_whole_line) (defBody s__law_whole_line) (defScope s__law_whole_line) .none kV__law_whole_line dc__law_whole_line pm__law_whole_line an__law_whole_line cd__law_whole_line ct__law_whole_line), sl__law_whole_line⟩) (c__law_whole_line : PySem.W.codeIn K cd__law_whole_line "_law_whole_line" = true) (k__law_whole_line : PySem.W.keepIn K (.ref f__law_whole_line) = true)
    (a__law_moved : PySem.W.nsIn K mainGlobals "_law_moved" = some (some (.ref f__law_moved))) (l__law_moved : K.lookup f__law_moved = some ⟨oc__law_moved, od__law_moved, .func (PySem.W.fnOf "_law_moved" "_law_moved" (defArgs s__law_moved) (defBody s__law_moved) (defScope s__law_moved) .none kV__law_moved dc__law_moved pm__law_moved an__law_moved cd__law_moved ct__law_moved), sl__law_moved⟩) (c__law_moved : PySem.W.codeIn K cd__law_moved "_law_moved" = true) (k__law_moved : PySem.W.keepIn K (.ref f__law_moved) = true)
    (a__law_same : PySem.W.nsIn K mainGlobals "_law_same" = some (some (.ref f__law_same))) (l__law_same : K.lookup f__law_same = some ⟨oc__law_same, od__law_same, .func (PySem.W.fnOf "_law_same" "_law_same" (defArgs s__law_same) (defBody s__law_same) (defScope s__law_same) .none kV__law_same dc__law_same pm__law_same an__law_same cd__law_same ct__law_same), sl__law_same⟩) (c__law_same : PySem.W.codeIn K cd__law_same "_law_same" = true) (k__law_same : PySem.W.keepIn K (.ref f__law_same) = true)
    (a_law : PySem.W.nsIn K mainGlobals "law" = some (some (.ref f_law))) (l_law : K.lookup f_law = some ⟨oc_law, od_law, .func (PySem.W.fnOf "law" "law" (defArgs s_law) (defBody s_law) (defScope s_law) .none kV_law dc_law pm_law an_law cd_law ct_law), sl_law⟩) (c_law : PySem.W.codeIn K cd_law "law" = true) (k_law : PySem.W.keepIn K (.ref f_law) = true)
    (z_abs : PySem.W.nsIn K mainGlobals "abs" = some none)
    (z_bool : PySem.W.nsIn K mainGlobals "bool" = some none)
    (z_int : PySem.W.nsIn K mainGlobals "int" = some none)
    (z_isinstance : PySem.W.nsIn K mainGlobals "isinstance" = some none)
    (z_len : PySem.W.nsIn K mainGlobals "len" = some none)
    (z_list : PySem.W.nsIn K mainGlobals "list" = some none)
    (z_max : PySem.W.nsIn K mainGlobals "max" = some none)
    (z_min : PySem.W.nsIn K mainGlobals "min" = some none)
    (z_range : PySem.W.nsIn K mainGlobals "range" = some none)
    (z_sorted : PySem.W.nsIn K mainGlobals "sorted" = some none)
    (z_tuple : PySem.W.nsIn K mainGlobals "tuple" = some none)
    (g_MOST_DELAY : PySem.W.nsIn K mainGlobals "MOST_DELAY" = some (some (.int 1000 u_MOST_DELAY)))
    (g_MOST_MOMENT : PySem.W.nsIn K mainGlobals "MOST_MOMENT" = some (some (.int 1000000 u_MOST_MOMENT)))
    (g_MOST_TRAIL : PySem.W.nsIn K mainGlobals "MOST_TRAIL" = some (some (.int 4 u_MOST_TRAIL)))
    (g_MOST_TTL : PySem.W.nsIn K mainGlobals "MOST_TTL" = some (some (.int 100000 u_MOST_TTL))) :
    ∃ fd : FuncData, (∀ (s : Shared) (v : Value), BindsTo s fd ⟨[v], []⟩ [("script", v)]) ∧ ∀ base : Heap, K.In base → base.Ns mainGlobals mg → FnOk l.prog w K mg base (L2.CX l.prog w) 5 fa fd ["script"] (spM K G0 1 m_law) := by
  have e := hfa.symm.trans (PySem.W.mg_of X G a_law)
  cases e
  have T : Tx mg := ⟨PySem.W.mg_none_of X G z_abs, PySem.W.mg_none_of X G z_bool, PySem.W.mg_none_of X G z_int, PySem.W.mg_none_of X G z_isinstance, PySem.W.mg_none_of X G z_len, PySem.W.mg_none_of X G z_list, PySem.W.mg_none_of X G z_max, PySem.W.mg_none_of X G z_min, PySem.W.mg_none_of X G z_range, PySem.W.mg_none_of X G z_sorted, PySem.W.mg_none_of X G z_tuple, ⟨_, PySem.W.mg_of X G g_MOST_DELAY⟩, ⟨_, PySem.W.mg_of X G g_MOST_MOMENT⟩, ⟨_, PySem.W.mg_of X G g_MOST_TRAIL⟩, ⟨_, PySem.W.mg_of X G g_MOST_TTL⟩⟩
  have F_is_integer := fun_mk (st := s_is_integer) l_is_integer c_is_integer k_is_integer
  have b_is_integer := F_is_integer.binds (ps := ["value"]) fun _ _ _ _ _ _ us hl => match us, hl with | [_], _ => rfl
  have F_is_between := fun_mk (st := s_is_between) l_is_between c_is_between k_is_between
  have b_is_between := F_is_between.binds (ps := ["value", "low", "high"]) fun _ _ _ _ _ _ us hl => match us, hl with | [_, _, _], _ => rfl
  have F_check_line := fun_mk (st := s_check_line) l_check_line c_check_line k_check_line
  have b_check_line := F_check_line.binds (ps := ["rules", "sent", "got", "age", "hops"]) fun _ _ _ _ _ _ us hl => match us, hl with | [_, _, _, _, _], _ => rfl
  have F_last_told := fun_mk (st := s_last_told) l_last_told c_last_told k_last_told
  have b_last_told := F_last_told.binds (ps := ["rules", "sent", "got"]) fun _ _ _ _ _ _ us hl => match us, hl with | [_, _, _], _ => rfl
  have F_window_of := fun_mk (st := s_window_of) l_window_of c_window_of k_window_of
  have b_window_of := F_window_of.binds (ps := ["rules", "sent", "got", "age", "hops"]) fun _ _ _ _ _ _ us hl => match us, hl with | [_, _, _, _, _], _ => rfl
  have F__law_pool := fun_mk (st := s__law_pool) l__law_pool c__law_pool k__law_pool
  have b__law_pool := F__law_pool.binds (ps := ["script"]) fun _ _ _ _ _ _ us hl => match us, hl with | [_], _ => rfl
  have F__law_take := fun_mk (st := s__law_take) l__law_take c__law_take k__law_take
  have b__law_take := F__law_take.binds (ps := ["pool", "many"]) fun _ _ _ _ _ _ us hl => match us, hl with | [_, _], _ => rfl
  have F__law_wide := fun_mk (st := s__law_wide) l__law_wide c__law_wide k__law_wide
  have b__law_wide := F__law_wide.binds (ps := ["pool", "many"]) fun _ _ _ _ _ _ us hl => match us, hl with | [_, _], _ => rfl
  have F__law_edge := fun_mk (st := s__law_edge) l__law_edge c__law_edge k__law_edge
  have b__law_edge := F__law_edge.binds (ps := ["pool", "most"]) fun _ _ _ _ _ _ us hl => match us, hl with | [_, _], _ => rfl
  have F__law_search := fun_mk (st := s__law_search) l__law_search c__law_search k__law_search
  have b__law_search := F__law_search.binds (ps := ["line"]) fun _ _ _ _ _ _ us hl => match us, hl with | [_], _ => rfl
  have F__law_formula := fun_mk (st := s__law_formula) l__law_formula c__law_formula k__law_formula
  have b__law_formula := F__law_formula.binds (ps := ["line"]) fun _ _ _ _ _ _ us hl => match us, hl with | [_], _ => rfl
  have F__law_small_line := fun_mk (st := s__law_small_line) l__law_small_line c__law_small_line k__law_small_line
  have b__law_small_line := F__law_small_line.binds (ps := ["pool"]) fun _ _ _ _ _ _ us hl => match us, hl with | [_], _ => rfl
  have F__law_whole_line := fun_mk (st := s__law_whole_line) l__law_whole_line c__law_whole_line k__law_whole_line
  have b__law_whole_line := F__law_whole_line.binds (ps := ["pool"]) fun _ _ _ _ _ _ us hl => match us, hl with | [_], _ => rfl
  have F__law_moved := fun_mk (st := s__law_moved) l__law_moved c__law_moved k__law_moved
  have b__law_moved := F__law_moved.binds (ps := ["pool", "line"]) fun _ _ _ _ _ _ us hl => match us, hl with | [_, _], _ => rfl
  have F__law_same := fun_mk (st := s__law_same) l__law_same c__law_same k__law_same
  have b__law_same := F__law_same.binds (ps := ["actual", "due"]) fun _ _ _ _ _ _ us hl => match us, hl with | [_, _], _ => rfl
  have F_law := fun_mk (st := s_law) l_law c_law k_law
  have b_law := F_law.binds (ps := ["script"]) fun _ _ _ _ _ _ us hl => match us, hl with | [_], _ => rfl
  refine ⟨PySem.W.fnOf "law" "law" (defArgs s_law) (defBody s_law) (defScope s_law) .none kV_law dc_law pm_law an_law cd_law ct_law, fun s v => .of_eq rfl, fun base _ _ => ?_⟩
  have O_is_integer : Ok l.prog w K mg base G0 1 "is_integer" ["value"] m_is_integer := ⟨_, _, PySem.W.mg_of X G a_is_integer, F_is_integer.kp, b_is_integer, d_is_integer F_is_integer T ⟩
  have O_is_between : Ok l.prog w K mg base G0 2 "is_between" ["value", "low", "high"] m_is_between := ⟨_, _, PySem.W.mg_of X G a_is_between, F_is_between.kp, b_is_between, d_is_between F_is_between T O_is_integer⟩
  have O_check_line : Ok l.prog w K mg base G0 3 "check_line" ["rules", "sent", "got", "age", "hops"] m_check_line := ⟨_, _, PySem.W.mg_of X G a_check_line, F_check_line.kp, b_check_line, d_check_line F_check_line T O_is_between⟩
  have O_last_told : Ok l.prog w K mg base G0 1 "last_told" ["rules", "sent", "got"] m_last_told := ⟨_, _, PySem.W.mg_of X G a_last_told, F_last_told.kp, b_last_told, d_last_told F_last_told T ⟩
  have O_window_of : Ok l.prog w K mg base G0 4 "window_of" ["rules", "sent", "got", "age", "hops"] m_window_of := ⟨_, _, PySem.W.mg_of X G a_window_of, F_window_of.kp, b_window_of, d_window_of F_window_of T O_check_line O_last_told⟩
  have O__law_pool : Ok l.prog w K mg base G0 1 "_law_pool" ["script"] m__law_pool := ⟨_, _, PySem.W.mg_of X G a__law_pool, F__law_pool.kp, b__law_pool, d__law_pool F__law_pool T ⟩
  have O__law_take : Ok l.prog w K mg base G0 1 "_law_take" ["pool", "many"] m__law_take := ⟨_, _, PySem.W.mg_of X G a__law_take, F__law_take.kp, b__law_take, d__law_take F__law_take T ⟩
  have O__law_wide : Ok l.prog w K mg base G0 2 "_law_wide" ["pool", "many"] m__law_wide := ⟨_, _, PySem.W.mg_of X G a__law_wide, F__law_wide.kp, b__law_wide, d__law_wide F__law_wide T O__law_take⟩
  have O__law_edge : Ok l.prog w K mg base G0 3 "_law_edge" ["pool", "most"] m__law_edge := ⟨_, _, PySem.W.mg_of X G a__law_edge, F__law_edge.kp, b__law_edge, d__law_edge F__law_edge T O__law_take O__law_wide⟩
  have O__law_search : Ok l.prog w K mg base G0 1 "_law_search" ["line"] m__law_search := ⟨_, _, PySem.W.mg_of X G a__law_search, F__law_search.kp, b__law_search, d__law_search F__law_search T ⟩
  have O__law_formula : Ok l.prog w K mg base G0 1 "_law_formula" ["line"] m__law_formula := ⟨_, _, PySem.W.mg_of X G a__law_formula, F__law_formula.kp, b__law_formula, d__law_formula F__law_formula T ⟩
  have O__law_small_line : Ok l.prog w K mg base G0 2 "_law_small_line" ["pool"] m__law_small_line := ⟨_, _, PySem.W.mg_of X G a__law_small_line, F__law_small_line.kp, b__law_small_line, d__law_small_line F__law_small_line T O__law_take⟩
  have O__law_whole_line : Ok l.prog w K mg base G0 4 "_law_whole_line" ["pool"] m__law_whole_line := ⟨_, _, PySem.W.mg_of X G a__law_whole_line, F__law_whole_line.kp, b__law_whole_line, d__law_whole_line F__law_whole_line T O__law_take O__law_wide O__law_edge⟩
  have O__law_moved : Ok l.prog w K mg base G0 2 "_law_moved" ["pool", "line"] m__law_moved := ⟨_, _, PySem.W.mg_of X G a__law_moved, F__law_moved.kp, b__law_moved, d__law_moved F__law_moved T O__law_take⟩
  have O__law_same : Ok l.prog w K mg base G0 1 "_law_same" ["actual", "due"] m__law_same := ⟨_, _, PySem.W.mg_of X G a__law_same, F__law_same.kp, b__law_same, d__law_same F__law_same T ⟩
  exact d_law (P := l.prog) (w := w) (base := base) F_law T O_window_of O__law_pool O__law_take O__law_search O__law_formula O__law_small_line O__law_whole_line O__law_moved O__law_same
end Lk25
open PySem PySem.W PyProof.Rows
set_option maxRecDepth 100000 in
set_option maxHeartbeats 0 in
theorem PySem.Challenge.cw_surely_k25_window_of_a_line_holds : PySem.Challenge.rw_surely_k25_window_of_a_line.Holds := by
  w_on; o_law; k_head; (case hw => w_witness2)
  k_fill
  refine Sm.walk_law (l := PySem.Challenge.rw_surely_k25_window_of_a_line) (f := Lk25.m_law) (G := Lk25.G0) (k := 5) rfl rfl (by exact ⟨rfl, by decide, by decide⟩) (fun w h Y => PySem.W.kIn_of Y) Lk25.main ?F
  case F =>
    intro w mg fa h KX G hmg
    refine' Lk25.all_mk KX G hmg ?a_is_integer ?l_is_integer ?c_is_integer ?k_is_integer ?a_is_between ?l_is_between ?c_is_between ?k_is_between ?a_check_line ?l_check_line ?c_check_line ?k_check_line ?a_last_told ?l_last_told ?c_last_told ?k_last_told ?a_window_of ?l_window_of ?c_window_of ?k_window_of ?a__law_pool ?l__law_pool ?c__law_pool ?k__law_pool ?a__law_take ?l__law_take ?c__law_take ?k__law_take ?a__law_wide ?l__law_wide ?c__law_wide ?k__law_wide ?a__law_edge ?l__law_edge ?c__law_edge ?k__law_edge ?a__law_search ?l__law_search ?c__law_search ?k__law_search ?a__law_formula ?l__law_formula ?c__law_formula ?k__law_formula ?a__law_small_line ?l__law_small_line ?c__law_small_line ?k__law_small_line ?a__law_whole_line ?l__law_whole_line ?c__law_whole_line ?k__law_whole_line ?a__law_moved ?l__law_moved ?c__law_moved ?k__law_moved ?a__law_same ?l__law_same ?c__law_same ?k__law_same ?a_law ?l_law ?c_law ?k_law ?z_abs ?z_bool ?z_int ?z_isinstance ?z_len ?z_list ?z_max ?z_min ?z_range ?z_sorted ?z_tuple ?g_MOST_DELAY ?g_MOST_MOMENT ?g_MOST_TRAIL ?g_MOST_TTL
    (case a_is_integer => k_is); (case l_is_integer => k_is); (case c_is_integer => k_is); (case k_is_integer => k_is); (case a_is_between => k_is); (case l_is_between => k_is); (case c_is_between => k_is); (case k_is_between => k_is); (case a_check_line => k_is); (case l_check_line => k_is); (case c_check_line => k_is); (case k_check_line => k_is); (case a_last_told => k_is); (case l_last_told => k_is); (case c_last_told => k_is); (case k_last_told => k_is); (case a_window_of => k_is); (case l_window_of => k_is); (case c_window_of => k_is); (case k_window_of => k_is); (case a__law_pool => k_is); (case l__law_pool => k_is); (case c__law_pool => k_is); (case k__law_pool => k_is); (case a__law_take => k_is); (case l__law_take => k_is); (case c__law_take => k_is); (case k__law_take => k_is); (case a__law_wide => k_is); (case l__law_wide => k_is); (case c__law_wide => k_is); (case k__law_wide => k_is); (case a__law_edge => k_is); (case l__law_edge => k_is); (case c__law_edge => k_is); (case k__law_edge => k_is); (case a__law_search => k_is); (case l__law_search => k_is); (case c__law_search => k_is); (case k__law_search => k_is); (case a__law_formula => k_is); (case l__law_formula => k_is); (case c__law_formula => k_is); (case k__law_formula => k_is); (case a__law_small_line => k_is); (case l__law_small_line => k_is); (case c__law_small_line => k_is); (case k__law_small_line => k_is); (case a__law_whole_line => k_is); (case l__law_whole_line => k_is); (case c__law_whole_line => k_is); (case k__law_whole_line => k_is); (case a__law_moved => k_is); (case l__law_moved => k_is); (case c__law_moved => k_is); (case k__law_moved => k_is); (case a__law_same => k_is); (case l__law_same => k_is); (case c__law_same => k_is); (case k__law_same => k_is); (case a_law => k_is); (case l_law => k_is); (case c_law => k_is); (case k_law => k_is); (case z_abs => k_is); (case z_bool => k_is); (case z_int => k_is); (case z_isinstance => k_is); (case z_len => k_is); (case z_list => k_is); (case z_max => k_is); (case z_min => k_is); (case z_range => k_is); (case z_sorted => k_is); (case z_tuple => k_is); (case g_MOST_DELAY => k_is); (case g_MOST_MOMENT => k_is); (case g_MOST_TRAIL => k_is); (case g_MOST_TTL => k_is)
