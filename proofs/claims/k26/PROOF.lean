import PyProof.Rows.All
import Wide.All
import OpenK.AllK
import Wide.FinOn
import HandS.ForMost
import HandS.ForExc
import HandS.CallSlots
import HandS.IsInst
import HandS.TupAny
import HandS.Style
import HandS.TupLe
import HandS.SortInts
import HandS.Conv
import HandS.TupLen
import HandS.Small
import HandS.More
import KE.KSortedM
import HandS.Comp
import HandS.Iter
import PySem.Challenge.RW_surely_k26_stories_fill_the_window
set_option Elab.async false
set_option linter.all false
set_option maxRecDepth 100000
set_option maxHeartbeats 4000000
/-! SmA: plain data, a plain heap, how both stand in the model's abstract heap; results; readings by a plain function. -/
namespace Sm
open PySem L2

/-! ### plain data -/
inductive D where
  | non | bl (b : Bool) | int (i : Int) | str (x : Str) | tup (ds : List D) | fls (ds : List D) | ref (n : Nat)
inductive O where
  | lst (xs : List D) | dK (kvs : List (Key × D)) | dT (kvs : List (List Key × D)) | ins (c : Nat) (fs : List (Option D))
abbrev Hh := List O
abbrev Ev := List (Option D)
/-- classes by number: where they stand, their attributes in order -/
structure Cl where
  at_ : Nat → Addr
  nm : Nat → List Str

/-- a tuple of the module's own top -/
def KT (K : PySem.W.Frag) (a : Addr) (xs : List V) : Prop := ∃ (o : Obj) (its : Array Value) (n : Nat), K.lookup a = some o ∧ o.cls = .type "tuple" ∧ o.data = .seq its n ∧ its.size ≤ sizeLine ∧ Vals xs its.toList
/-- a list that stands still: the script -/
def FL (K : PySem.W.Frag) (H : Hp) (a : Addr) (xs : List V) : Prop := (∃ o, H a = some (.frz o (.lst xs))) ∨
  ∃ (o : Obj) (its : Array Value) (n : Nat), K.lookup a = some o ∧ o.cls = .type "list" ∧ o.dict = none ∧ o.data = .seq its n ∧ its.size ≤ sizeLine ∧ Vals xs its.toList
theorem FL.sq {K : PySem.W.Frag} {H : Hp} {a : Addr} {xs : List V} (h : FL K H a xs) : SqL K H a xs := h.elim (fun ⟨o, e⟩ => .inl (.inr ⟨o, e⟩)) .inr
def D.isStr : D → Bool
  | .str _ => true
  | _ => false
/-- what such a tuple looks like: words, or ((), 0) -/
def isK : List D → Bool
  | [.str _] => true
  | [.tup [], .int _] => true
  | ds => decide (2 ≤ ds.length) && ds.all D.isStr
section
variable (K : PySem.W.Frag) (ρ : List Addr) (H : Hp)
mutual
inductive Rv : V → D → Prop where
  | non : Rv .non .non
  | bl (b : Bool) : Rv (.bl b) (.bl b)
  | int (i : Int) : Rv (.int i) (.int i)
  | str (x : Str) : Rv (.str x) (.str x)
  | tup {a : Addr} {vs : List V} {ds : List D} : H a = some (.tup vs) → Rvs vs ds → Rv (.ref a) (.tup ds)
  | ktp {a : Addr} {vs : List V} {ds : List D} : KT K a vs → isK ds = true → Rvs vs ds → Rv (.ref a) (.tup ds)
  | fls {a : Addr} {vs : List V} {ds : List D} : FL K H a vs → Rvs vs ds → Rv (.ref a) (.fls ds)
  | ref {n : Nat} {a : Addr} : ρ[n]? = some a → Rv (.ref a) (.ref n)
inductive Rvs : List V → List D → Prop where
  | nil : Rvs [] []
  | cons {v : V} {vs : List V} {d : D} {ds : List D} : Rv v d → Rvs vs ds → Rvs (v :: vs) (d :: ds)
end
end

/-- later: more addresses are known, tuples stand as they did -/
structure Ex (K : PySem.W.Frag) (ρ : List Addr) (H : Hp) (ρ' : List Addr) (H' : Hp) : Prop where
  pre : ∀ (n : Nat) (a : Addr), ρ[n]? = some a → ρ'[n]? = some a
  tup : ∀ a vs, H a = some (.tup vs) → H' a = some (.tup vs)
  frz : ∀ a o u, H a = some (.frz o u) → H' a = some (.frz o u)
theorem Ex.refl {K : PySem.W.Frag} {ρ : List Addr} {H : Hp} : Ex K ρ H ρ H := ⟨fun _ _ h => h, fun _ _ h => h, fun _ _ _ h => h⟩
theorem Ex.trans {K : PySem.W.Frag} {ρ ρ1 ρ2 : List Addr} {H H1 H2 : Hp} (a : Ex K ρ H ρ1 H1) (b : Ex K ρ1 H1 ρ2 H2) : Ex K ρ H ρ2 H2 :=
  ⟨fun n x h => b.pre n x (a.pre n x h), fun x vs h => b.tup x vs (a.tup x vs h), fun x o u h => b.frz x o u (a.frz x o u h)⟩

section
variable {K : PySem.W.Frag} {ρ ρ' : List Addr} {H H' : Hp}
mutual
theorem Rv.mono (e : Ex K ρ H ρ' H') : ∀ {v : V} {d : D}, Rv K ρ H v d → Rv K ρ' H' v d
  | _, _, .non => .non
  | _, _, .bl b => .bl b
  | _, _, .int i => .int i
  | _, _, .str x => .str x
  | _, _, .tup h r => .tup (e.tup _ _ h) (Rvs.mono e r)
  | _, _, .ktp h q r => .ktp h q (Rvs.mono e r)
  | _, _, .fls h r => .fls (h.imp (fun ⟨o, z⟩ => ⟨o, e.frz _ _ _ z⟩) id) (Rvs.mono e r)
  | _, _, .ref h => .ref (e.pre _ _ h)
theorem Rvs.mono (e : Ex K ρ H ρ' H') : ∀ {vs : List V} {ds : List D}, Rvs K ρ H vs ds → Rvs K ρ' H' vs ds
  | _, _, .nil => .nil
  | _, _, .cons h r => .cons (Rv.mono e h) (Rvs.mono e r)
end
theorem Rv.sqT {v : V} {ds : List D} (r : Rv K ρ H v (.tup ds)) : ∃ a vs, v = .ref a ∧ SqT K H a vs ∧ Rvs K ρ H vs ds := by
  cases r with
  | tup h r => exact ⟨_, _, rfl, SqT.of h, r⟩
  | ktp h _ r => exact ⟨_, _, rfl, .inr h, r⟩
theorem Rvs.length : ∀ {vs : List V} {ds : List D}, Rvs K ρ H vs ds → vs.length = ds.length
  | _, _, .nil => rfl
  | _, _, .cons _ r => by rw [List.length_cons, List.length_cons, Rvs.length r]
theorem Rvs.get : ∀ {vs : List V} {ds : List D} {i : Nat} {d : D}, Rvs K ρ H vs ds → ds[i]? = some d → ∃ v, vs[i]? = some v ∧ Rv K ρ H v d
  | _, _, _, _, .nil, e => by simp at e
  | _, _, 0, _, .cons h r, e => by simp at e; subst e; exact ⟨_, rfl, h⟩
  | _, _, i + 1, _, .cons h r, e => by
    obtain ⟨v, h1, h2⟩ := Rvs.get (i := i) r (by simpa using e)
    exact ⟨v, by simpa using h1, h2⟩
theorem Rvs.getV : ∀ {vs : List V} {ds : List D} {i : Nat} {v : V}, Rvs K ρ H vs ds → vs[i]? = some v → ∃ d, ds[i]? = some d ∧ Rv K ρ H v d
  | _, _, _, _, .nil, e => by simp at e
  | _, _, 0, _, .cons h r, e => by simp at e; subst e; exact ⟨_, rfl, h⟩
  | _, _, i + 1, _, .cons h r, e => by
    obtain ⟨v, h1, h2⟩ := Rvs.getV (i := i) r (by simpa using e)
    exact ⟨v, by simpa using h1, h2⟩
theorem Rvs.append : ∀ {vs ws : List V} {ds es : List D}, Rvs K ρ H vs ds → Rvs K ρ H ws es → Rvs K ρ H (vs ++ ws) (ds ++ es)
  | _, _, _, _, .nil, s => s
  | _, _, _, _, .cons h r, s => .cons h (Rvs.append r s)
theorem Rvs.set {v : V} {d : D} (h : Rv K ρ H v d) : ∀ {vs : List V} {ds : List D} (i : Nat), Rvs K ρ H vs ds → Rvs K ρ H (vs.set i v) (ds.set i d)
  | _, _, _, .nil => .nil
  | _, _, 0, .cons _ r => .cons h r
  | _, _, i + 1, .cons q r => .cons q (Rvs.set h i r)
theorem Rvs.take : ∀ {vs : List V} {ds : List D} (n : Nat), Rvs K ρ H vs ds → Rvs K ρ H (vs.take n) (ds.take n)
  | _, _, 0, _ => .nil
  | _, _, _ + 1, .nil => .nil
  | _, _, n + 1, .cons h r => .cons h (Rvs.take n r)
theorem Rvs.drop : ∀ {vs : List V} {ds : List D} (n : Nat), Rvs K ρ H vs ds → Rvs K ρ H (vs.drop n) (ds.drop n)
  | _, _, 0, r => r
  | _, _, _ + 1, .nil => .nil
  | _, _, n + 1, .cons _ r => Rvs.drop n r
theorem Rvs.reverse {vs : List V} {ds : List D} (h : Rvs K ρ H vs ds) : Rvs K ρ H vs.reverse ds.reverse := by
  induction vs generalizing ds with
  | nil => cases h; exact .nil
  | cons v vs ih =>
    cases h with
    | cons h r =>
      rw [List.reverse_cons, List.reverse_cons]
      exact (ih r).append (.cons h .nil)
theorem Rvs.dropLast {vs : List V} {ds : List D} (h : Rvs K ρ H vs ds) : Rvs K ρ H vs.dropLast ds.dropLast := by
  rw [List.dropLast_eq_take, List.dropLast_eq_take, h.length]
  exact h.take _
theorem Rvs.ints : ∀ {vs : List V} {ns : List Int}, Rvs K ρ H vs (ns.map D.int) → vs = ns.map V.int
  | _, [], h => by cases h; rfl
  | _, n :: ns, h => by
    cases h with
    | cons h r =>
      cases h
      rw [Rvs.ints r]
      rfl
theorem Rvs.of_ints : ∀ ns : List Int, Rvs K ρ H (ns.map V.int) (ns.map D.int)
  | [] => .nil
  | n :: ns => .cons (.int n) (Rvs.of_ints ns)
end

/-! ### the plain heap in the abstract one -/
section
variable (K : PySem.W.Frag) (G : Cl) (ρ : List Addr) (H : Hp)
def RoF : Option V → Option D → Prop
  | some v, some d => Rv K ρ H v d
  | none, none => True
  | _, _ => False
inductive Ro (a : Addr) : O → Prop where
  | lst {vs : List V} {ds : List D} : H a = some (.lst vs) → Rvs K ρ H vs ds → Ro a (.lst ds)
  | dK {kvs : List (Key × V)} {ds : List (Key × D)} : H a = some (.dK kvs) → Paired (fun (p : Key × V) (q : Key × D) => p.1 = q.1 ∧ Rv K ρ H p.2 q.2) kvs ds → Ro a (.dK ds)
  | dT {kvs : List (List Key × V)} {ds : List (List Key × D)} : H a = some (.dT kvs) → Paired (fun (p : List Key × V) (q : List Key × D) => p.1 = q.1 ∧ Rv K ρ H p.2 q.2) kvs ds → Ro a (.dT ds)
  | ins {c : Nat} {dx : Addr} {fs : List (Str × V)} {ds : List (Option D)} : H a = some (.ins (G.at_ c) dx fs) → ds.length = (G.nm c).length → (∀ (i : Nat) (f : Str), (G.nm c)[i]? = some f → RoF K ρ H (fs.lookup f) (ds[i]?.join)) →
      (∀ f, f ∉ G.nm c → fs.lookup f = none) → fs.length ≤ ds.length → Ro a (.ins c ds)
structure Rh (h : Hh) : Prop where
  len : ρ.length = h.length
  inj : ∀ (i j : Nat) (a : Addr), ρ[i]? = some a → ρ[j]? = some a → i = j
  obj : ∀ (n : Nat) (o : O), h[n]? = some o → ∃ a : Addr, ρ[n]? = some a ∧ Ro K G ρ H a o
structure Re (σ : L2.St) (env : Ev) : Prop where
  len : σ.length = env.length
  get : ∀ (i : Nat) (d : D), env[i]? = some (some d) → ∃ v : V, σ[i]? = some (some v) ∧ Rv K ρ H v d
/-- an exception's dict -/
def Rx (d : Option Addr) (c : Nat) (fs : List D) : Prop := ∃ (x : Addr) (vfs : List (Str × V)), d = some x ∧ H x = some (.xd vfs) ∧ fs.length = (G.nm c).length ∧ ∀ (i : Nat) (f : Str), (G.nm c)[i]? = some f → ∃ (v : V) (y : D), vfs.lookup f = some v ∧ fs[i]? = some y ∧ Rv K ρ H v y
end

section
variable {K : PySem.W.Frag} {G : Cl} {ρ ρ' : List Addr} {H H' : Hp} {h h' : Hh} {a : Addr} {o : O} {σ : L2.St} {env : Ev}
theorem RoF.mono (e : Ex K ρ H ρ' H') {v : Option V} {d : Option D} (r : RoF K ρ H v d) : RoF K ρ' H' v d := by
  cases v with
  | none => cases d with | none => trivial | some d => exact r.elim
  | some v => cases d with | none => exact r.elim | some d => exact Rv.mono e r
theorem Ro.mono (e : Ex K ρ H ρ' H') (ha : H' a = H a) (r : Ro K G ρ H a o) : Ro K G ρ' H' a o := by
  cases r with
  | lst q r => exact .lst (ha.trans q) (r.mono e)
  | dK q r => exact .dK (ha.trans q) (Paired.mapP r fun _ _ z => ⟨z.1, z.2.mono e⟩)
  | dT q r => exact .dT (ha.trans q) (Paired.mapP r fun _ _ z => ⟨z.1, z.2.mono e⟩)
  | ins q l r n z => exact .ins (ha.trans q) l (fun i f hf => (r i f hf).mono e) n z
theorem Ro.there (r : Ro K G ρ H a o) : ∃ u, H a = some u ∧ (∀ xs, u ≠ .tup xs) ∧ (∀ ob w, u ≠ .frz ob w) := by
  cases r with
  | lst q _ => exact ⟨_, q, (fun xs z => by cases z), (fun ob xs z => by cases z)⟩
  | dK q _ => exact ⟨_, q, (fun xs z => by cases z), (fun ob xs z => by cases z)⟩
  | dT q _ => exact ⟨_, q, (fun xs z => by cases z), (fun ob xs z => by cases z)⟩
  | ins q _ _ _ _ => exact ⟨_, q, (fun xs z => by cases z), (fun ob xs z => by cases z)⟩
theorem Re.mono (e : Ex K ρ H ρ' H') (r : Re K ρ H σ env) : Re K ρ' H' σ env := ⟨r.len, fun i d h => by
  obtain ⟨v, h1, h2⟩ := r.get i d h
  exact ⟨v, h1, h2.mono e⟩⟩
theorem Re.set (r : Re K ρ H σ env) {v : V} {d : D} (q : Rv K ρ H v d) (i : Nat) : Re K ρ H (σ.set i (some v)) (env.set i (some d)) := ⟨by rw [List.length_set, List.length_set, r.len], fun j x h => by
  by_cases e : i = j
  · subst e
    by_cases l : i < env.length
    · rw [List.getElem?_set_self l] at h
      cases h
      exact ⟨v, List.getElem?_set_self (by rw [r.len]; exact l), q⟩
    · rw [List.getElem?_eq_none (by rw [List.length_set]; omega)] at h
      cases h
  · rw [List.getElem?_set_ne e] at h ⊢
    exact r.get j x h⟩
theorem tup_upd {p : Addr} {u : HO} (n : ∀ vs, H p ≠ some (.tup vs)) {a : Addr} {vs : List V} (h : H a = some (.tup vs)) : upd H p u a = some (.tup vs) := by
  rw [upd_ne (fun z => by rw [z] at h; exact n _ h)]
  exact h
theorem frz_upd {p : Addr} {u : HO} (n : ∀ o w, H p ≠ some (.frz o w)) {a : Addr} {o : Obj} {w : HO} (h : H a = some (.frz o w)) : upd H p u a = some (.frz o w) := by
  rw [upd_ne (fun z => by rw [z] at h; exact n _ _ h)]
  exact h
theorem Ex.fresh {p : Addr} {u : HO} (n : H p = none) : Ex K ρ H ρ (upd H p u) := ⟨fun _ _ h => h, fun a vs h => tup_upd (fun vs z => by rw [n] at z; cases z) h, fun a o w h => frz_upd (fun o w z => by rw [n] at z; cases z) h⟩
/-- a further object, not of the plain heap -/
theorem Rh.aux {p : Addr} {u : HO} (r : Rh K G ρ H h) (n : H p = none) : Rh K G ρ (upd H p u) h := ⟨r.len, r.inj, fun m o q => by
  obtain ⟨a, h1, h2⟩ := r.obj m o q
  obtain ⟨w, hw, _⟩ := h2.there
  exact ⟨a, h1, h2.mono (Ex.fresh n) (upd_ne (ne_of_none hw n))⟩⟩
theorem get_push {α : Type} {l : List α} {x y : α} {n : Nat} (e : (l ++ [x])[n]? = some y) : (n < l.length ∧ l[n]? = some y) ∨ (n = l.length ∧ x = y) := by
  by_cases q : n < l.length
  · rw [List.getElem?_append_left q] at e
    exact .inl ⟨q, e⟩
  · rw [List.getElem?_append_right (by omega)] at e
    by_cases q2 : n = l.length
    · subst q2
      simp at e
      exact .inr ⟨rfl, e⟩
    · rw [List.getElem?_eq_none (by simp; omega)] at e
      cases e
theorem get_push_lt {α : Type} {l : List α} {x y : α} {n : Nat} (e : l[n]? = some y) : (l ++ [x])[n]? = some y := by
  have q : n < l.length := (List.getElem?_eq_some_iff.mp e).1
  rw [List.getElem?_append_left q]
  exact e
theorem get_push_eq {α : Type} {l : List α} {x : α} : (l ++ [x])[l.length]? = some x := by simp
theorem Ex.push {p : Addr} {u : HO} (n : H p = none) : Ex K ρ H (ρ ++ [p]) (upd H p u) := ⟨fun m a e => get_push_lt e, (Ex.fresh (K := K) (ρ := ρ) n).tup, (Ex.fresh (K := K) (ρ := ρ) n).frz⟩
/-- a new object of the plain heap -/
theorem Rh.new {p : Addr} {u : HO} (r : Rh K G ρ H h) (n : H p = none) (ro : Ro K G (ρ ++ [p]) (upd H p u) p o) : Rh K G (ρ ++ [p]) (upd H p u) (h ++ [o]) := by
  have far : ∀ (m : Nat), ρ[m]? ≠ some p := fun m z => by
    have hm : m < h.length := by rw [← r.len]; exact (List.getElem?_eq_some_iff.mp z).1
    obtain ⟨a, h1, h2⟩ := r.obj m h[m] (by simp [hm])
    rw [z] at h1
    cases h1
    obtain ⟨w, hw, _⟩ := h2.there
    rw [n] at hw
    cases hw
  refine ⟨by rw [List.length_append, List.length_append, r.len]; rfl, fun i j a h1 h2 => ?_, fun m o' q => ?_⟩
  · rcases get_push h1 with ⟨l1, e1⟩ | ⟨l1, e1⟩
    · rcases get_push h2 with ⟨l2, e2⟩ | ⟨l2, e2⟩
      · exact r.inj i j a e1 e2
      · subst e2
        exact absurd e1 (far i)
    · rcases get_push h2 with ⟨l2, e2⟩ | ⟨l2, e2⟩
      · subst e1
        exact absurd e2 (far j)
      · rw [l1, l2]
  · rcases get_push q with ⟨l1, e1⟩ | ⟨l1, e1⟩
    · obtain ⟨a, h1, h2⟩ := r.obj m o' e1
      obtain ⟨w, hw, _⟩ := h2.there
      exact ⟨a, get_push_lt h1, h2.mono (Ex.push n) (upd_ne (ne_of_none hw n))⟩
    · subst e1
      refine ⟨p, ?_, ro⟩
      rw [l1, ← r.len]
      exact get_push_eq
/-- an object of the plain heap is changed -/
theorem Ex.write {n : Nat} {u : HO} (r : Rh K G ρ H h) (ha : ρ[n]? = some a) (ho : h[n]? = some o) : Ex K ρ H ρ (upd H a u) := by
  obtain ⟨a', h1, h2⟩ := r.obj n o ho
  rw [ha] at h1
  cases h1
  obtain ⟨w, hw, t1, t2⟩ := h2.there
  refine ⟨fun _ _ h => h, fun b vs h => tup_upd (fun vs z => ?_) h, fun b o w h => frz_upd (fun o w z => ?_) h⟩
  · rw [hw] at z
    exact t1 vs (Option.some.inj z)
  · rw [hw] at z
    exact t2 o w (Option.some.inj z)
theorem Rh.write {n : Nat} {u : HO} {o' : O} (r : Rh K G ρ H h) (ha : ρ[n]? = some a) (ho : h[n]? = some o) (ro : Ro K G ρ (upd H a u) a o') : Rh K G ρ (upd H a u) (h.set n o') := by
  refine ⟨by rw [List.length_set]; exact r.len, r.inj, fun m o2 q => ?_⟩
  have hn : n < h.length := (List.getElem?_eq_some_iff.mp ho).1
  by_cases e : n = m
  · subst e
    rw [List.getElem?_set_self hn] at q
    cases q
    exact ⟨a, ha, ro⟩
  · rw [List.getElem?_set_ne e] at q
    obtain ⟨b, h1, h2⟩ := r.obj m o2 q
    refine ⟨b, h1, h2.mono (Ex.write r ha ho) (upd_ne fun z => ?_)⟩
    rw [z] at h1
    exact e (r.inj n m a ha h1)
theorem Rh.at_ {n : Nat} (r : Rh K G ρ H h) (ha : ρ[n]? = some a) (ho : h[n]? = some o) : Ro K G ρ H a o := by
  obtain ⟨b, h1, h2⟩ := r.obj n o ho
  rw [ha] at h1
  cases h1
  exact h2
end

/-! ### results -/
inductive R (α : Type) where
  | ok (a : α) (h : Hh) | exc (c : Nat) (fs : List D) (h : Hh) | bad
def R.bind {α β : Type} (r : R α) (f : α → Hh → R β) : R β := match r with
  | .ok a h => f a h
  | .exc c fs h => .exc c fs h
  | .bad => .bad
@[simp] theorem R.bind_ok {α β : Type} (a : α) (h : Hh) (f : α → Hh → R β) : (R.ok a h).bind f = f a h := rfl
@[simp] theorem R.bind_exc {α β : Type} (c : Nat) (fs : List D) (h : Hh) (f : α → Hh → R β) : (R.exc c fs h : R α).bind f = .exc c fs h := rfl
@[simp] theorem R.bind_bad {α β : Type} (f : α → Hh → R β) : (R.bad : R α).bind f = .bad := rfl
/-- of an option -/
def R.opt {α : Type} : Option (α × Hh) → R α
  | some (a, h) => .ok a h
  | none => .bad
@[simp] theorem R.opt_some {α : Type} (a : α) (h : Hh) : R.opt (some (a, h)) = .ok a h := rfl
@[simp] theorem R.opt_none {α : Type} : R.opt (none : Option (α × Hh)) = .bad := rfl

section
variable (K : PySem.W.Frag) (G : Cl)
/-- what a result promises -/
def Po {α β : Type} (rel : List Addr → Hp → β → α → Prop) (W : WX) (ρ : List Addr) (H : Hp) (σ : L2.St) (r : R α) (Q : β → Hp → Prop) : Prop := match r with
  | .ok d h' => ∀ ρ' H' v, Ex K ρ H ρ' H' → Rh K G ρ' H' h' → rel ρ' H' v d → Q v H'
  | .exc c fs h' => ∀ ρ' H' d, Ex K ρ H ρ' H' → Rh K G ρ' H' h' → Rx K G ρ' H' d c fs → W (.ref (G.at_ c)) d σ H'
  | .bad => False
def tG {α β : Type} (rel : List Addr → Hp → β → α → Prop) (W : WX) (m : Ev → Hh → R α) : L2.St → Hp → (β → Hp → Prop) → Prop := fun σ H Q =>
  ∃ ρ h env, Rh K G ρ H h ∧ Re K ρ H σ env ∧ Po K G rel W ρ H σ (m env h) Q
abbrev relV : List Addr → Hp → V → D → Prop := fun ρ H => Rv K ρ H
abbrev relVs : List Addr → Hp → List V → List D → Prop := fun ρ H => Rvs K ρ H
abbrev relB : List Addr → Hp → Bool → Bool → Prop := fun _ _ b c => b = c
abbrev tM (W : WX) (m : Ev → Hh → R D) : TE := tG K G (relV K) W m
abbrev tL (W : WX) (m : Ev → Hh → R (List D)) : TA := tG K G (relVs K) W m
abbrev tT (W : WX) (m : Ev → Hh → R Bool) : TT := tG K G relB W m
end
section
variable {K : PySem.W.Frag} {G : Cl} {α β γ δ : Type} {rel : List Addr → Hp → β → α → Prop} {rel2 : List Addr → Hp → δ → γ → Prop} {W : WX} {ρ ρ1 : List Addr} {H H1 : Hp} {σ : L2.St} {Q : β → Hp → Prop} {h : Hh} {env : Ev}
theorem Po.shift {r : R α} (p : Po K G rel W ρ H σ r Q) (e : Ex K ρ H ρ1 H1) : Po K G rel W ρ1 H1 σ r Q := by
  cases r with
  | ok d h' => exact fun ρ' H' v e' => p ρ' H' v (e.trans e')
  | exc c fs h' => exact fun ρ' H' d e' => p ρ' H' d (e.trans e')
  | bad => exact p
theorem Po.imp {Q' : β → Hp → Prop} {r : R α} (p : Po K G rel W ρ H σ r Q) (hq : ∀ v H, Q v H → Q' v H) : Po K G rel W ρ H σ r Q' := by
  cases r with
  | ok d h' => exact fun ρ' H' v e a b => hq _ _ (p ρ' H' v e a b)
  | exc c fs h' => exact p
  | bad => exact p
/-- where one stands behind a first step -/
def Thn (K : PySem.W.Frag) (G : Cl) (rel : List Addr → Hp → β → α → Prop) (rel2 : List Addr → Hp → δ → γ → Prop) (W : WX) (σ : L2.St) (env : Ev) (f : α → Hh → R γ) (Q : δ → Hp → Prop) (ρ : List Addr) (H : Hp) (v : β) (H1 : Hp) : Prop :=
  ∃ ρ1 h1 d, Ex K ρ H ρ1 H1 ∧ Rh K G ρ1 H1 h1 ∧ Re K ρ1 H1 σ env ∧ rel ρ1 H1 v d ∧ Po K G rel2 W ρ1 H1 σ (f d h1) Q
theorem Po.bind {r : R α} {f : α → Hh → R γ} {Q : δ → Hp → Prop} (he : Re K ρ H σ env) (p : Po K G rel2 W ρ H σ (r.bind f) Q) : Po K G rel W ρ H σ r (Thn K G rel rel2 W σ env f Q ρ H) := by
  cases r with
  | ok d h' => exact fun ρ' H' v e a b => ⟨ρ', h', d, e, a, he.mono e, b, Po.shift p e⟩
  | exc c fs h' => exact p
  | bad => exact p
theorem tG_bind {m : Ev → Hh → R α} {f : α → Hh → R γ} {Q : δ → Hp → Prop} (hr : Rh K G ρ H h) (he : Re K ρ H σ env) (p : Po K G rel2 W ρ H σ ((m env h).bind f) Q) : tG K G rel W m σ H (Thn K G rel rel2 W σ env f Q ρ H) :=
  ⟨ρ, h, env, hr, he, Po.bind he p⟩
end
/-! a reading may be replaced by a stronger one -/
theorem peImp {X : Cx} {e : Expr} {t t' : TE} (h : PE X e t) (i : ∀ σ H Q, t' σ H Q → t σ H Q) : PE X e t' := ⟨fun pins s σ H Q I q => h.run pins s σ H Q I (i σ H Q q)⟩
theorem ptImp {X : Cx} {e : Expr} {t t' : TT} (h : PT X e t) (i : ∀ σ H Q, t' σ H Q → t σ H Q) : PT X e t' := ⟨fun pins s σ H Q I q => h.run pins s σ H Q I (i σ H Q q)⟩
theorem pwImp {X : Cx} {e : Expr} {t t' : TT} (h : PW X e t) (i : ∀ σ H Q, t' σ H Q → t σ H Q) : PW X e t' := ⟨fun wh pins s σ H Q I q => h.run wh pins s σ H Q I (i σ H Q q)⟩
theorem paImp {X : Cx} {e : List Expr} {t t' : TA} (h : PA X e t) (i : ∀ σ H Q, t' σ H Q → t σ H Q) : PA X e t' := ⟨fun pos pins s σ H Q I q => h.run pos pins s σ H Q I (i σ H Q q)⟩
theorem psImp {X : Cx} {e : Stmt} {t t' : TS} (h : PS X e t) (i : ∀ D σ H, t' D σ H → t D σ H) : PS X e t' := ⟨fun pins s σ H D I q => h.run pins s σ H D I (i D σ H q)⟩
theorem pssImp {X : Cx} {e : List Stmt} {t t' : TS} (h : PSs X e t) (i : ∀ D σ H, t' D σ H → t D σ H) : PSs X e t' := ⟨fun pins s σ H D I q => h.run pins s σ H D I (i D σ H q)⟩
end Sm
/-! SmB: expressions. -/
namespace Sm
open PySem L2 PyProof.Rows

abbrev M := Ev → Hh → R D
section
variable {K : PySem.W.Frag} {G : Cl} {α β γ δ : Type} {rel : List Addr → Hp → β → α → Prop} {W : WX} {ρ ρ1 : List Addr} {H H1 : Hp} {σ : L2.St} {h : Hh} {env : Ev}
theorem tG_mono {m : Ev → Hh → R α} {Q Q' : β → Hp → Prop} (t : tG K G rel W m σ H Q) (hq : ∀ v H, Q v H → Q' v H) : tG K G rel W m σ H Q' := by
  obtain ⟨ρ, h, env, hr, he, p⟩ := t
  exact ⟨ρ, h, env, hr, he, p.imp hq⟩
theorem Po.ok {d : α} {Q : β → Hp → Prop} {v : β} (p : Po K G rel W ρ H σ (.ok d h) Q) (hr : Rh K G ρ H h) (r : rel ρ H v d) : Q v H := p ρ H v Ex.refl hr r
/-- an option's promise, once it is known -/
theorem Po.opt {o : Option (α × Hh)} {Q : β → Hp → Prop} (p : Po K G rel W ρ H σ (R.opt o) Q) : ∃ d h', o = some (d, h') ∧ ∀ ρ' H' v, Ex K ρ H ρ' H' → Rh K G ρ' H' h' → rel ρ' H' v d → Q v H' := by
  cases o with
  | none => exact p.elim
  | some q => exact ⟨q.1, q.2, rfl, p⟩
/-- the frame: known to be known -/
theorem tG_intro {m : Ev → Hh → R α} {Q : β → Hp → Prop} (hr : Rh K G ρ H h) (he : Re K ρ H σ env) (p : Po K G rel W ρ H σ (m env h) Q) : tG K G rel W m σ H Q := ⟨ρ, h, env, hr, he, p⟩
end

/-! ### names, constants -/
def eV (i : Nat) : M := fun env h => match env[i]? with
  | some (some d) => .ok d h
  | _ => .bad
def eC (d : D) : M := fun _ h => .ok d h
section
variable {X : Cx} {G : Cl} {W : WX} {e a b c : Expr} {es : List Expr} {pos : Pos}
theorem se_varP {i : Nat} (hp : PE X e (tVar i)) : PE X e (tM X.K G W (eV i)) := peImp hp fun σ H Q t => by
  obtain ⟨ρ, h, env, hr, he, p⟩ := t
  unfold eV at p
  cases q : env[i]? with
  | none => rw [q] at p; exact p.elim
  | some o =>
    cases o with
    | none => rw [q] at p; exact p.elim
    | some d =>
      rw [q] at p
      obtain ⟨v, h1, h2⟩ := he.get i d q
      exact ⟨v, h1, p.ok hr h2⟩
theorem se_var (i : Nat) {x : Str} (hN : X.N[i]? = some x := by rfl) (hv : Vis X.env.scope x := by first | exact Or.inl rfl | exact Or.inr (Or.inl rfl) | exact Or.inr (Or.inr rfl)) (hd : (x == ("__debug__" : Str)) = false := by decide)
    (hcd : (x == ("__classdict__" : Str)) = false := by decide) : PE X (.Name x pos) (tM X.K G W (eV i)) := se_varP (pe_var hN hv hd hcd)
theorem se_c {v : V} {d : D} (hp : PE X e (tC v)) (r : ∀ ρ H, Rv X.K ρ H v d) : PE X e (tM X.K G W (eC d)) := peImp hp fun σ H Q t => by
  obtain ⟨ρ, h, env, hr, he, p⟩ := t
  exact p.ok hr (r ρ H)
theorem se_int {i : Int} {j} : PE X (.Constant (.int i) j pos) (tM X.K G W (eC (.int i))) := se_c pe_int fun _ _ => .int i
theorem se_bl {b : Bool} {j} : PE X (.Constant (.bool b) j pos) (tM X.K G W (eC (.bl b))) := se_c pe_bl fun _ _ => .bl b
theorem se_non {j} : PE X (.Constant .none j pos) (tM X.K G W (eC .non)) := se_c pe_non fun _ _ => .non
theorem se_str {x : Str} {j} : PE X (.Constant (.str x) j pos) (tM X.K G W (eC (.str x))) := se_c pe_str fun _ _ => .str x
/-- a module's constant -/
theorem se_globI {x : Str} {i : Int} {u : Tok} (hg : Gl X x) (hm : X.mg x = some (.int i u)) (hd : (x == ("__debug__" : Str)) = false := by decide) : PE X (.Name x pos) (tM X.K G W (eC (.int i))) :=
  se_c (v := .int i) (pe_glob hg hm ⟨u, rfl⟩ hd) fun _ _ => .int i
theorem se_globS {x y : Str} {u : Tok} (hg : Gl X x) (hm : X.mg x = some (.str y u)) (hd : (x == ("__debug__" : Str)) = false := by decide) : PE X (.Name x pos) (tM X.K G W (eC (.str y))) :=
  se_c (v := .str y) (pe_glob hg hm ⟨u, rfl⟩ hd) fun _ _ => .str y
end

/-! ### one, two operands -/
def eU (f : D → Hh → Option (D × Hh)) (ma : M) : M := fun env h => (ma env h).bind fun x h1 => R.opt (f x h1)
def eB (f : D → D → Hh → Option (D × Hh)) (ma mb : M) : M := fun env h => (ma env h).bind fun x h1 => (mb env h1).bind fun y h2 => R.opt (f x y h2)
def Imp1 (K : PySem.W.Frag) (G : Cl) (r : V → Hp → VK → Prop) (f : D → Hh → Option (D × Hh)) : Prop := ∀ {ρ : List Addr} {H : Hp} {h : Hh} {x : V} {dx d : D} {h' : Hh} {Q : VK}, Rh K G ρ H h → Rv K ρ H x dx → f dx h = some (d, h') →
  (∀ ρ' H' v, Ex K ρ H ρ' H' → Rh K G ρ' H' h' → Rv K ρ' H' v d → Q v H') → r x H Q
def Imp2 (K : PySem.W.Frag) (G : Cl) (r : R2) (f : D → D → Hh → Option (D × Hh)) : Prop := ∀ {ρ : List Addr} {H : Hp} {h : Hh} {x y : V} {dx dy d : D} {h' : Hh} {Q : VK}, Rh K G ρ H h → Rv K ρ H x dx → Rv K ρ H y dy → f dx dy h = some (d, h') →
  (∀ ρ' H' v, Ex K ρ H ρ' H' → Rh K G ρ' H' h' → Rv K ρ' H' v d → Q v H') → r x y H Q
section
variable {X : Cx} {G : Cl} {W : WX} {e a b c : Expr} {es : List Expr} {pos : Pos} {ma mb : M}
theorem un_imp {r : V → Hp → VK → Prop} {f : D → Hh → Option (D × Hh)} (i : Imp1 X.K G r f) (σ : L2.St) (H : Hp) (Q : VK) (t : tM X.K G W (eU f ma) σ H Q) : tUn r (tM X.K G W ma) σ H Q := by
  obtain ⟨ρ, h, env, hr, he, p⟩ := t
  refine tG_mono (tG_bind (rel := relV X.K) hr he p) fun x H1 ⟨ρ1, h1, d, e1, hr1, he1, r1, p1⟩ => ?_
  obtain ⟨d2, h2, eq, k⟩ := p1.opt
  exact i hr1 r1 eq k
theorem bin_imp {r : R2} {f : D → D → Hh → Option (D × Hh)} (i : Imp2 X.K G r f) (σ : L2.St) (H : Hp) (Q : VK) (t : tM X.K G W (eB f ma mb) σ H Q) : tOp r (tM X.K G W ma) (tM X.K G W mb) σ H Q := by
  obtain ⟨ρ, h, env, hr, he, p⟩ := t
  refine tG_mono (tG_bind (rel := relV X.K) hr he p) fun x H1 ⟨ρ1, h1, d, e1, hr1, he1, r1, p1⟩ => ?_
  refine tG_mono (tG_bind (rel := relV X.K) hr1 he1 p1) fun y H2 ⟨ρ2, h2, d2, e2, hr2, he2, r2, p2⟩ => ?_
  obtain ⟨d3, h3, eq, k⟩ := p2.opt
  exact i hr2 (r1.mono e2) r2 eq k
theorem se_bin {op : Operator} {r : R2} {f : D → D → Hh → Option (D × Hh)} (ho : OpR X (binaryOp op) r) (i : Imp2 X.K G r f) (ha : PE X a (tM X.K G W ma)) (hb : PE X b (tM X.K G W mb)) : PE X (.BinOp a op b pos) (tM X.K G W (eB f ma mb)) :=
  peImp (pe_op ho ha hb) fun σ H Q t => bin_imp i σ H Q t
theorem se_un {op : UnaryOp} {r : V → Hp → VK → Prop} {f : D → Hh → Option (D × Hh)} (ho : UnR X (unaryOp op) r) (i : Imp1 X.K G r f) (ha : PE X a (tM X.K G W ma)) : PE X (.UnaryOp op a pos) (tM X.K G W (eU f ma)) :=
  peImp (pe_un ho ha) fun σ H Q t => un_imp i σ H Q t
theorem se_cmp {op : CmpOp} {r : R2} {f : D → D → Hh → Option (D × Hh)} (ho : OpR X (compareOp op) r) (i : Imp2 X.K G r f) (ha : PE X a (tM X.K G W ma)) (hb : PE X b (tM X.K G W mb)) (hm : behindInMarks op b = false) : PE X (.Compare a [op] [b] pos) (tM X.K G W (eB f ma mb)) :=
  peImp (pe_cmpR ho ha hb hm) fun σ H Q t => bin_imp i σ H Q t
theorem Imp2.or1 {K : PySem.W.Frag} {r r' : R2} {f : D → D → Hh → Option (D × Hh)} (i : Imp2 K G r f) : Imp2 K G (fun x y H Q => r x y H Q ∨ r' x y H Q) f := fun hr rx ry e k => .inl (i hr rx ry e k)
end

/-! ### arithmetic -/
def opAdd : D → D → Hh → Option (D × Hh)
  | .int i, .int j, h => some (.int (i + j), h)
  | .int i, .bl k, h => some (.int (i + b2i k), h)
  | .str x, .str y, h => if x.length + y.length ≤ sizeLine then some (.str (x ++ y), h) else none
  | .tup xs, .tup ys, h => if xs.length + ys.length ≤ sizeLine then some (.tup (xs ++ ys), h) else none
  | .ref m, .ref n, h => match h[m]?, h[n]? with
    | some (.lst xs), some (.lst ys) => if xs.length + ys.length ≤ sizeLine then some (.ref h.length, h ++ [.lst (xs ++ ys)]) else none
    | _, _ => none
  | _, _, _ => none
def opSub : D → D → Hh → Option (D × Hh)
  | .int i, .int j, h => some (.int (i - j), h)
  | _, _, _ => none
def mulOk (i j : Int) : Bool := (decide (-18446744073709551616 < i) && decide (i < 18446744073709551616)) || (decide (-18446744073709551616 < j) && decide (j < 18446744073709551616))
theorem mulOk_of {i j : Int} (h : mulOk i j = true) : CMul i j := by
  unfold mulOk at h
  simp only [Bool.or_eq_true, Bool.and_eq_true, decide_eq_true_eq] at h
  exact h
def opMul : D → D → Hh → Option (D × Hh)
  | .int i, .int j, h => if mulOk i j = true then some (.int (i * j), h) else none
  | _, _, _ => none
def opMod : D → D → Hh → Option (D × Hh)
  | .int i, .int j, h => if 0 < j then some (.int (i % j), h) else none
  | _, _, _ => none
def opFdiv : D → D → Hh → Option (D × Hh)
  | .int i, .int j, h => if 0 < j ∧ j < 1073741824 then some (.int (i / j), h) else none
  | _, _, _ => none
def opPow : D → D → Hh → Option (D × Hh)
  | .int i, .int j, h => if 0 ≤ j ∧ j ≤ 1000000 ∧ i.natAbs < 18446744073709551616 then some (.int (i ^ j.toNat), h) else none
  | _, _, _ => none
def opNeg : D → Hh → Option (D × Hh)
  | .int i, h => some (.int (-i), h)
  | _, _ => none
section
variable {X : Cx} {G : Cl} {W : WX} {e a b c : Expr} {es : List Expr} {pos : Pos} {ma mb : M} {K : PySem.W.Frag}
theorem im_sub : Imp2 K G (rI0 fun i j => .int (i - j)) opSub := fun {ρ H h x y dx dy d h' Q} hr rx ry e k => by
  cases rx <;> cases ry <;> simp only [opSub] at e <;> cases e
  exact ⟨_, _, rfl, rfl, k _ _ _ Ex.refl hr (.int _)⟩
theorem im_mul : Imp2 K G (rI CMul fun i j => .int (i * j)) opMul := fun {ρ H h x y dx dy d h' Q} hr rx ry e k => by
  cases rx <;> cases ry <;> simp only [opMul] at e <;> first | (cases e; done) | skip
  split at e
  · rename_i q
    cases e
    exact ⟨_, _, rfl, rfl, mulOk_of q, k _ _ _ Ex.refl hr (.int _)⟩
  · cases e
theorem im_mod : Imp2 K G (rI (fun _ j => 0 < j) fun i j => .int (i % j)) opMod := fun {ρ H h x y dx dy d h' Q} hr rx ry e k => by
  cases rx <;> cases ry <;> simp only [opMod] at e <;> first | (cases e; done) | skip
  split at e
  · rename_i q
    cases e
    exact ⟨_, _, rfl, rfl, q, k _ _ _ Ex.refl hr (.int _)⟩
  · cases e
theorem im_fdiv : Imp2 K G (rI CDiv fun i j => .int (i / j)) opFdiv := fun {ρ H h x y dx dy d h' Q} hr rx ry e k => by
  cases rx <;> cases ry <;> simp only [opFdiv] at e <;> first | (cases e; done) | skip
  split at e
  · rename_i q
    cases e
    exact ⟨_, _, rfl, rfl, q, k _ _ _ Ex.refl hr (.int _)⟩
  · cases e
theorem im_pow : Imp2 K G (rI CPow fun i j => .int (i ^ j.toNat)) opPow := fun {ρ H h x y dx dy d h' Q} hr rx ry e k => by
  cases rx <;> cases ry <;> simp only [opPow] at e <;> first | (cases e; done) | skip
  split at e
  · rename_i q
    cases e
    exact ⟨_, _, rfl, rfl, q, k _ _ _ Ex.refl hr (.int _)⟩
  · cases e
theorem im_neg : Imp1 K G (rU fun i => .int (-i)) opNeg := fun {ρ H h x dx d h' Q} hr rx e k => by
  cases rx <;> simp only [opNeg] at e <;> cases e
  exact ⟨_, rfl, k _ _ _ Ex.refl hr (.int _)⟩
/-- a new tuple -/
theorem new_tup {ρ : List Addr} {H : Hp} {h : Hh} {vs : List V} {ds : List D} {Q : VK} (hr : Rh K G ρ H h) (rs : Rvs K ρ H vs ds) (k : ∀ ρ' H' v, Ex K ρ H ρ' H' → Rh K G ρ' H' h → Rv K ρ' H' v (.tup ds) → Q v H') :
    ∀ p, H p = none → Q (.ref p) (upd H p (.tup vs)) := fun p n => k ρ _ _ (Ex.fresh n) (hr.aux n) (.tup upd_same (rs.mono (Ex.fresh n)))
/-- a new list -/
theorem new_lst {ρ : List Addr} {H : Hp} {h : Hh} {vs : List V} {ds : List D} {Q : VK} (hr : Rh K G ρ H h) (rs : Rvs K ρ H vs ds) (k : ∀ ρ' H' v, Ex K ρ H ρ' H' → Rh K G ρ' H' (h ++ [.lst ds]) → Rv K ρ' H' v (.ref h.length) → Q v H') :
    ∀ p, H p = none → Q (.ref p) (upd H p (.lst vs)) := fun p n => k (ρ ++ [p]) _ _ (Ex.push n) (hr.new n (.lst upd_same (rs.mono (Ex.push n)))) (.ref (by rw [← hr.len]; exact get_push_eq))
theorem ref_lst {ρ : List Addr} {H : Hp} {h : Hh} {n : Nat} {a : Addr} {ds : List D} (hr : Rh K G ρ H h) (ra : ρ[n]? = some a) (e : h[n]? = some (.lst ds)) : ∃ vs, H a = some (.lst vs) ∧ Rvs K ρ H vs ds := by
  have q := hr.at_ ra e
  cases q with
  | lst q r => exact ⟨_, q, r⟩
/-- a list that is read -/
theorem ref_seq {ρ : List Addr} {H : Hp} {h : Hh} {n : Nat} {a : Addr} {ds : List D} (hr : Rh K G ρ H h) (ra : ρ[n]? = some a) (e : h[n]? = some (.lst ds)) : ∃ vs, SqL K H a vs ∧ Rvs K ρ H vs ds := by
  obtain ⟨vs, q, r⟩ := ref_lst hr ra e
  exact ⟨vs, SqL.of q, r⟩
abbrev rAddAll (K : PySem.W.Frag) : R2 := fun x y H Q => (rI0 (fun i j => .int (i + j)) x y H Q ∨ (∃ i k, x = .int i ∧ y = .bl k ∧ Q (.int (i + b2i k)) H)) ∨
  ((∃ i j, x = .str i ∧ y = .str j ∧ i.length + j.length ≤ sizeLine ∧ Q (.str (i ++ j)) H) ∨ (rCatA K x y H Q ∨ rCat x y H Q))
theorem op_addAll : OpR X (binaryOp .Add) (rAddAll X.K) := (op_add.or op_add_ib).or (op_add_str.or (op_catA.or op_cat))
theorem im_add : Imp2 K G (rAddAll K) opAdd := fun {ρ H h x y dx dy d h' Q} hr rx ry e k => by
  unfold opAdd at e
  split at e
  · cases e; cases rx; cases ry
    exact .inl (.inl ⟨_, _, rfl, rfl, k _ _ _ Ex.refl hr (.int _)⟩)
  · cases e; cases rx; cases ry
    exact .inl (.inr ⟨_, _, rfl, rfl, k _ _ _ Ex.refl hr (.int _)⟩)
  · split at e
    · cases e; cases rx; cases ry
      exact .inr (.inl ⟨_, _, rfl, rfl, by assumption, k _ _ _ Ex.refl hr (.str _)⟩)
    · cases e
  · split at e
    · rename_i ds ds2 hl
      cases e
      obtain ⟨a, vs, rfl, t, r⟩ := rx.sqT
      obtain ⟨a2, vs2, rfl, t2, r2⟩ := ry.sqT
      refine .inr (.inr (.inl ⟨a, a2, vs, vs2, rfl, rfl, t, t2, by rw [r.length, r2.length]; exact hl, fun z => ?_, fun z1 z2 => ?_, fun z1 z2 => ?_⟩))
      · subst z
        cases r
        exact k _ _ _ Ex.refl hr ry
      · subst z2
        cases r2
        rw [List.append_nil] at k
        exact k _ _ _ Ex.refl hr rx
      · exact new_tup hr (r.append r2) k
    · cases e
  · rename_i m n
    cases rx with
    | ref ra =>
      cases ry with
      | ref ra2 =>
        rename_i a a2
        split at e
        · rename_i xs ys e1 e2
          split at e
          · rename_i hl
            cases e
            obtain ⟨vs, q1, r1⟩ := ref_lst hr ra e1
            obtain ⟨vs2, q2, r2⟩ := ref_lst hr ra2 e2
            exact .inr (.inr (.inr ⟨a, a2, vs, vs2, rfl, rfl, q1, q2, by rw [r1.length, r2.length]; exact hl, new_lst hr (r1.append r2) k⟩))
          · cases e
        · cases e
  · cases e
theorem se_add (ha : PE X a (tM X.K G W ma)) (hb : PE X b (tM X.K G W mb)) : PE X (.BinOp a .Add b pos) (tM X.K G W (eB opAdd ma mb)) := se_bin op_addAll im_add ha hb
theorem se_sub (ha : PE X a (tM X.K G W ma)) (hb : PE X b (tM X.K G W mb)) : PE X (.BinOp a .Sub b pos) (tM X.K G W (eB opSub ma mb)) := se_bin op_sub im_sub ha hb
theorem se_mul (ha : PE X a (tM X.K G W ma)) (hb : PE X b (tM X.K G W mb)) : PE X (.BinOp a .Mult b pos) (tM X.K G W (eB opMul ma mb)) := se_bin op_mul im_mul ha hb
theorem se_mod (ha : PE X a (tM X.K G W ma)) (hb : PE X b (tM X.K G W mb)) : PE X (.BinOp a .Mod b pos) (tM X.K G W (eB opMod ma mb)) := se_bin op_mod im_mod ha hb
theorem se_fdiv (ha : PE X a (tM X.K G W ma)) (hb : PE X b (tM X.K G W mb)) : PE X (.BinOp a .FloorDiv b pos) (tM X.K G W (eB opFdiv ma mb)) := se_bin op_fdiv im_fdiv ha hb
theorem se_pow (ha : PE X a (tM X.K G W ma)) (hb : PE X b (tM X.K G W mb)) : PE X (.BinOp a .Pow b pos) (tM X.K G W (eB opPow ma mb)) := se_bin op_pow im_pow ha hb
theorem se_neg (ha : PE X a (tM X.K G W ma)) : PE X (.UnaryOp .USub a pos) (tM X.K G W (eU opNeg ma)) := se_un un_neg im_neg ha
end

/-! ### comparisons -/
/-- data with its lists, read off the plain heap -/
def toP (h : Hh) : Nat → D → Option PyData
  | 0, _ => none
  | _ + 1, .non => some .none
  | _ + 1, .bl b => some (.bool b)
  | _ + 1, .int i => some (.int i)
  | _ + 1, .str x => some (.str x)
  | k + 1, .tup ds => (ds.mapM (toP h k)).map PyData.tuple
  | k + 1, .fls ds => (ds.mapM (toP h k)).map PyData.list
  | k + 1, .ref n => match h[n]? with
    | some (.lst ds) => (ds.mapM (toP h k)).map PyData.list
    | _ => none
def eqP (h : Hh) (x y : D) : Option Bool := match toP h 60 x, toP h 60 y with
  | some a, some b => if SeqAt.shaped a = true ∧ SeqAt.shaped b = true then some (PyData.eqv a b) else none
  | _, _ => none
def opEqB : D → D → Hh → Option Bool
  | .int i, .int j, _ => some (decide (i = j))
  | .str i, .str j, _ => some (decide (i = j))
  | .bl i, .bl j, _ => some (decide (i = j))
  | .non, .non, _ => some true
  | x, y, h => eqP h x y
def opEq (x y : D) (h : Hh) : Option (D × Hh) := (opEqB x y h).map fun b => (.bl b, h)
def opNe (x y : D) (h : Hh) : Option (D × Hh) := (opEqB x y h).map fun b => (.bl (!b), h)
/-- the ints of a tuple -/
def intsOf : List D → Option (List Int)
  | [] => some []
  | .int i :: r => (intsOf r).map (i :: ·)
  | _ :: _ => none
def opLt : D → D → Hh → Option (D × Hh)
  | .int i, .int j, h => some (.bl (decide (i < j)), h)
  | .str i, .str j, h => some (.bl (decide (i.cps.toList < j.cps.toList)), h)
  | .tup xs, .tup ys, h => match intsOf xs, intsOf ys with
    | some ns, some ms => some (.bl (HT.lexLt ns ms), h)
    | _, _ => none
  | _, _, _ => none
def opLe : D → D → Hh → Option (D × Hh)
  | .int i, .int j, h => some (.bl (decide (i ≤ j)), h)
  | _, _, _ => none
def opGt : D → D → Hh → Option (D × Hh)
  | .int i, .int j, h => some (.bl (decide (j < i)), h)
  | _, _, _ => none
def opGe : D → D → Hh → Option (D × Hh)
  | .int i, .int j, h => some (.bl (decide (j ≤ i)), h)
  | _, _, _ => none
section
variable {X : Cx} {G : Cl} {W : WX} {e a b c : Expr} {es : List Expr} {pos : Pos} {ma mb : M} {K : PySem.W.Frag} {ρ : List Addr} {H : Hp} {h : Hh}
theorem intsOf_eq : ∀ {ds : List D} {ns : List Int}, intsOf ds = some ns → ds = ns.map D.int
  | [], ns, e => by simp [intsOf] at e; subst e; rfl
  | .int i :: r, ns, e => by
    simp only [intsOf, Option.map_eq_some_iff] at e
    obtain ⟨ms, e1, e2⟩ := e
    subst e2
    rw [intsOf_eq e1]
    rfl
  | .non :: _, _, e => by simp [intsOf] at e
  | .bl _ :: _, _, e => by simp [intsOf] at e
  | .str _ :: _, _, e => by simp [intsOf] at e
  | .tup _ :: _, _, e => by simp [intsOf] at e
  | .fls _ :: _, _, e => by simp [intsOf] at e
  | .ref _ :: _, _, e => by simp [intsOf] at e
theorem dpAll_of {f : D → Option PyData} (ih : ∀ d v p, Rv K ρ H v d → f d = some p → Dp K H v p) : ∀ {ds : List D} {vs : List V} {ps : List PyData}, Rvs K ρ H vs ds → ds.mapM f = some ps → DpAll K H vs ps
  | [], vs, ps, r, e => by
    cases r
    simp at e
    subst e
    exact .nil
  | d :: ds, vs, ps, r, e => by
    cases r with
    | cons r rs =>
      simp only [List.mapM_cons, Option.bind_eq_bind, Option.bind_eq_some_iff, Option.pure_def, Option.some.injEq] at e
      obtain ⟨p, e1, qs, e2, e3⟩ := e
      subst e3
      exact .cons (ih _ _ _ r e1) (dpAll_of ih rs e2)
theorem toP_dp (hr : Rh K G ρ H h) : ∀ (k : Nat) (d : D) (v : V) (p : PyData), Rv K ρ H v d → toP h k d = some p → Dp K H v p
  | 0, _, _, _, _, e => by simp [toP] at e
  | k + 1, .non, _, _, r, e => by cases r; simp [toP] at e; subst e; exact .non
  | k + 1, .bl b, _, _, r, e => by cases r; simp [toP] at e; subst e; exact .bl b
  | k + 1, .int i, _, _, r, e => by cases r; simp [toP] at e; subst e; exact .int i
  | k + 1, .str x, _, _, r, e => by cases r; simp [toP] at e; subst e; exact .str x
  | k + 1, .tup ds, _, _, r, e => by
    obtain ⟨a, vs, rfl, t, r⟩ := r.sqT
    simp only [toP, Option.map_eq_some_iff] at e
    obtain ⟨ps, e1, e2⟩ := e
    subst e2
    exact .tup t (dpAll_of (fun d v p => toP_dp hr k d v p) r e1)
  | k + 1, .fls ds, _, _, r, e => by
    cases r with
    | fls t r =>
      simp only [toP, Option.map_eq_some_iff] at e
      obtain ⟨ps, e1, e2⟩ := e
      subst e2
      exact .lst t.sq (dpAll_of (fun d v p => toP_dp hr k d v p) r e1)
  | k + 1, .ref n, _, _, r, e => by
    cases r with
    | ref ra =>
      simp only [toP] at e
      split at e
      · rename_i ds e0
        simp only [Option.map_eq_some_iff] at e
        obtain ⟨ps, e1, e2⟩ := e
        subst e2
        obtain ⟨vs, q, r⟩ := ref_seq hr ra e0
        exact .lst q (dpAll_of (fun d v p => toP_dp hr k d v p) r e1)
      · cases e
abbrev rEqAll (K : PySem.W.Frag) : R2 := fun x y H Q => rEq x y H Q ∨ rEqD K x y H Q
abbrev rNeAll (K : PySem.W.Frag) : R2 := fun x y H Q => rNe x y H Q ∨ rNeD K x y H Q
theorem eqB_cases {x y : V} {dx dy : D} {k : Bool} (hr : Rh K G ρ H h) (rx : Rv K ρ H x dx) (ry : Rv K ρ H y dy) (e : opEqB dx dy h = some k) :
    (scal x y = true ∧ k = decide (x = y)) ∨ ∃ p q, Dp K H x p ∧ Dp K H y q ∧ SeqAt.shaped p = true ∧ SeqAt.shaped q = true ∧ k = PyData.eqv p q := by
  have gen : eqP h dx dy = some k → ∃ p q, Dp K H x p ∧ Dp K H y q ∧ SeqAt.shaped p = true ∧ SeqAt.shaped q = true ∧ k = PyData.eqv p q := fun e => by
    unfold eqP at e
    split at e
    · rename_i p q e1 e2
      split at e
      · rename_i hs
        cases e
        exact ⟨p, q, toP_dp hr _ _ _ _ rx e1, toP_dp hr _ _ _ _ ry e2, hs.1, hs.2, rfl⟩
      · cases e
    · cases e
  unfold opEqB at e
  split at e
  · cases e; cases rx; cases ry; exact .inl ⟨rfl, by simp⟩
  · cases e; cases rx; cases ry; exact .inl ⟨rfl, by simp⟩
  · cases e; cases rx; cases ry; exact .inl ⟨rfl, by simp⟩
  · cases e; cases rx; cases ry; exact .inl ⟨rfl, by simp⟩
  · exact .inr (gen e)
theorem im_eq : Imp2 K G (rEqAll K) opEq := fun {ρ H h x y dx dy d h' Q} hr rx ry e k => by
  simp only [opEq, Option.map_eq_some_iff, Prod.mk.injEq] at e
  obtain ⟨b, e, e1, e2⟩ := e
  subst e1 e2
  rcases eqB_cases hr rx ry e with ⟨s, q⟩ | ⟨p, q, h1, h2, h3, h4, h5⟩
  · subst q
    exact .inl ⟨s, k _ _ _ Ex.refl hr (.bl _)⟩
  · subst h5
    exact .inr ⟨p, q, h1, h2, h3, h4, k _ _ _ Ex.refl hr (.bl _)⟩
theorem im_ne : Imp2 K G (rNeAll K) opNe := fun {ρ H h x y dx dy d h' Q} hr rx ry e k => by
  simp only [opNe, Option.map_eq_some_iff, Prod.mk.injEq] at e
  obtain ⟨b, e, e1, e2⟩ := e
  subst e1 e2
  rcases eqB_cases hr rx ry e with ⟨s, q⟩ | ⟨p, q, h1, h2, h3, h4, h5⟩
  · subst q
    exact .inl ⟨s, k _ _ _ Ex.refl hr (.bl _)⟩
  · subst h5
    exact .inr ⟨p, q, h1, h2, h3, h4, k _ _ _ Ex.refl hr (.bl _)⟩
abbrev rLtAll (K : PySem.W.Frag) : R2 := fun x y H Q => rI0 (fun i j => .bl (decide (i < j))) x y H Q ∨ ((∃ i j, x = .str i ∧ y = .str j ∧ Q (.bl (decide (i.cps.toList < j.cps.toList))) H) ∨ rLtT K x y H Q)
theorem op_ltAll (hu : X.A.units < cLine) : OpR X (compareOp .Lt) (rLtAll X.K) := op_lt.or (op_lt_str.or (op_ltT hu))
theorem im_lt : Imp2 K G (rLtAll K) opLt := fun {ρ H h x y dx dy d h' Q} hr rx ry e k => by
  unfold opLt at e
  split at e
  · cases e; cases rx; cases ry
    exact .inl ⟨_, _, rfl, rfl, k _ _ _ Ex.refl hr (.bl _)⟩
  · cases e; cases rx; cases ry
    exact .inr (.inl ⟨_, _, rfl, rfl, k _ _ _ Ex.refl hr (.bl _)⟩)
  · split at e
    · rename_i ns ms e1 e2
      cases e
      have z1 := intsOf_eq e1
      have z2 := intsOf_eq e2
      subst z1 z2
      obtain ⟨a, vs, rfl, t, r⟩ := rx.sqT
      obtain ⟨a2, vs2, rfl, t2, r2⟩ := ry.sqT
      have y1 := r.ints
      have y2 := r2.ints
      subst y1 y2
      exact .inr (.inr ⟨a, a2, ns, ms, rfl, rfl, t, t2, k _ _ _ Ex.refl hr (.bl _)⟩)
    · cases e
  · cases e
theorem im_le : Imp2 K G (rI0 fun i j => .bl (decide (i ≤ j))) opLe := fun {ρ H h x y dx dy d h' Q} hr rx ry e k => by
  cases rx <;> cases ry <;> simp only [opLe] at e <;> cases e
  exact ⟨_, _, rfl, rfl, k _ _ _ Ex.refl hr (.bl _)⟩
theorem im_gt : Imp2 K G (rI0 fun i j => .bl (decide (j < i))) opGt := fun {ρ H h x y dx dy d h' Q} hr rx ry e k => by
  cases rx <;> cases ry <;> simp only [opGt] at e <;> cases e
  exact ⟨_, _, rfl, rfl, k _ _ _ Ex.refl hr (.bl _)⟩
theorem im_ge : Imp2 K G (rI0 fun i j => .bl (decide (j ≤ i))) opGe := fun {ρ H h x y dx dy d h' Q} hr rx ry e k => by
  cases rx <;> cases ry <;> simp only [opGe] at e <;> cases e
  exact ⟨_, _, rfl, rfl, k _ _ _ Ex.refl hr (.bl _)⟩
theorem se_eq (hu : X.A.units + 64 < cLine) (ha : PE X a (tM X.K G W ma)) (hb : PE X b (tM X.K G W mb)) : PE X (.Compare a [.Eq] [b] pos) (tM X.K G W (eB opEq ma mb)) := se_cmp (op_eq.or (op_eqD hu)) im_eq ha hb (nomark _)
theorem se_ne (hu : X.A.units + 64 < cLine) (ha : PE X a (tM X.K G W ma)) (hb : PE X b (tM X.K G W mb)) : PE X (.Compare a [.NotEq] [b] pos) (tM X.K G W (eB opNe ma mb)) := se_cmp (op_ne.or (op_neD hu)) im_ne ha hb (nomark _)
theorem se_lt (hu : X.A.units + 64 < cLine) (ha : PE X a (tM X.K G W ma)) (hb : PE X b (tM X.K G W mb)) : PE X (.Compare a [.Lt] [b] pos) (tM X.K G W (eB opLt ma mb)) := se_cmp (op_ltAll (by omega)) im_lt ha hb (nomark _)
theorem se_le (hu : X.A.units + 64 < cLine) (ha : PE X a (tM X.K G W ma)) (hb : PE X b (tM X.K G W mb)) : PE X (.Compare a [.LtE] [b] pos) (tM X.K G W (eB opLe ma mb)) := se_cmp op_le im_le ha hb (nomark _)
theorem se_gt (hu : X.A.units + 64 < cLine) (ha : PE X a (tM X.K G W ma)) (hb : PE X b (tM X.K G W mb)) : PE X (.Compare a [.Gt] [b] pos) (tM X.K G W (eB opGt ma mb)) := se_cmp op_gt im_gt ha hb (nomark _)
theorem se_ge (hu : X.A.units + 64 < cLine) (ha : PE X a (tM X.K G W ma)) (hb : PE X b (tM X.K G W mb)) : PE X (.Compare a [.GtE] [b] pos) (tM X.K G W (eB opGe ma mb)) := se_cmp op_ge im_ge ha hb (nomark _)
/-- is None -/
def opIsN : D → Hh → Option (D × Hh)
  | .non, h => some (.bl true, h)
  | _, h => some (.bl false, h)
def opNotN : D → Hh → Option (D × Hh)
  | .non, h => some (.bl false, h)
  | _, h => some (.bl true, h)
theorem se_isN {j pos'} (ha : PE X a (tM X.K G W ma)) : PE X (.Compare a [.Is] [.Constant .none j pos'] pos) (tM X.K G W (eU opIsN ma)) := peImp (pe_cmp (pc_isN ha)) fun σ H Q t => un_imp (r := fun x H Q => Q (.bl (decide (x = .non))) H) (fun {ρ H h x dx d h' Q} hr rx e k => by
  cases rx <;> simp only [opIsN] at e <;> cases e <;> exact k _ _ _ Ex.refl hr (.bl _)) σ H Q t
theorem se_notN {j pos'} (ha : PE X a (tM X.K G W ma)) : PE X (.Compare a [.IsNot] [.Constant .none j pos'] pos) (tM X.K G W (eU opNotN ma)) := peImp (pe_cmp (pc_notN ha)) fun σ H Q t => un_imp (r := fun x H Q => Q (.bl (!decide (x = .non))) H) (fun {ρ H h x dx d h' Q} hr rx e k => by
  cases rx <;> simp only [opNotN] at e <;> cases e <;> exact k _ _ _ Ex.refl hr (.bl _)) σ H Q t
end
end Sm
/-! SmC: tests, truth, and / or, argument lists, displays, items, slices, built-in functions and methods. -/
namespace Sm
open PySem L2 PyProof.Rows

abbrev MT := Ev → Hh → R Bool
/-! ### tests -/
def opTruth : D → Hh → Option Bool
  | .non, _ => some false
  | .bl b, _ => some b
  | .int i, _ => some (i != 0)
  | .str y, _ => if y.length ≤ sizeLine then some ((y.length : Int) != 0) else none
  | .tup ds, _ => some (!ds.isEmpty)
  | .fls ds, _ => some (!ds.isEmpty)
  | .ref n, h => match h[n]? with
    | some (.lst ds) => some (!ds.isEmpty)
    | some (.dK ds) => some (!ds.isEmpty)
    | _ => none
def optB (o : Option Bool) (h : Hh) : R Bool := match o with
  | some b => .ok b h
  | none => .bad
@[simp] theorem optB_some (b : Bool) (h : Hh) : optB (some b) h = .ok b h := rfl
@[simp] theorem optB_none (h : Hh) : optB none h = .bad := rfl
def tTru (m : M) : MT := fun env h => (m env h).bind fun d h1 => optB (opTruth d h1) h1
def opBl : D → Option Bool
  | .bl b => some b
  | _ => none
def tBl (m : M) : MT := fun env h => (m env h).bind fun d h1 => optB (opBl d) h1
def tAndM (a b : MT) : MT := fun env h => (a env h).bind fun c h1 => if c = true then b env h1 else .ok false h1
def tOrM (a b : MT) : MT := fun env h => (a env h).bind fun c h1 => if c = true then .ok true h1 else b env h1
def tNotM (a : MT) : MT := fun env h => (a env h).bind fun c h1 => .ok (!c) h1
def eAnd (a b : M) : M := fun env h => (a env h).bind fun d h1 => match d with
  | .bl true => b env h1
  | .bl false => .ok (.bl false) h1
  | _ => .bad
def eOr (a b : M) : M := fun env h => (a env h).bind fun d h1 => match d with
  | .bl false => b env h1
  | .bl true => .ok (.bl true) h1
  | _ => .bad
def eNot (a : M) : M := fun env h => (a env h).bind fun d h1 => match d with
  | .bl b => .ok (.bl (!b)) h1
  | _ => .bad
def eIf (t : MT) (a b : M) : M := fun env h => (t env h).bind fun c h1 => if c = true then a env h1 else b env h1
def eCh (f g : D → D → Hh → Option (D × Hh)) (a b c : M) : M := fun env h => (a env h).bind fun x h1 => (b env h1).bind fun y h2 => (R.opt (f x y h2)).bind fun z h3 => match z with
  | .bl true => (c env h3).bind fun w h4 => R.opt (g y w h4)
  | .bl false => .ok (.bl false) h3
  | _ => .bad
section
variable {X : Cx} {G : Cl} {W : WX} {e a b c : Expr} {es rest : List Expr} {pos : Pos} {ma mb mc : M} {ta tb : MT} {K : PySem.W.Frag} {ρ : List Addr} {H : Hp} {h : Hh} {σ : L2.St} {env : Ev}
theorem Rvs.isEmpty {vs : List V} {ds : List D} (r : Rvs K ρ H vs ds) : (!vs.isEmpty) = !ds.isEmpty := by cases r <;> rfl
theorem truth_ok (hr : Rh K G ρ H h) {v : V} {d : D} {k : Bool} (r : Rv K ρ H v d) (e : opTruth d h = some k) : TruV K v H k := by
  cases d with
  | non => cases r; cases e; rfl
  | bl b => cases r; cases e; rfl
  | int i => cases r; cases e; rfl
  | str y =>
    cases r
    simp only [opTruth] at e
    split at e
    · cases e
      exact ⟨by assumption, rfl⟩
    · cases e
  | tup ds =>
    cases e
    obtain ⟨a, vs, rfl, t, q⟩ := r.sqT
    exact .inr (.inl ⟨vs, t, q.isEmpty.symm⟩)
  | fls ds =>
    cases e
    cases r with
    | fls t q => exact .inl ⟨_, t.sq, q.isEmpty.symm⟩
  | ref n =>
    cases r with
    | ref ra =>
      simp only [opTruth] at e
      split at e
      · rename_i ds e0
        cases e
        obtain ⟨vs, q, r⟩ := ref_seq hr ra e0
        exact .inl ⟨vs, q, r.isEmpty.symm⟩
      · rename_i ds e0
        cases e
        have q := hr.at_ ra e0
        cases q with
        | dK q r =>
          refine .inr (.inr ⟨_, q, ?_⟩)
          cases r <;> rfl
      · cases e
theorem Po.optB {o : Option Bool} {Q : Bool → Hp → Prop} (p : Po K G (relB) W ρ H σ (optB o h) Q) : ∃ b, o = some b ∧ ∀ ρ' H' v, Ex K ρ H ρ' H' → Rh K G ρ' H' h → v = b → Q v H' := by
  cases o with
  | none => exact p.elim
  | some q => exact ⟨q, rfl, p⟩
theorem st_truth (ha : PE X a (tM X.K G W ma)) (he : ∀ whole, isTrue a X.env whole = (do let v ← whole; standAt a.pos; holding [v] (truthy v)) := by intro _; rfl) : PT X a (tT X.K G W (tTru ma)) := ptImp (pt_truth ha he) fun σ H Q t => by
  obtain ⟨ρ, h, env, hr, he, p⟩ := t
  refine tG_mono (tG_bind (rel := relV X.K) hr he p) fun x H1 ⟨ρ1, h1, d, e1, hr1, he1, r1, p1⟩ => ?_
  obtain ⟨k, ek, q⟩ := p1.optB
  exact ⟨k, truth_ok hr1 r1 ek, q _ _ _ Ex.refl hr1 rfl⟩
/-- an expression that gives a bool, its test being B of the same reading -/
theorem tB_imp {t : TE} (i : ∀ σ H Q, tM X.K G W ma σ H Q → t σ H Q) (σ : L2.St) (H : Hp) (Q : Bool → Hp → Prop) (p : tT X.K G W (tBl ma) σ H Q) : t σ H fun x H1 => ∃ k, x = .bl k ∧ Q k H1 := by
  obtain ⟨ρ, h, env, hr, he, p⟩ := p
  refine i σ H _ (tG_mono (tG_bind (rel := relV X.K) hr he p) fun x H1 ⟨ρ1, h1, d, e1, hr1, he1, r1, p1⟩ => ?_)
  obtain ⟨k, ek, q⟩ := p1.optB
  cases d with
  | bl b => cases ek; cases r1; exact ⟨_, rfl, q _ _ _ Ex.refl hr1 rfl⟩
  | _ => cases ek
theorem st_val (ha : PE X a (tM X.K G W ma)) (he : ∀ whole, isTrue a X.env whole = (do let v ← whole; standAt a.pos; holding [v] (truthy v)) := by intro _; rfl) : PT X a (tT X.K G W (tBl ma)) := ptImp (pt_val ha he) fun σ H Q t => tB_imp (fun _ _ _ z => z) σ H Q t
theorem st_cmp {op : CmpOp} {r : R2} {f : D → D → Hh → Option (D × Hh)} (ho : OpR X (compareOp op) r) (i : Imp2 X.K G r f) (ha : PE X a (tM X.K G W ma)) (hb : PE X b (tM X.K G W mb)) (hm : behindInMarks op b = false) : PT X (.Compare a [op] [b] pos) (tT X.K G W (tBl (eB f ma mb))) :=
  ptImp (pt_cmpR ho ha hb hm) fun σ H Q t => tB_imp (bin_imp i) σ H Q t
theorem st_eq (hu : X.A.units + 64 < cLine) (ha : PE X a (tM X.K G W ma)) (hb : PE X b (tM X.K G W mb)) : PT X (.Compare a [.Eq] [b] pos) (tT X.K G W (tBl (eB opEq ma mb))) := st_cmp (op_eq.or (op_eqD hu)) im_eq ha hb (nomark _)
theorem st_ne (hu : X.A.units + 64 < cLine) (ha : PE X a (tM X.K G W ma)) (hb : PE X b (tM X.K G W mb)) : PT X (.Compare a [.NotEq] [b] pos) (tT X.K G W (tBl (eB opNe ma mb))) := st_cmp (op_ne.or (op_neD hu)) im_ne ha hb (nomark _)
theorem st_lt (hu : X.A.units + 64 < cLine) (ha : PE X a (tM X.K G W ma)) (hb : PE X b (tM X.K G W mb)) : PT X (.Compare a [.Lt] [b] pos) (tT X.K G W (tBl (eB opLt ma mb))) := st_cmp (op_ltAll (by omega)) im_lt ha hb (nomark _)
theorem st_le (hu : X.A.units + 64 < cLine) (ha : PE X a (tM X.K G W ma)) (hb : PE X b (tM X.K G W mb)) : PT X (.Compare a [.LtE] [b] pos) (tT X.K G W (tBl (eB opLe ma mb))) := st_cmp op_le im_le ha hb (nomark _)
theorem st_gt (hu : X.A.units + 64 < cLine) (ha : PE X a (tM X.K G W ma)) (hb : PE X b (tM X.K G W mb)) : PT X (.Compare a [.Gt] [b] pos) (tT X.K G W (tBl (eB opGt ma mb))) := st_cmp op_gt im_gt ha hb (nomark _)
theorem st_ge (hu : X.A.units + 64 < cLine) (ha : PE X a (tM X.K G W ma)) (hb : PE X b (tM X.K G W mb)) : PT X (.Compare a [.GtE] [b] pos) (tT X.K G W (tBl (eB opGe ma mb))) := st_cmp op_ge im_ge ha hb (nomark _)
theorem isN_imp (σ : L2.St) (H : Hp) (Q : VK) (t : tM X.K G W (eU opIsN ma) σ H Q) : tIsN (tM X.K G W ma) σ H Q := un_imp (r := fun x H Q => Q (.bl (decide (x = .non))) H) (fun {ρ H h x dx d h' Q} hr rx e k => by
  cases rx <;> simp only [opIsN] at e <;> cases e <;> exact k _ _ _ Ex.refl hr (.bl _)) σ H Q t
theorem notN_imp (σ : L2.St) (H : Hp) (Q : VK) (t : tM X.K G W (eU opNotN ma) σ H Q) : tNotN (tM X.K G W ma) σ H Q := un_imp (r := fun x H Q => Q (.bl (!decide (x = .non))) H) (fun {ρ H h x dx d h' Q} hr rx e k => by
  cases rx <;> simp only [opNotN] at e <;> cases e <;> exact k _ _ _ Ex.refl hr (.bl _)) σ H Q t
theorem st_isN {j pos'} (ha : PE X a (tM X.K G W ma)) : PT X (.Compare a [.Is] [.Constant .none j pos'] pos) (tT X.K G W (tBl (eU opIsN ma))) := ptImp (pt_cmp (pc_isN ha)) fun σ H Q t => tB_imp isN_imp σ H Q t
theorem st_notN {j pos'} (ha : PE X a (tM X.K G W ma)) : PT X (.Compare a [.IsNot] [.Constant .none j pos'] pos) (tT X.K G W (tBl (eU opNotN ma))) := ptImp (pt_cmp (pc_notN ha)) fun σ H Q t => tB_imp notN_imp σ H Q t
theorem ch_imp {r r' : R2} {f g : D → D → Hh → Option (D × Hh)} (i : Imp2 X.K G r f) (i' : Imp2 X.K G r' g) (σ : L2.St) (H : Hp) (Q : VK) (t : tM X.K G W (eCh f g ma mb mc) σ H Q) : tChain r r' (tM X.K G W ma) (tM X.K G W mb) (tM X.K G W mc) σ H Q := by
  obtain ⟨ρ, h, env, hr, he, p⟩ := t
  refine tG_mono (tG_bind (rel := relV X.K) hr he p) fun x H1 ⟨ρ1, h1, d, e1, hr1, he1, r1, p1⟩ => ?_
  refine tG_mono (tG_bind (rel := relV X.K) hr1 he1 p1) fun y H2 ⟨ρ2, h2, d2, e2, hr2, he2, r2, p2⟩ => ?_
  dsimp only at p2
  cases o : f d d2 h2 with
  | none => rw [o] at p2; exact p2.elim
  | some q =>
    obtain ⟨z, h3⟩ := q
    rw [o] at p2
    refine i hr2 (r1.mono e2) r2 o fun ρ3 H3 v e3 hr3 r3 => ?_
    have p3 := Po.shift p2 e3
    cases z with
    | bl k =>
      cases r3
      refine ⟨k, rfl, ?_⟩
      cases k with
      | false => exact p3.ok hr3 (.bl _)
      | true =>
        refine tG_mono (tG_bind (rel := relV X.K) hr3 (he2.mono e3) p3) fun w H4 ⟨ρ4, h4, d4, e4, hr4, he4, r4, p4⟩ => ?_
        obtain ⟨d5, h5, eq, k5⟩ := p4.opt
        exact i' hr4 ((r2.mono e3).mono e4) r4 eq k5
    | _ => exact p3.elim
theorem se_chain {op op' : CmpOp} {r r' : R2} {f g : D → D → Hh → Option (D × Hh)} (ho : OpR X (compareOp op) r) (ho' : OpR X (compareOp op') r') (i : Imp2 X.K G r f) (i' : Imp2 X.K G r' g) (ha : PE X a (tM X.K G W ma)) (hb : PE X b (tM X.K G W mb)) (hc : PE X c (tM X.K G W mc))
    (hm : lastMarks [op, op'] [b, c] = false := by with_unfolding_all rfl) : PE X (.Compare a [op, op'] [b, c] pos) (tM X.K G W (eCh f g ma mb mc)) := peImp (pe_chain ho ho' ha hb hc hm) fun σ H Q t => ch_imp i i' σ H Q t
theorem st_chain {op op' : CmpOp} {r r' : R2} {f g : D → D → Hh → Option (D × Hh)} (ho : OpR X (compareOp op) r) (ho' : OpR X (compareOp op') r') (i : Imp2 X.K G r f) (i' : Imp2 X.K G r' g) (ha : PE X a (tM X.K G W ma)) (hb : PE X b (tM X.K G W mb)) (hc : PE X c (tM X.K G W mc))
    (hm : lastMarks [op, op'] [b, c] = false := by with_unfolding_all rfl) : PT X (.Compare a [op, op'] [b, c] pos) (tT X.K G W (tBl (eCh f g ma mb mc))) := ptImp (pt_chain ho ho' ha hb hc hm) fun σ H Q t => tB_imp (ch_imp i i') σ H Q t

/-! ### and, or, not -/
theorem sw_and1 (ha : PT X a (tT X.K G W ta)) : PW X (.BoolOp .And [a] pos) (tT X.K G W ta) := pw_and1 ha
theorem sw_or1 (ha : PT X a (tT X.K G W ta)) : PW X (.BoolOp .Or [a] pos) (tT X.K G W ta) := pw_or1 ha
theorem sw_and (ha : PT X a (tT X.K G W ta)) (hb : PW X (.BoolOp .And (b :: rest) pos) (tT X.K G W tb)) : PW X (.BoolOp .And (a :: b :: rest) pos) (tT X.K G W (tAndM ta tb)) := pwImp (pw_and ha hb) fun σ H Q t => by
  obtain ⟨ρ, h, env, hr, he, p⟩ := t
  refine tG_mono (tG_bind (rel := relB) hr he p) fun x H1 ⟨ρ1, h1, d, e1, hr1, he1, r1, p1⟩ => ?_
  subst r1
  cases x with
  | true => exact ⟨ρ1, h1, env, hr1, he1, p1⟩
  | false => exact p1.ok hr1 rfl
theorem sw_or (ha : PT X a (tT X.K G W ta)) (hb : PW X (.BoolOp .Or (b :: rest) pos) (tT X.K G W tb)) : PW X (.BoolOp .Or (a :: b :: rest) pos) (tT X.K G W (tOrM ta tb)) := pwImp (pw_or ha hb) fun σ H Q t => by
  obtain ⟨ρ, h, env, hr, he, p⟩ := t
  refine tG_mono (tG_bind (rel := relB) hr he p) fun x H1 ⟨ρ1, h1, d, e1, hr1, he1, r1, p1⟩ => ?_
  subst r1
  cases x with
  | false => exact ⟨ρ1, h1, env, hr1, he1, p1⟩
  | true => exact p1.ok hr1 rfl
theorem st_w (ha : PW X a (tT X.K G W ta)) : PT X a (tT X.K G W ta) := ha.pt
theorem st_not (ha : PT X a (tT X.K G W ta)) : PT X (.UnaryOp .Not a pos) (tT X.K G W (tNotM ta)) := ptImp (pt_not ha) fun σ H Q t => by
  obtain ⟨ρ, h, env, hr, he, p⟩ := t
  refine tG_mono (tG_bind (rel := relB) hr he p) fun x H1 ⟨ρ1, h1, d, e1, hr1, he1, r1, p1⟩ => ?_
  subst r1
  exact p1.ok hr1 rfl
theorem se_one {op} (ha : PE X a (tM X.K G W ma)) : PE X (.BoolOp op [a] pos) (tM X.K G W ma) := pe_one ha
theorem se_and (ha : PE X a (tM X.K G W ma)) (hb : PE X (.BoolOp .And (b :: rest) pos) (tM X.K G W mb)) : PE X (.BoolOp .And (a :: b :: rest) pos) (tM X.K G W (eAnd ma mb)) := peImp (pe_and ha hb) fun σ H Q t => by
  obtain ⟨ρ, h, env, hr, he, p⟩ := t
  refine tG_mono (tG_bind (rel := relV X.K) hr he p) fun x H1 ⟨ρ1, h1, d, e1, hr1, he1, r1, p1⟩ => ?_
  cases d with
  | bl k =>
    cases r1
    refine ⟨k, rfl, ?_⟩
    cases k with
    | true => exact ⟨ρ1, h1, env, hr1, he1, p1⟩
    | false => exact p1.ok hr1 (.bl _)
  | _ => exact p1.elim
theorem se_or (ha : PE X a (tM X.K G W ma)) (hb : PE X (.BoolOp .Or (b :: rest) pos) (tM X.K G W mb)) : PE X (.BoolOp .Or (a :: b :: rest) pos) (tM X.K G W (eOr ma mb)) := peImp (pe_or ha hb) fun σ H Q t => by
  obtain ⟨ρ, h, env, hr, he, p⟩ := t
  refine tG_mono (tG_bind (rel := relV X.K) hr he p) fun x H1 ⟨ρ1, h1, d, e1, hr1, he1, r1, p1⟩ => ?_
  cases d with
  | bl k =>
    cases r1
    refine ⟨k, rfl, ?_⟩
    cases k with
    | false => exact ⟨ρ1, h1, env, hr1, he1, p1⟩
    | true => exact p1.ok hr1 (.bl _)
  | _ => exact p1.elim
theorem se_not (ha : PE X a (tM X.K G W ma)) : PE X (.UnaryOp .Not a pos) (tM X.K G W (eNot ma)) := peImp (pe_not ha) fun σ H Q t => by
  obtain ⟨ρ, h, env, hr, he, p⟩ := t
  refine tG_mono (tG_bind (rel := relV X.K) hr he p) fun x H1 ⟨ρ1, h1, d, e1, hr1, he1, r1, p1⟩ => ?_
  cases d with
  | bl k =>
    cases r1
    exact ⟨k, rfl, p1.ok hr1 (.bl _)⟩
  | _ => exact p1.elim
theorem se_if (hc : PT X c (tT X.K G W ta)) (ha : PE X a (tM X.K G W ma)) (hb : PE X b (tM X.K G W mb)) : PE X (.IfExp c a b pos) (tM X.K G W (eIf ta ma mb)) := peImp (pe_ifExp hc ha hb) fun σ H Q t => by
  obtain ⟨ρ, h, env, hr, he, p⟩ := t
  refine tG_mono (tG_bind (rel := relB) hr he p) fun x H1 ⟨ρ1, h1, d, e1, hr1, he1, r1, p1⟩ => ?_
  subst r1
  cases x with
  | true => exact ⟨ρ1, h1, env, hr1, he1, p1⟩
  | false => exact ⟨ρ1, h1, env, hr1, he1, p1⟩
end

/-! ### argument lists -/
def evs : List M → Ev → Hh → R (List D)
  | [], _, h => .ok [] h
  | m :: ms, env, h => (m env h).bind fun d h1 => (evs ms env h1).bind fun ds h2 => .ok (d :: ds) h2
def eN (f : List D → Hh → Option (D × Hh)) (ms : List M) : M := fun env h => (evs ms env h).bind fun ds h1 => R.opt (f ds h1)
def ImpN (K : PySem.W.Frag) (G : Cl) (r : List V → Hp → VK → Prop) (f : List D → Hh → Option (D × Hh)) : Prop := ∀ {ρ : List Addr} {H : Hp} {h : Hh} {xs : List V} {ds : List D} {d : D} {h' : Hh} {Q : VK}, Rh K G ρ H h → Rvs K ρ H xs ds → f ds h = some (d, h') →
  (∀ ρ' H' v, Ex K ρ H ρ' H' → Rh K G ρ' H' h' → Rv K ρ' H' v d → Q v H') → r xs H Q
def eTup (ms : List M) : M := fun env h => (evs ms env h).bind fun ds h1 => .ok (.tup ds) h1
def eLst (ms : List M) : M := fun env h => (evs ms env h).bind fun ds h1 => .ok (.ref h1.length) (h1 ++ [.lst ds])
section
variable {X : Cx} {G : Cl} {W : WX} {e o a b c : Expr} {es rest : List Expr} {pos p : Pos} {ma mb mc m mo : M} {ms : List M} {K : PySem.W.Frag} {ρ : List Addr} {H : Hp} {h : Hh} {σ : L2.St} {env : Ev} {x : Str} {id T : String}
theorem sa_nil : PA X [] (tL X.K G W (evs [])) := paImp pa_nil fun σ H Q t => by
  obtain ⟨ρ, h, env, hr, he, p⟩ := t
  exact p.ok hr .nil
theorem sa_cons (ha : PE X e (tM X.K G W m)) (hb : PA X es (tL X.K G W (evs ms))) (hs : starEach (e :: es) X.env = (false, eval e X.env) :: starEach es X.env := by rfl) : PA X (e :: es) (tL X.K G W (evs (m :: ms))) := paImp (pa_cons ha hb hs) fun σ H Q t => by
  obtain ⟨ρ, h, env, hr, he, p⟩ := t
  refine tG_mono (tG_bind (rel := relV X.K) hr he p) fun x H1 ⟨ρ1, h1, d, e1, hr1, he1, r1, p1⟩ => ?_
  refine tG_mono (tG_bind (rel := relVs X.K) hr1 he1 p1) fun y H2 ⟨ρ2, h2, d2, e2, hr2, he2, r2, p2⟩ => ?_
  exact p2.ok hr2 (.cons (r1.mono e2) r2)
theorem evs_len : ∀ {ms : List M} {env : Ev} {h h' : Hh} {ds : List D}, evs ms env h = .ok ds h' → ds.length = ms.length
  | [], _, _, _, _, e => by cases e; rfl
  | m :: ms, env, h, h', ds, e => by
    unfold evs at e
    cases q : m env h with
    | ok d h1 =>
      rw [q] at e
      simp only [R.bind_ok] at e
      cases q2 : evs ms env h1 with
      | ok ds2 h2 =>
        rw [q2] at e
        cases e
        rw [List.length_cons, List.length_cons, evs_len q2]
      | exc c fs h2 => rw [q2] at e; cases e
      | bad => rw [q2] at e; cases e
    | exc c fs h1 => rw [q] at e; cases e
    | bad => rw [q] at e; cases e
theorem nary_imp {r : List V → Hp → VK → Prop} {f : List D → Hh → Option (D × Hh)} (i : ImpN X.K G r f) (σ : L2.St) (H : Hp) (Q : VK) (t : tM X.K G W (eN f ms) σ H Q) : tCB r (tL X.K G W (evs ms)) σ H Q := by
  obtain ⟨ρ, h, env, hr, he, p⟩ := t
  refine tG_mono (tG_bind (rel := relVs X.K) hr he p) fun x H1 ⟨ρ1, h1, d, e1, hr1, he1, r1, p1⟩ => ?_
  obtain ⟨d2, h2, eq, k⟩ := p1.opt
  exact i hr1 r1 eq k
theorem se_callB {r : List V → Hp → VK → Prop} {f : List D → Hh → Option (D × Hh)} (hc : CallR X (.builtin id) r) (i : ImpN X.K G r f) (hg : Gl X x) (hm : X.mg x = none) (hv : bootBuiltins x = some (.builtin id)) (ha : PA X (e :: es) (tL X.K G W (evs ms))) (hn : x ≠ "__name__" := by decide) (hdb : (x == ("__debug__" : Str)) = false := by decide)
    (he : starEach (e :: es) X.env = (false, eval e X.env) :: starEach es X.env := by rfl) (hpl : (backTo pos (starEach es X.env)).any (·.1) = false := by rfl) : PE X (.Call (.Name x p) (e :: es) [] pos) (tM X.K G W (eN f ms)) :=
  peImp (pe_callB hc hg hm hv ha hn hdb he hpl) fun σ H Q t => nary_imp i σ H Q t
theorem se_callTy {r : List V → Hp → VK → Prop} {f : List D → Hh → Option (D × Hh)} (hc : CallR X (.type T) r) (i : ImpN X.K G r f) (hg : Gl X x) (hm : X.mg x = none) (hv : bootBuiltins x = some (.type T)) (ha : PA X (e :: es) (tL X.K G W (evs ms))) (hn : x ≠ "__name__" := by decide) (hdb : (x == ("__debug__" : Str)) = false := by decide)
    (he : starEach (e :: es) X.env = (false, eval e X.env) :: starEach es X.env := by rfl) (hpl : (backTo pos (starEach es X.env)).any (·.1) = false := by rfl) : PE X (.Call (.Name x p) (e :: es) [] pos) (tM X.K G W (eN f ms)) :=
  peImp (pe_callTy hc hg hm hv ha hn hdb he hpl) fun σ H Q t => nary_imp i σ H Q t
theorem seq_len {t : TA} {L : List V → Hp → Prop} (hl : ms.length ≤ sizeLine) (hr : Rh K G ρ H h) (he : Re K ρ H σ env) {Q : VK} {f : List D → Hh → R D}
    (p : Po K G (relV K) W ρ H σ ((evs ms env h).bind f) Q) : tG K G (relVs K) W (evs ms) σ H fun vs H1 => vs.length ≤ sizeLine ∧ Thn K G (relVs K) (relV K) W σ env f Q ρ H vs H1 := by
  refine ⟨ρ, h, env, hr, he, ?_⟩
  cases q : evs ms env h with
  | ok ds h1 =>
    rw [q] at p
    intro ρ' H' vs e a b
    exact ⟨by rw [Rvs.length b, evs_len q]; exact hl, ρ', h1, ds, e, a, he.mono e, b, Po.shift p e⟩
  | exc c fs h1 => rw [q] at p; exact p
  | bad => rw [q] at p; exact p
theorem se_tup {x1} (ha : PA X es (tL X.K G W (evs ms))) (hl : ms.length ≤ sizeLine := by decide) : PE X (.Tuple es x1 pos) (tM X.K G W (eTup ms)) := peImp (pe_tup ha) fun σ H Q t => by
  obtain ⟨ρ, h, env, hr, he, p⟩ := t
  refine tG_mono (seq_len (t := tNil) (L := fun _ _ => True) hl hr he p) fun vs H1 ⟨l, ρ1, h1, d, e1, hr1, he1, r1, p1⟩ => ⟨l, ?_⟩
  exact new_tup hr1 r1 p1
theorem se_lst (ha : PA X es (tL X.K G W (evs ms))) (hl : ms.length ≤ sizeLine := by decide) : PE X (.List es pos) (tM X.K G W (eLst ms)) := peImp (pe_lst ha) fun σ H Q t => by
  obtain ⟨ρ, h, env, hr, he, p⟩ := t
  refine tG_mono (seq_len (t := tNil) (L := fun _ _ => True) hl hr he p) fun vs H1 ⟨l, ρ1, h1, d, e1, hr1, he1, r1, p1⟩ => ⟨l, ?_⟩
  exact new_lst hr1 r1 p1
end

/-! ### items, slices -/
def opIx : D → D → Hh → Option (D × Hh)
  | .tup ds, .int i, h => (atI ds i).map fun d => (d, h)
  | .str z, .int i, h => if z.length ≤ sizeLine then (atI z.cps.toList i).map fun c => (.str ⟨#[c]⟩, h) else none
  | .fls ds, .int i, h => (atI ds i).map fun d => (d, h)
  | .ref n, .int i, h => match h[n]? with
    | some (.lst ds) => (atI ds i).map fun d => (d, h)
    | _ => none
  | _, _, _ => none
def cutD (xs : List D) (lo hi : Option Int) : List D := (xs.drop (HT.sIx xs.length 0 lo)).take (HT.sIx xs.length xs.length hi - HT.sIx xs.length 0 lo)
/-- the part of a slice: left out, or an int -/
def evO : Option M → Ev → Hh → R (Option Int)
  | none, _, h => .ok none h
  | some m, env, h => (m env h).bind fun d h1 => match d with
    | .int i => .ok (some i) h1
    | _ => .bad
def opSl : D → Option Int → Option Int → Hh → Option (D × Hh)
  | .tup ds, lo, hi, h => some (.tup (cutD ds lo hi), h)
  | .str z, lo, hi, h => if z.length ≤ sizeLine then some (.str (cutS z lo hi), h) else none
  | .fls ds, lo, hi, h => some (.ref h.length, h ++ [.lst (cutD ds lo hi)])
  | .ref n, lo, hi, h => match h[n]? with
    | some (.lst ds) => some (.ref h.length, h ++ [.lst (cutD ds lo hi)])
    | _ => none
  | _, _, _, _ => none
def eSl (m : M) (lo hi : Option M) : M := fun env h => (m env h).bind fun d h1 => (evO lo env h1).bind fun l h2 => (evO hi env h2).bind fun u h3 => R.opt (opSl d l u h3)
def opRev : D → Hh → Option (D × Hh)
  | .fls ds, h => some (.ref h.length, h ++ [.lst ds.reverse])
  | .ref n, h => match h[n]? with
    | some (.lst ds) => some (.ref h.length, h ++ [.lst ds.reverse])
    | _ => none
  | _, _ => none
section
variable {X : Cx} {G : Cl} {W : WX} {e o a b c : Expr} {lo hi : Option Expr} {es rest : List Expr} {pos p p2 p1 p3 : Pos} {ma mb mc m mo : M} {ml mh : Option M} {ms : List M} {K : PySem.W.Frag} {ρ : List Addr} {H : Hp} {h : Hh} {σ : L2.St} {env : Ev} {x : Str} {id T : String}
theorem Rvs.atI {vs : List V} {ds : List D} (r : Rvs K ρ H vs ds) {i : Int} {d : D} (e : L2.atI ds i = some d) : ∃ v, L2.atI vs i = some v ∧ Rv K ρ H v d := by
  unfold L2.atI at e ⊢
  rw [r.length]
  cases q : ixN ds.length i with
  | none => rw [q] at e; cases e
  | some j =>
    rw [q] at e
    exact r.get e
theorem im_ix : Imp2 K G (rIx K) opIx := fun {ρ H h x y dx dy d h' Q} hr rx ry e k => by
  unfold opIx at e
  split at e
  · cases ry
    obtain ⟨a, vs, rfl, t, r⟩ := rx.sqT
    simp only [Option.map_eq_some_iff, Prod.mk.injEq] at e
    obtain ⟨d2, e, rfl, rfl⟩ := e
    obtain ⟨v, q, rv⟩ := r.atI e
    exact .inr (.inl ⟨a, vs, _, v, rfl, rfl, t, q, k _ _ _ Ex.refl hr rv⟩)
  · cases ry; cases rx
    split at e
    · simp only [Option.map_eq_some_iff, Prod.mk.injEq] at e
      obtain ⟨c, e, rfl, rfl⟩ := e
      exact .inr (.inr ⟨_, _, c, rfl, rfl, by assumption, e, k _ _ _ Ex.refl hr (.str _)⟩)
    · cases e
  · cases ry
    cases rx with
    | fls t r =>
      simp only [Option.map_eq_some_iff, Prod.mk.injEq] at e
      obtain ⟨d2, e9, rfl, rfl⟩ := e
      obtain ⟨v, q, rv⟩ := r.atI e9
      exact .inl ⟨_, _, _, v, rfl, rfl, t.sq, q, k _ _ _ Ex.refl hr rv⟩
  · cases ry
    cases rx with
    | ref ra =>
      split at e
      · rename_i e0
        simp only [Option.map_eq_some_iff, Prod.mk.injEq] at e
        obtain ⟨d2, e9, rfl, rfl⟩ := e
        obtain ⟨vs, q, r⟩ := ref_seq hr ra e0
        obtain ⟨v, q2, rv⟩ := r.atI e9
        exact .inl ⟨_, vs, _, v, rfl, rfl, q, q2, k _ _ _ Ex.refl hr rv⟩
      · cases e
  · cases e
theorem se_ix (ha : PE X a (tM X.K G W ma)) (hb : PE X b (tM X.K G W mb)) (hs : PlainIx b := by exact fun _ _ => rfl) : PE X (.Subscript a b pos) (tM X.K G W (eB opIx ma mb)) := peImp (pe_ix ix_seq ha hb hs) fun σ H Q t => bin_imp im_ix σ H Q t
abbrev relO : List Addr → Hp → Option Int → Option Int → Prop := fun _ _ b c => b = c
theorem so_none : PO X none (tG X.K G relO W (evO none)) := ⟨fun pins s σ H Q I t => by
  obtain ⟨ρ, h, env, hr, he, p⟩ := t
  exact po_none.run pins s σ H Q I (p.ok hr rfl)⟩
theorem so_some (ha : PE X e (tM X.K G W m)) : PO X (some e) (tG X.K G relO W (evO (some m))) := ⟨fun pins s σ H Q I t => by
  obtain ⟨ρ, h, env, hr, he, p⟩ := t
  refine (po_some ha).run pins s σ H Q I (tG_mono (tG_bind (rel := relV X.K) hr he p) fun x H1 ⟨ρ1, h1, d, e1, hr1, he1, r1, p1⟩ => ?_)
  cases d with
  | int i => cases r1; exact ⟨i, rfl, p1.ok hr1 rfl⟩
  | _ => exact p1.elim⟩
theorem Rvs.cut {vs : List V} {ds : List D} (r : Rvs K ρ H vs ds) (lo hi : Option Int) : Rvs K ρ H (cutV vs lo hi) (cutD ds lo hi) := by
  unfold cutV cutD
  rw [r.length]
  exact (r.drop _).take _
abbrev rSlAll (K : PySem.W.Frag) : V → Option Int → Option Int → Hp → VK → Prop := fun x lo hi H Q => rSlA K x lo hi H Q ∨ (rSlL K x lo hi H Q ∨ rSlS x lo hi H Q)
theorem whole_cut {ds : List D} {lo hi : Option Int} (h1 : HT.sIx ds.length 0 lo = 0) (h2 : HT.sIx ds.length ds.length hi = ds.length) : cutD ds lo hi = ds := by
  unfold cutD
  rw [h1, h2]
  simp
theorem im_sl {x : V} {d d2 : D} {lo hi : Option Int} {h' : Hh} {Q : VK} (hr : Rh K G ρ H h) (rx : Rv K ρ H x d) (e : opSl d lo hi h = some (d2, h')) (k : ∀ ρ' H' v, Ex K ρ H ρ' H' → Rh K G ρ' H' h' → Rv K ρ' H' v d2 → Q v H') : rSlAll K x lo hi H Q := by
  unfold opSl at e
  split at e
  · cases e
    obtain ⟨a, vs, rfl, t, r⟩ := rx.sqT
    refine .inl ⟨a, vs, rfl, t, fun ⟨z1, z2⟩ => ?_, fun _ => new_tup hr (r.cut lo hi) k⟩
    rw [r.length] at z1 z2
    rw [whole_cut z1 z2] at k
    exact k _ _ _ Ex.refl hr rx
  · split at e
    · cases e; cases rx
      exact .inr (.inr ⟨_, rfl, by assumption, k _ _ _ Ex.refl hr (.str _)⟩)
    · cases e
  · cases e
    cases rx with
    | fls t r => exact .inr (.inl ⟨_, _, rfl, t.sq, new_lst hr (r.cut _ _) k⟩)
  · cases rx with
    | ref ra =>
      split at e
      · rename_i ds e0
        cases e
        obtain ⟨vs, q, r⟩ := ref_seq hr ra e0
        exact .inr (.inl ⟨_, vs, rfl, q, new_lst hr (r.cut _ _) k⟩)
      · cases e
  · cases e
theorem se_sl (ha : PE X a (tM X.K G W m)) (hl : PO X lo (tG X.K G relO W (evO ml))) (hh : PO X hi (tG X.K G relO W (evO mh))) : PE X (.Subscript a (.Slice lo hi none p2) pos) (tM X.K G W (eSl m ml mh)) :=
  peImp (pe_slice (sl_tupA.or (sl_list.or sl_str)) ha hl hh) fun σ H Q t => by
    obtain ⟨ρ, h, env, hr, he, p⟩ := t
    refine tG_mono (tG_bind (rel := relV X.K) hr he p) fun x H1 ⟨ρ1, h1, d, e1, hr1, he1, r1, p1⟩ => ?_
    refine tG_mono (tG_bind (rel := relO) hr1 he1 p1) fun l H2 ⟨ρ2, h2, d2, e2, hr2, he2, r2, p2⟩ => ?_
    refine tG_mono (tG_bind (rel := relO) hr2 he2 p2) fun u H3 ⟨ρ3, h3, d3, e3, hr3, he3, r3, p3⟩ => ?_
    subst r2 r3
    obtain ⟨d4, h4, eq, k⟩ := p3.opt
    exact im_sl hr3 ((r1.mono e2).mono e3) eq k
theorem se_rev {k : Nat} (ha : PE X a (tM X.K G W m)) : PE X (.Subscript a (.Slice none none (some (.UnaryOp .USub (.Constant (.int 1) k p1) p2)) p3) pos) (tM X.K G W (eU opRev m)) := peImp (pe_revL ha) fun σ H Q t => by
  refine un_imp (r := fun x H1 Q => ∃ a xs, x = .ref a ∧ SqL X.K H1 a xs ∧ ∀ p, H1 p = none → Q (.ref p) (upd H1 p (.lst xs.reverse))) (fun {ρ H h x dx d h' Q} hr rx e k => ?_) σ H Q t
  unfold opRev at e
  split at e
  · cases e
    cases rx with
    | fls t r => exact ⟨_, _, rfl, t.sq, new_lst hr r.reverse k⟩
  · cases rx with
    | ref ra =>
      split at e
      · rename_i ds e0
        cases e
        obtain ⟨vs, q, r⟩ := ref_seq hr ra e0
        exact ⟨_, vs, rfl, q, new_lst hr r.reverse k⟩
      · cases e
  · cases e
end
end Sm
/-! SmD: statements, loops, defs and their calls. -/
namespace Sm
open PySem L2 PyProof.Rows

inductive SR where
  | nx (env : Ev) (h : Hh) | rt (d : D) (h : Hh) | bk (env : Ev) (h : Hh) | ct (env : Ev) (h : Hh) | exc (c : Nat) (fs : List D) (env : Ev) (h : Hh) | bad
abbrev S := Ev → Hh → SR
section
variable (K : PySem.W.Frag) (G : Cl)
def PoS (W : WX) (ρ : List Addr) (H : Hp) (D : Ends) (r : SR) : Prop := match r with
  | .nx env h => ∀ ρ' H' σ', Ex K ρ H ρ' H' → Rh K G ρ' H' h → Re K ρ' H' σ' env → D.nx σ' H'
  | .rt d h => ∀ ρ' H' v, Ex K ρ H ρ' H' → Rh K G ρ' H' h → Rv K ρ' H' v d → D.rt v H'
  | .bk env h => ∀ ρ' H' σ', Ex K ρ H ρ' H' → Rh K G ρ' H' h → Re K ρ' H' σ' env → D.bk σ' H'
  | .ct env h => ∀ ρ' H' σ', Ex K ρ H ρ' H' → Rh K G ρ' H' h → Re K ρ' H' σ' env → D.ct σ' H'
  | .exc c fs env h => ∀ ρ' H' σ' d, Ex K ρ H ρ' H' → Rh K G ρ' H' h → Re K ρ' H' σ' env → Rx K G ρ' H' d c fs → W (.ref (G.at_ c)) d σ' H'
  | .bad => False
def tS (W : WX) (s : S) : TS := fun D σ H => ∃ ρ h env, Rh K G ρ H h ∧ Re K ρ H σ env ∧ PoS K G W ρ H D (s env h)
end
def bindS {α : Type} (r : R α) (env : Ev) (f : α → Hh → SR) : SR := match r with
  | .ok a h => f a h
  | .exc c fs h => .exc c fs env h
  | .bad => .bad
@[simp] theorem bindS_ok {α : Type} (a : α) (h : Hh) (env : Ev) (f : α → Hh → SR) : bindS (.ok a h) env f = f a h := rfl
@[simp] theorem bindS_exc {α : Type} (c : Nat) (fs : List D) (h : Hh) (env : Ev) (f : α → Hh → SR) : bindS (.exc c fs h : R α) env f = .exc c fs env h := rfl
@[simp] theorem bindS_bad {α : Type} (env : Ev) (f : α → Hh → SR) : bindS (.bad : R α) env f = .bad := rfl

section
variable {K : PySem.W.Frag} {G : Cl} {α β : Type} {rel : List Addr → Hp → β → α → Prop} {W : WX} {ρ ρ1 : List Addr} {H H1 : Hp} {σ : L2.St} {h : Hh} {env : Ev} {D0 : Ends}
theorem PoS.shift {r : SR} (p : PoS K G W ρ H D0 r) (e : Ex K ρ H ρ1 H1) : PoS K G W ρ1 H1 D0 r := by
  cases r with
  | nx env h => exact fun ρ' H' v e' => p ρ' H' v (e.trans e')
  | rt d h => exact fun ρ' H' v e' => p ρ' H' v (e.trans e')
  | bk env h => exact fun ρ' H' v e' => p ρ' H' v (e.trans e')
  | ct env h => exact fun ρ' H' v e' => p ρ' H' v (e.trans e')
  | exc c fs env h => exact fun ρ' H' v d e' => p ρ' H' v d (e.trans e')
  | bad => exact p
def ThnS (K : PySem.W.Frag) (G : Cl) (rel : List Addr → Hp → β → α → Prop) (W : WX) (σ : L2.St) (env : Ev) (f : α → Hh → SR) (D0 : Ends) (ρ : List Addr) (H : Hp) (v : β) (H1 : Hp) : Prop :=
  ∃ ρ1 h1 d, Ex K ρ H ρ1 H1 ∧ Rh K G ρ1 H1 h1 ∧ Re K ρ1 H1 σ env ∧ rel ρ1 H1 v d ∧ PoS K G W ρ1 H1 D0 (f d h1)
theorem PoS.bind {r : R α} {f : α → Hh → SR} (he : Re K ρ H σ env) (p : PoS K G W ρ H D0 (bindS r env f)) : Po K G rel W ρ H σ r (ThnS K G rel W σ env f D0 ρ H) := by
  cases r with
  | ok d h' => exact fun ρ' H' v e a b => ⟨ρ', h', d, e, a, he.mono e, b, p.shift e⟩
  | exc c fs h' => exact fun ρ' H' d e a b => p ρ' H' σ d e a (he.mono e) b
  | bad => exact p
theorem tS_bind {m : Ev → Hh → R α} {f : α → Hh → SR} (hr : Rh K G ρ H h) (he : Re K ρ H σ env) (p : PoS K G W ρ H D0 (bindS (m env h) env f)) : tG K G rel W m σ H (ThnS K G rel W σ env f D0 ρ H) :=
  ⟨ρ, h, env, hr, he, p.bind he⟩
theorem PoS.nx_ {σ : L2.St} (p : PoS K G W ρ H D0 (.nx env h)) (hr : Rh K G ρ H h) (he : Re K ρ H σ env) : D0.nx σ H := p ρ H σ Ex.refl hr he
theorem PoS.rt_ {v : V} {d : D} (p : PoS K G W ρ H D0 (.rt d h)) (hr : Rh K G ρ H h) (r : Rv K ρ H v d) : D0.rt v H := p ρ H v Ex.refl hr r
end

/-! ### small statements -/
def sSkip : S := fun env h => .nx env h
def sSeq (a b : S) : S := fun env h => match a env h with
  | .nx env' h' => b env' h'
  | r => r
def sRet (m : M) : S := fun env h => bindS (m env h) env fun d h1 => .rt d h1
def sRetN : S := fun _ h => .rt .non h
def sExpr (m : M) : S := fun env h => bindS (m env h) env fun _ h1 => .nx env h1
def sSet (i : Nat) (m : M) : S := fun env h => bindS (m env h) env fun d h1 => .nx (env.set i (some d)) h1
def sIf (t : MT) (a b : S) : S := fun env h => bindS (t env h) env fun c h1 => if c = true then a env h1 else b env h1
def sBk : S := fun env h => .bk env h
def sCt : S := fun env h => .ct env h
def sNever : S := fun _ _ => .bad
def sAug (f : D → D → Hh → Option (D × Hh)) (i : Nat) (m : M) : S := fun env h => match env[i]? with
  | some (some x) => bindS (m env h) env fun y h1 => bindS (R.opt (f x y h1)) env fun z h2 => .nx (env.set i (some z)) h2
  | _ => .bad
section
variable {X : Cx} {G : Cl} {W : WX} {e a b c : Expr} {st : Stmt} {rest sa sb : List Stmt} {pos : Pos} {ma mb m : M} {s s1 s2 : S} {t : MT}
theorem ss_nil : PSs X [] (tS X.K G W sSkip) := pssImp pss_nil fun D0 σ H t => by
  obtain ⟨ρ, h, env, hr, he, p⟩ := t
  exact p.nx_ hr he
theorem seq_imp {t1 t2 : TS} (i1 : ∀ D σ H, tS X.K G W s1 D σ H → t1 D σ H) (i2 : ∀ D σ H, tS X.K G W s2 D σ H → t2 D σ H) (D0 : Ends) (σ : L2.St) (H : Hp) (t : tS X.K G W (sSeq s1 s2) D0 σ H) : tS X.K G W s1 { D0 with nx := fun σ H => tS X.K G W s2 D0 σ H } σ H := by
  obtain ⟨ρ, h, env, hr, he, p⟩ := t
  refine ⟨ρ, h, env, hr, he, ?_⟩
  unfold sSeq at p
  cases q : s1 env h with
  | nx env' h' =>
    rw [q] at p
    exact fun ρ' H' σ' e a b => ⟨ρ', h', env', a, b, PoS.shift p e⟩
  | rt d h' => rw [q] at p; exact p
  | bk env' h' => rw [q] at p; exact p
  | ct env' h' => rw [q] at p; exact p
  | exc c fs env' h' => rw [q] at p; exact p
  | bad => rw [q] at p; exact p
theorem ss_cons (h1 : PS X st (tS X.K G W s1)) (h2 : PSs X rest (tS X.K G W s2)) : PSs X (st :: rest) (tS X.K G W (sSeq s1 s2)) := pssImp (pss_cons h1 h2) fun D0 σ H t => seq_imp (fun _ _ _ z => z) (fun _ _ _ z => z) D0 σ H t
theorem ss_one (h1 : PS X st (tS X.K G W s1)) : PSs X [st] (tS X.K G W s1) := pss_one h1
theorem s_pass : PS X (.Pass pos) (tS X.K G W sSkip) := psImp ps_pass fun D0 σ H t => by
  obtain ⟨ρ, h, env, hr, he, p⟩ := t
  exact p.nx_ hr he
theorem s_break : PS X (.Break pos) (tS X.K G W sBk) := psImp ps_break fun D0 σ H t => by
  obtain ⟨ρ, h, env, hr, he, p⟩ := t
  exact p ρ H σ Ex.refl hr he
theorem s_continue : PS X (.Continue pos) (tS X.K G W sCt) := psImp ps_continue fun D0 σ H t => by
  obtain ⟨ρ, h, env, hr, he, p⟩ := t
  exact p ρ H σ Ex.refl hr he
theorem s_never : PS X st (tS X.K G W sNever) := psImp ps_never fun D0 σ H t => by
  obtain ⟨ρ, h, env, hr, he, p⟩ := t
  exact p
theorem s_ret (ha : PE X a (tM X.K G W m)) : PS X (.Return (some a) pos) (tS X.K G W (sRet m)) := psImp (ps_ret ha) fun D0 σ H t => by
  obtain ⟨ρ, h, env, hr, he, p⟩ := t
  refine tG_mono (tS_bind (rel := relV X.K) hr he p) fun x H1 ⟨ρ1, h1, d, e1, hr1, he1, r1, p1⟩ => ?_
  exact p1.rt_ hr1 r1
theorem s_retN : PS X (.Return none pos) (tS X.K G W sRetN) := psImp ps_retN fun D0 σ H t => by
  obtain ⟨ρ, h, env, hr, he, p⟩ := t
  exact p.rt_ hr .non
theorem s_expr (ha : PE X a (tM X.K G W m)) (hs : swapsWith a none pos.line X.env = pure false := by rfl) : PS X (.Expr a pos) (tS X.K G W (sExpr m)) := psImp (ps_expr ha hs) fun D0 σ H t => by
  obtain ⟨ρ, h, env, hr, he, p⟩ := t
  refine tG_mono (tS_bind (rel := relV X.K) hr he p) fun x H1 ⟨ρ1, h1, d, e1, hr1, he1, r1, p1⟩ => ?_
  exact p1.nx_ hr1 he1
theorem set_imp {i : Nat} (D0 : Ends) (σ : L2.St) (H : Hp) (t : tS X.K G W (sSet i m) D0 σ H) : tAsg (tM X.K G W m) (gName i) D0 σ H := by
  obtain ⟨ρ, h, env, hr, he, p⟩ := t
  refine tG_mono (tS_bind (rel := relV X.K) hr he p) fun x H1 ⟨ρ1, h1, d, e1, hr1, he1, r1, p1⟩ => ?_
  exact p1.nx_ hr1 (he1.set r1 i)
theorem s_set (i : Nat) {x : Str} {pos' : Pos} (hN : X.N.Nodup) (ha : PE X a (tM X.K G W m)) (hi : X.N[i]? = some x := by rfl) (hx : Loc X.env.scope x := by first | exact Or.inl rfl | exact Or.inr rfl) (hs : swapsWith a (some (.Name x pos')) pos.line X.env = pure false := by rfl)
    (hf : X.fn x = true ∨ X.env.scope.names.lookup x = some .local := by first | exact .inl rfl | exact .inr rfl) : PS X (.Assign [.Name x pos'] a pos) (tS X.K G W (sSet i m)) := psImp (ps_set hN hi hx ha hs hf) fun D0 σ H t => set_imp D0 σ H t
theorem s_if (hc : PT X c (tT X.K G W t)) (ha : PSs X sa (tS X.K G W s1)) (hb : PSs X sb (tS X.K G W s2)) : PS X (.If c sa sb pos) (tS X.K G W (sIf t s1 s2)) := psImp (ps_if hc ha hb) fun D0 σ H t => by
  obtain ⟨ρ, h, env, hr, he, p⟩ := t
  refine tG_mono (tS_bind (rel := relB) hr he p) fun x H1 ⟨ρ1, h1, d, e1, hr1, he1, r1, p1⟩ => ?_
  subst r1
  cases x with
  | true => exact ⟨ρ1, h1, env, hr1, he1, p1⟩
  | false => exact ⟨ρ1, h1, env, hr1, he1, p1⟩
theorem s_aug {op : Operator} {r : R2} {f : D → D → Hh → Option (D × Hh)} (i : Nat) {x : Str} {pos' : Pos} (hN : X.N.Nodup) (ho : OpR X (inplaceOp op) r) (im : Imp2 X.K G r f) (ha : PE X a (tM X.K G W m)) (hi : X.N[i]? = some x := by rfl) (hx : Loc X.env.scope x := by first | exact Or.inl rfl | exact Or.inr rfl)
    (hf : X.fn x = true ∨ X.env.scope.names.lookup x = some .local := by first | exact .inl rfl | exact .inr rfl) : PS X (.AugAssign (.Name x pos') op a pos) (tS X.K G W (sAug f i m)) := psImp (ps_aug (ti := r) hN hi hx ha ho hf) fun D0 σ H t => by
  obtain ⟨ρ, h, env, hr, he, p⟩ := t
  unfold sAug at p
  cases q : env[i]? with
  | none => rw [q] at p; exact p.elim
  | some o =>
    cases o with
    | none => rw [q] at p; exact p.elim
    | some d =>
      rw [q] at p
      obtain ⟨v, h1, h2⟩ := he.get i d q
      refine ⟨v, h1, tG_mono (tS_bind (rel := relV X.K) hr he p) fun y H1 ⟨ρ1, h1', d1, e1, hr1, he1, r1, p1⟩ => ?_⟩
      cases z : f d d1 h1' with
      | none => dsimp only at p1; rw [z] at p1; exact p1.elim
      | some zz =>
        obtain ⟨d2, h2'⟩ := zz
        dsimp only at p1
        rw [z] at p1
        exact im hr1 (h2.mono e1) r1 z fun ρ' H' v' e' a' b' => p1 ρ' H' _ e' a' ((he1.mono e').set b' i)
end

/-! ### a, b = .. -/
@[simp] def setAll : List Nat → List D → Ev → Ev
  | i :: is, d :: ds, env => setAll is ds (env.set i (some d))
  | _, _, env => env
/-- the parts of a tuple or a list -/
def partsOf : D → Hh → Option (List D)
  | .tup ds, _ => some ds
  | .fls ds, _ => some ds
  | .ref n, h => match h[n]? with
    | some (.lst ds) => some ds
    | _ => none
  | _, _ => none
/-- a target stores a value -/
abbrev TgM := D → Hh → Ev → Option Ev
def gtName (i : Nat) : TgM := fun d _ env => some (env.set i (some d))
def gtTup (is : List Nat) : TgM := fun d h env => match partsOf d h with
  | some ds => if ds.length = is.length then some (setAll is ds env) else none
  | none => none
def TgOk (K : PySem.W.Frag) (G : Cl) (g : TG) (s : TgM) : Prop := ∀ {ρ : List Addr} {H : Hp} {h : Hh} {σ : L2.St} {env env' : Ev} {v : V} {d : D} {Q : L2.St → Hp → Prop}, Rh K G ρ H h → Re K ρ H σ env → Rv K ρ H v d → s d h env = some env' → (∀ σ', Re K ρ H σ' env' → Q σ' H) → g v σ H Q
def sUnp (g : TgM) (m : M) : S := fun env h => bindS (m env h) env fun d h1 => match g d h1 env with
  | some env' => .nx env' h1
  | none => .bad
theorem PG.or {X : Cx} {tg : Expr} {t u : TG} (h1 : PG X tg t) (h2 : PG X tg u) : PG X tg (fun v σ H Q => t v σ H Q ∨ u v σ H Q) := ⟨fun pins s σ H v u Q I r q => by
  rcases q with q | q
  · exact h1.run pins s σ H v u Q I r q
  · exact h2.run pins s σ H v u Q I r q⟩
/-- the readings of names, one after another -/
def gNames : List Nat → TGs
  | [] => gNil
  | i :: is => gCons (gName i) (gNames is)
section
variable {X : Cx} {G : Cl} {W : WX} {e a b c tg : Expr} {es : List Expr} {st : Stmt} {pos : Pos} {m : M} {K : PySem.W.Frag}
theorem tg_name {i : Nat} : TgOk K G (gName i) (gtName i) := fun {ρ H h σ env env' v d Q} hr he r e k => by
  cases e
  exact k _ (he.set r i)
theorem names_imp {ρ : List Addr} {H : Hp} : ∀ {is : List Nat} {vs : List V} {ds : List D} {σ : L2.St} {env : Ev} {Q : L2.St → Hp → Prop}, ds.length = is.length → Re K ρ H σ env → Rvs K ρ H vs ds → (∀ σ', Re K ρ H σ' (setAll is ds env) → Q σ' H) → gNames is vs σ H Q
  | [], _, [], σ, env, Q, _, he, .nil, k => ⟨rfl, k σ he⟩
  | i :: is, _, d :: ds, σ, env, Q, l, he, .cons (v := v) (vs := vs) r rs, k => ⟨v, vs, rfl, names_imp (is := is) (by simpa using l) (he.set r i) rs k⟩
theorem tg_tup {is : List Nat} {n : Nat} (hn : n = is.length) : TgOk K G (fun v σ H Q => gTup K n (gNames is) v σ H Q ∨ gLst K n (gNames is) v σ H Q) (gtTup is) := fun {ρ H h σ env env' v d Q} hr he r e k => by
  unfold gtTup at e
  split at e
  · rename_i ds e1
    split at e
    · rename_i hl
      cases e
      unfold partsOf at e1
      split at e1
      · cases e1
        obtain ⟨a, vs, rfl, t, r⟩ := r.sqT
        exact .inl ⟨a, vs, rfl, t, by rw [r.length, hl, hn], names_imp hl he r k⟩
      · cases e1
        cases r with
        | fls t r => exact .inr ⟨_, _, rfl, t.sq, by rw [r.length, hl, hn], names_imp hl he r k⟩
      · cases r with
        | ref ra =>
          split at e1
          · rename_i e0
            cases e1
            obtain ⟨vs, q, r⟩ := ref_seq hr ra e0
            exact .inr ⟨_, vs, rfl, q, by rw [r.length, hl, hn], names_imp hl he r k⟩
          · cases e1
      · cases e1
    · cases e
  · cases e
theorem pgn_nil : PGs X [] (gNames []) := pgs_nil
theorem pgn_cons {i : Nat} {is : List Nat} {x : Str} {p : Pos} (hN : X.N.Nodup) (h2 : PGs X es (gNames is)) (hi : X.N[i]? = some x := by rfl) (hx : Loc X.env.scope x := by first | exact Or.inl rfl | exact Or.inr rfl) (hf : X.fn x = true ∨ X.env.scope.names.lookup x = some .local := by first | exact .inl rfl | exact .inr rfl)
    (hs : (assignEach (.Name x p :: es) X.env).map (·.2) = assign (.Name x p) X.env :: (assignEach es X.env).map (·.2) := by rfl) : PGs X (.Name x p :: es) (gNames (i :: is)) := pgs_cons (pg_name hN hi hx hf) h2 hs
theorem pgn_tup {is : List Nat} {k : Nat} (hc : X.calm = true) (h : PGs X es (gNames is)) (hn : (assignEach es X.env).length = is.length := by rfl) (hst : (assignEach es X.env).findIdx? (·.1) = none := by rfl) :
    PG X (.Tuple es k pos) (fun v σ H Q => gTup X.K is.length (gNames is) v σ H Q ∨ gLst X.K is.length (gNames is) v σ H Q) := PG.or (pg_tup hc h hn hst) (pg_lst hc h hn hst)
theorem s_unp {g : TG} {s : TgM} (ha : PE X a (tM X.K G W m)) (hg : PG X tg g) (ok : TgOk X.K G g s) (hs : swapsWithSole [tg] a pos.line X.env = pure false := by rfl) (hw : swappedStores [tg] a X.env = pure none := by rfl)
    (h1 : (assignEach [tg] X.env).map (·.2) = [assign tg X.env] := by rfl) : PS X (.Assign [tg] a pos) (tS X.K G W (sUnp s m)) := psImp (ps_asg ha hg hs hw h1) fun D0 σ H t => by
  obtain ⟨ρ, h, env, hr, he, p⟩ := t
  refine tG_mono (tS_bind (rel := relV X.K) hr he p) fun x H1 ⟨ρ1, h1, d, e1, hr1, he1, r1, p1⟩ => ?_
  dsimp only at p1
  cases q : s d h1 env with
  | none => rw [q] at p1; exact p1.elim
  | some env' =>
    rw [q] at p1
    exact ok hr1 he1 r1 q fun σ' he' => p1.nx_ hr1 he'
end

/-! ### for -/
/-- what a loop walks: its items, and the object that must stand still meanwhile -/
abbrev Src := List D × Option (Nat × O)
@[simp] def gdOk (gd : Option (Nat × O)) (h : Hh) : Prop := match gd with
  | none => True
  | some (n, o) => h[n]? = some o
open Classical in
noncomputable def forL (g : TgM) (body : S) (gd : Option (Nat × O)) : List D → Ev → Hh → SR
  | [], env, h => if gdOk gd h then .nx env h else .bad
  | x :: xs, env, h => if gdOk gd h then (match g x h env with
    | none => .bad
    | some env1 => match body env1 h with
      | .nx e' h' => forL g body gd xs e' h'
      | .ct e' h' => forL g body gd xs e' h'
      | .bk e' h' => .nx e' h'
      | r => r) else .bad
noncomputable def sFor (mi : Ev → Hh → R Src) (g : TgM) (body : S) : S := fun env h => bindS (mi env h) env fun src h1 => forL g body src.2 src.1 env h1
/-- what an iterator must do for its items -/
structure Walks (K : PySem.W.Frag) (G : Cl) (ρ0 : List Addr) (H0 : Hp) (J : It) (xs : List D) (gd : Option (Nat × O)) : Prop where
  go : ∀ (i : Nat) (ρ : List Addr) (H : Hp) (h : Hh), Rh K G ρ H h → Ex K ρ0 H0 ρ H → gdOk gd h → i < xs.length → J.go i H
  yld : ∀ (i : Nat) (ρ : List Addr) (H : Hp) (h : Hh) (x : V) (H' : Hp), Rh K G ρ H h → Ex K ρ0 H0 ρ H → gdOk gd h → J.yld i H x H' → ∀ d, xs[i]? = some d → H' = H ∧ Rv K ρ H x d
  stop : ∀ (ρ : List Addr) (H : Hp) (h : Hh), Rh K G ρ H h → Ex K ρ0 H0 ρ H → gdOk gd h → J.stop xs.length H
/-- an iterable's reading and its items -/
def ItOk (K : PySem.W.Frag) (G : Cl) (W : WX) (wi : TI) (mi : Ev → Hh → R Src) : Prop := ∀ (σ : L2.St) (H : Hp) (R : It → Hp → Prop),
  tG K G (fun ρ H (J : It) (s : Src) => Walks K G ρ H J s.1 s.2) W mi σ H R → wi σ H R
section
variable {X : Cx} {G : Cl} {W : WX} {e a b c tg iter : Expr} {es : List Expr} {st : Stmt} {body : List Stmt} {pos : Pos} {m : M} {K : PySem.W.Frag} {ρ : List Addr} {H : Hp} {h : Hh} {σ : L2.St} {env : Ev} {D0 : Ends}
theorem for_sound {J : It} {xs : List D} {gd : Option (Nat × O)} {g : TG} {s : TgM} {sb : S} (w : Walks K G ρ H J xs gd) (ok : TgOk K G g s) (hr : Rh K G ρ H h) (he : Re K ρ H σ env) (p : PoS K G W ρ H D0 (forL s sb gd xs env h)) :
    ∃ W' : Nat → Nat → L2.St → Hp → Prop, (∃ m, W' 0 m σ H) ∧ ∀ i m σ H, W' i m σ H →
      (J.stop i H ∧ D0.nx σ H) ∨ (J.go i H ∧ ∃ N : L2.St → Hp → Prop, (∀ σ' H', N σ' H' → ∃ m', m' < m ∧ W' (i + 1) m' σ' H') ∧ ∀ x H', J.yld i H x H' → g x σ H' fun σ2 H2 => tS K G W sb { D0 with nx := N, ct := N, bk := D0.nx } σ2 H2) := by
  refine ⟨fun i m σ' H' => i ≤ xs.length ∧ m = xs.length - i ∧ ∃ ρ' h' env', Ex K ρ H ρ' H' ∧ Rh K G ρ' H' h' ∧ Re K ρ' H' σ' env' ∧ PoS K G W ρ' H' D0 (forL s sb gd (xs.drop i) env' h'), ⟨_, Nat.zero_le _, rfl, ρ, h, env, Ex.refl, hr, he, p⟩, ?_⟩
  rintro i m σ1 H1 ⟨hi, rfl, ρ1, h1, env1, e1, hr1, he1, p1⟩
  by_cases hlt : i < xs.length
  · rw [List.drop_eq_getElem_cons hlt] at p1
    unfold forL at p1
    split at p1
    · rename_i hg
      refine .inr ⟨w.go i ρ1 H1 h1 hr1 e1 hg hlt, fun σ' H' => ∃ ρ' h' env', Ex K ρ1 H1 ρ' H' ∧ Rh K G ρ' H' h' ∧ Re K ρ' H' σ' env' ∧ PoS K G W ρ' H' D0 (forL s sb gd (xs.drop (i + 1)) env' h'), fun σ' H' ⟨ρ', h', env', e', hr', he', p'⟩ => ⟨_, by omega, hlt, rfl, ρ', h', env', e1.trans e', hr', he', p'⟩, fun x H' y => ?_⟩
      obtain ⟨rfl, rx⟩ := w.yld i ρ1 H1 h1 x H' hr1 e1 hg y xs[i] (by simp [hlt])
      split at p1
      · exact p1.elim
      · rename_i env2 q2
        refine ok hr1 he1 rx q2 fun σ2 he2 => ⟨ρ1, h1, env2, hr1, he2, ?_⟩
        cases q : sb env2 h1 with
        | nx e' h' => rw [q] at p1; exact fun ρ' H' σ' e a b => ⟨ρ', h', e', e, a, b, PoS.shift p1 e⟩
        | ct e' h' => rw [q] at p1; exact fun ρ' H' σ' e a b => ⟨ρ', h', e', e, a, b, PoS.shift p1 e⟩
        | bk e' h' => rw [q] at p1; exact p1
        | rt d h' => rw [q] at p1; exact p1
        | exc c fs e' h' => rw [q] at p1; exact p1
        | bad => rw [q] at p1; exact p1
    · exact p1.elim
  · have hl : i = xs.length := by omega
    subst hl
    rw [List.drop_length] at p1
    unfold forL at p1
    split at p1
    · rename_i hg
      exact .inl ⟨w.stop ρ1 H1 h1 hr1 e1 hg, p1.nx_ hr1 he1⟩
    · exact p1.elim
theorem s_for {wi : TI} {mi : Ev → Hh → R Src} {g : TG} {s : TgM} {sb : S} (hp : PassesOwn (model X.prog X.w) X.A X.env X.xe) (hc : X.calm = true) (hi : PI X tg iter wi) (oi : ItOk X.K G W wi mi) (hg : PG X tg g) (ok : TgOk X.K G g s) (hb : PSs X body (tS X.K G W sb))
    (hs : ∀ x, foldedSetIterable iter X.env x = pure x := by intro _; rfl) : PS X (.For tg iter body [] pos) (tS X.K G W (sFor mi s sb)) := psImp (ps_for hp hc hi hg hb hs) fun D0 σ H t => by
  obtain ⟨ρ, h, env, hr, he, p⟩ := t
  refine oi σ H _ (tG_mono (tS_bind hr he p) fun J H1 ⟨ρ1, h1, d, e1, hr1, he1, r1, p1⟩ => ?_)
  exact for_sound r1 ok hr1 he1 p1
theorem PI.or {wi wj : TI} (h1 : PI X tg iter wi) (h2 : PI X tg iter wj) : PI X tg iter (fun σ H R => wi σ H R ∨ wj σ H R) := ⟨fun pins s σ H R I q => by
  rcases q with q | q
  · exact h1.run pins s σ H R I q
  · exact h2.run pins s σ H R I q⟩
/-- a tuple or a list as it stands -/
def mSeq (m : M) : Ev → Hh → R Src := fun env h => (m env h).bind fun d h1 => match d with
  | .tup ds => .ok (ds, none) h1
  | .fls ds => .ok (ds, none) h1
  | .ref n => match h1[n]? with
    | some (.lst ds) => .ok (ds, some (n, .lst ds)) h1
    | _ => .bad
  | _ => .bad
theorem walks_tup {a : Addr} {ds : List D} (r : Rv K ρ H (.ref a) (.tup ds)) : Walks K G ρ H (Itt K a) ds none := by
  have get : ∀ {ρ' : List Addr} {H' : Hp}, Ex K ρ H ρ' H' → ∃ vs, SqT K H' a vs ∧ Rvs K ρ' H' vs ds := fun {ρ' H'} e => by
    obtain ⟨a', vs, e1, t, q⟩ := (r.mono e).sqT
    cases e1
    exact ⟨vs, t, q⟩
  refine ⟨fun i ρ' H' h' hr e _ hl => ?_, fun i ρ' H' h' x H2 hr e _ y d hd => ?_, fun ρ' H' h' hr e _ => ?_⟩
  · obtain ⟨vs, t, q⟩ := get e
    have hv : i < vs.length := by rw [q.length]; exact hl
    exact ⟨vs, vs[i], t, by simp [hv]⟩
  · obtain ⟨vs, t, q⟩ := get e
    obtain ⟨rfl, y⟩ := y
    have hx := y vs t
    obtain ⟨d', hd', rv⟩ := q.getV hx
    rw [hd] at hd'
    cases hd'
    exact ⟨rfl, rv⟩
  · obtain ⟨vs, t, q⟩ := get e
    exact ⟨vs, t, by rw [q.length]; exact Nat.le_refl _⟩
theorem walks_get {a : Addr} {ds : List D} {gd : Option (Nat × O)} (get : ∀ {ρ' : List Addr} {H' : Hp} {h' : Hh}, Rh K G ρ' H' h' → Ex K ρ H ρ' H' → gdOk gd h' → ∃ vs, SqL K H' a vs ∧ Rvs K ρ' H' vs ds) : Walks K G ρ H (Itl K a) ds gd := by
  refine ⟨fun i ρ' H' h' hr e g hl => ?_, fun i ρ' H' h' x H2 hr e g y d hd => ?_, fun ρ' H' h' hr e g => ?_⟩
  · obtain ⟨vs, t, q⟩ := get hr e g
    have hv : i < vs.length := by rw [q.length]; exact hl
    exact ⟨vs, vs[i], t, by simp [hv]⟩
  · obtain ⟨vs, t, q⟩ := get hr e g
    obtain ⟨rfl, y⟩ := y
    have hx := y vs t
    obtain ⟨d', hd', rv⟩ := q.getV hx
    rw [hd] at hd'
    cases hd'
    exact ⟨rfl, rv⟩
  · obtain ⟨vs, t, q⟩ := get hr e g
    exact ⟨vs, t, by rw [q.length]; exact Nat.le_refl _⟩
theorem walks_lst {a : Addr} {n : Nat} {ds : List D} (ra : ρ[n]? = some a) : Walks K G ρ H (Itl K a) ds (some (n, .lst ds)) :=
  walks_get fun {ρ' H' h'} hr e g => ref_seq hr (e.pre _ _ ra) g
theorem walks_fls {a : Addr} {ds : List D} (r : Rv K ρ H (.ref a) (.fls ds)) : Walks K G ρ H (Itl K a) ds none :=
  walks_get fun {ρ' H' h'} hr e g => by
    cases r.mono e with
    | fls t r => exact ⟨_, t.sq, r⟩
theorem io_seq : ItOk K G W (fun σ H R => iTup K (tM K G W m) σ H R ∨ iList K (tM K G W m) σ H R) (mSeq m) := fun σ H R0 t => by
  obtain ⟨ρ, h, env, hr, he, p⟩ := t
  unfold mSeq at p
  cases q : m env h with
  | bad => rw [q] at p; exact p.elim
  | exc c fs h' => rw [q] at p; exact .inl ⟨ρ, h, env, hr, he, by rw [q]; exact p⟩
  | ok d h1 =>
    rw [q] at p
    simp only [R.bind_ok] at p
    cases d with
    | tup ds =>
      refine .inl ⟨ρ, h, env, hr, he, ?_⟩
      rw [q]
      intro ρ' H' v e a r
      obtain ⟨x, vs, rfl, t, rs⟩ := r.sqT
      exact ⟨x, rfl, ⟨vs, t⟩, p ρ' H' _ e a (walks_tup r)⟩
    | fls ds =>
      refine .inr ⟨ρ, h, env, hr, he, ?_⟩
      rw [q]
      intro ρ' H' v e a r
      have w := r
      cases r with
      | fls t rs => exact ⟨_, rfl, ⟨_, t.sq⟩, p ρ' H' _ e a (walks_fls w)⟩
    | ref n =>
      dsimp only at p
      split at p
      · rename_i ds e0
        refine .inr ⟨ρ, h, env, hr, he, ?_⟩
        rw [q]
        intro ρ' H' v e a r
        cases r with
        | ref ra =>
          obtain ⟨vs, t, _⟩ := ref_seq a ra e0
          exact ⟨_, rfl, ⟨vs, t⟩, p ρ' H' _ e a (walks_lst ra)⟩
      · exact p.elim
    | _ => exact p.elim
theorem pi_seq (ha : PE X iter (tM X.K G W m)) : PI X tg iter (fun σ H R => iTup X.K (tM X.K G W m) σ H R ∨ iList X.K (tM X.K G W m) σ H R) := PI.or (pi_tup ha) (pi_list ha)
/-- range -/
def rngD (lo : Int) (n : Nat) : List D := (List.range n).map fun (i : Nat) => D.int (lo + (i : Int))
def inR (i : Int) : Bool := Nat.ble i.natAbs 4611686018427387903
def mRng1 (m : M) : Ev → Hh → R Src := fun env h => (m env h).bind fun d h1 => match d with
  | .int j => if inR j = true then .ok (rngD 0 j.toNat, none) h1 else .bad
  | _ => .bad
def mRng2 (ma mb : M) : Ev → Hh → R Src := fun env h => (ma env h).bind fun d h1 => (mb env h1).bind fun e h2 => match d, e with
  | .int i, .int j => if inR i = true ∧ inR j = true then .ok (rngD i (j - i).toNat, none) h2 else .bad
  | _, _ => .bad
theorem walks_rng {lo : Int} {n : Nat} : Walks K G ρ H (Itr lo n) (rngD lo n) none := by
  have hl : (rngD lo n).length = n := by unfold rngD; simp
  refine ⟨fun i ρ' H' h' hr e _ hi => by rw [hl] at hi; exact hi, fun i ρ' H' h' x H2 hr e _ y d hd => ?_, fun ρ' H' h' hr e _ => by rw [hl]; exact Nat.le_refl _⟩
  obtain ⟨rfl, rfl⟩ := y
  unfold rngD at hd
  rw [List.getElem?_map] at hd
  cases q : (List.range n)[i]? with
  | none => rw [q] at hd; cases hd
  | some j =>
    rw [q] at hd
    cases hd
    obtain ⟨h1, h2⟩ := List.getElem?_eq_some_iff.mp q
    simp at h2
    subst h2
    exact ⟨rfl, .int _⟩
theorem inR_of {i : Int} (e : inR i = true) : -(2 ^ 62) ≤ i ∧ i < 2 ^ 62 := by
  have h := Nat.le_of_ble_eq_true e
  omega
theorem io_rng1 : ItOk K G W (iRng1 (tL K G W (evs [m]))) (mRng1 m) := fun σ H R0 t => by
  obtain ⟨ρ, h, env, hr, he, p⟩ := t
  refine ⟨ρ, h, env, hr, he, ?_⟩
  unfold mRng1 at p
  show Po K G _ W ρ H σ ((m env h).bind fun d h1 => (evs [] env h1).bind fun ds h2 => .ok (d :: ds) h2) _
  cases q : m env h with
  | bad => rw [q] at p; exact p.elim
  | exc c fs h' => rw [q] at p; exact p
  | ok d h1 =>
    rw [q] at p
    cases d with
    | int j =>
      simp only [R.bind_ok] at p
      split at p
      · rename_i hj
        intro ρ' H' vs e a b
        cases b with
        | cons b1 b2 =>
          cases b1; cases b2
          exact ⟨j, rfl, (inR_of hj).1, (inR_of hj).2, p ρ' H' _ e a walks_rng⟩
      · exact p.elim
    | _ => exact p.elim
theorem io_rng2 {ma mb : M} : ItOk K G W (iRng2 (tL K G W (evs [ma, mb]))) (mRng2 ma mb) := fun σ H R0 t => by
  obtain ⟨ρ, h, env, hr, he, p⟩ := t
  refine ⟨ρ, h, env, hr, he, ?_⟩
  unfold mRng2 at p
  show Po K G _ W ρ H σ ((ma env h).bind fun d h1 => ((mb env h1).bind fun d2 h2 => (evs [] env h2).bind fun ds h3 => .ok (d2 :: ds) h3).bind fun ds h2 => .ok (d :: ds) h2) _
  cases q : ma env h with
  | bad => rw [q] at p; exact p.elim
  | exc c fs h' => rw [q] at p; exact p
  | ok d h1 =>
    rw [q] at p
    simp only [R.bind_ok] at p ⊢
    cases q2 : mb env h1 with
    | bad => rw [q2] at p; exact p.elim
    | exc c fs h' => rw [q2] at p; exact p
    | ok d2 h2 =>
      rw [q2] at p
      simp only [R.bind_ok] at p ⊢
      split at p
      · rename_i i j
        split at p
        · rename_i hj
          intro ρ' H' vs e a b
          cases b with
          | cons b1 b2 =>
            cases b2 with
            | cons b2 b3 =>
              cases b1; cases b2; cases b3
              exact ⟨i, j, rfl, ⟨(inR_of hj.1).1, (inR_of hj.1).2, (inR_of hj.2).1, (inR_of hj.2).2⟩, p ρ' H' _ e a walks_rng⟩
        · exact p.elim
      · exact p.elim
end

/-! ### while -/
def whileF (t : MT) (body : S) : Nat → Ev → Hh → SR
  | 0, _, _ => .bad
  | n + 1, env, h => bindS (t env h) env fun c h1 => if c = true then (match body env h1 with
    | .nx e' h' => whileF t body n e' h'
    | .ct e' h' => whileF t body n e' h'
    | .bk e' h' => .nx e' h'
    | r => r) else .nx env h1
def sWhile (fuel : Nat) (t : MT) (body : S) : S := fun env h => whileF t body fuel env h
theorem s_while {X : Cx} {G : Cl} {W : WX} {c : Expr} {body : List Stmt} {pos : Pos} {t : MT} {sb : S} (fuel : Nat) (hp : PassesOwn (model X.prog X.w) X.A X.env X.xe) (hc : PT X c (tT X.K G W t)) (hb : PSs X body (tS X.K G W sb)) : PS X (.While c body [] pos) (tS X.K G W (sWhile fuel t sb)) := psImp (ps_while hp hc hb) fun D0 σ H q => by
  obtain ⟨ρ, h, env, hr, he, p⟩ := q
  refine ⟨fun m σ' H' => ∃ ρ' h' env', Rh X.K G ρ' H' h' ∧ Re X.K ρ' H' σ' env' ∧ PoS X.K G W ρ' H' D0 (whileF t sb m env' h'), ⟨fuel, ρ, h, env, hr, he, p⟩, ?_⟩
  rintro m σ1 H1 ⟨ρ1, h1, env1, hr1, he1, p1⟩
  cases m with
  | zero => exact p1.elim
  | succ m =>
    unfold whileF at p1
    refine tG_mono (tS_bind (rel := relB) hr1 he1 p1) fun b H2 ⟨ρ2, h2, d, e2, hr2, he2, r2, p2⟩ => ?_
    subst r2
    cases b with
    | true =>
      refine ⟨fun σ' H' => ∃ ρ' h' env', Rh X.K G ρ' H' h' ∧ Re X.K ρ' H' σ' env' ∧ PoS X.K G W ρ' H' D0 (whileF t sb m env' h'), fun σ' H' w => ⟨m, Nat.lt_succ_self _, w⟩, ⟨ρ2, h2, env1, hr2, he2, ?_⟩⟩
      simp only [if_true] at p2
      cases q : sb env1 h2 with
      | nx e' h' => rw [q] at p2; exact fun ρ' H' σ' e a b => ⟨ρ', h', e', a, b, PoS.shift p2 e⟩
      | ct e' h' => rw [q] at p2; exact fun ρ' H' σ' e a b => ⟨ρ', h', e', a, b, PoS.shift p2 e⟩
      | bk e' h' => rw [q] at p2; exact p2
      | rt d h' => rw [q] at p2; exact p2
      | exc c fs e' h' => rw [q] at p2; exact p2
      | bad => rw [q] at p2; exact p2
    | false => exact p2.nx_ hr2 he2

/-! ### defs -/
abbrev Fm := List D → Hh → R D
def fnM (n : Nat) (body : S) : Fm := fun ds h => match body (ds.map some ++ List.replicate (n - ds.length) none) h with
  | .nx _ h' => .ok .non h'
  | .rt d h' => .ok d h'
  | .exc c fs _ h' => .exc c fs h'
  | _ => .bad
def spM (K : PySem.W.Frag) (G : Cl) (n : Nat) (f : Fm) : Sp := fun vs H Q E => ∃ ρ h ds, Rh K G ρ H h ∧ Rvs K ρ H vs ds ∧ vs.length = n ∧ Po K G (relV K) (fun c d _ H => E c d H) ρ H [] (f ds h) Q
/-- what the rules ask of the place where a body runs -/
structure Ct (X : Cx) (W : WX) (k : Nat) : Prop where
  tk : Takes X W
  po : PassesOwn (model X.prog X.w) X.A X.env X.xe
  hr : Room k X.A
  hc : X.calm = true
  nd : X.N.Nodup
theorem Ct.hu {X : Cx} {W : WX} {k : Nat} (c : Ct X W k) : X.A.units + 64 < cLine := c.hr.units
theorem Ct.hu1 {X : Cx} {W : WX} {k : Nat} (c : Ct X W k) : X.A.units + 1 < cLine := hu_of c.hr
/-- a def of the text, as its callers know it -/
def Ok (P : Program) (w : World) (K : PySem.W.Frag) (mg : Str → Option Value) (base : Heap) (G : Cl) (j : Nat) (x : Str) (ps : List Str) (fm : Fm) : Prop :=
  ∃ f fd, mg x = some (.ref f) ∧ PySem.W.keepIn K (.ref f) = true ∧ Binds K fd ps [] ∧ FnOk P w K mg base (L2.CX P w) j f fd ps (spM K G ps.length fm)
def eCall (fm : Fm) (ms : List M) : M := fun env h => (evs ms env h).bind fun ds h1 => fm ds h1
section
variable {P : Program} {w : World} {K : PySem.W.Frag} {mg : Str → Option Value} {base : Heap} {G : Cl}
theorem start_re {ρ : List Addr} {H : Hp} {vs : List V} {ds : List D} {N : List Str} (r : Rvs K ρ H vs ds) : Re K ρ H (L2.start N vs) (ds.map some ++ List.replicate (N.length - ds.length) none) := by
  have hl := r.length
  refine ⟨by unfold L2.start; simp [hl], fun i d e => ?_⟩
  by_cases q : i < ds.length
  · rw [List.getElem?_append_left (by simpa using q), List.getElem?_map] at e
    cases z : ds[i]? with
    | none => rw [z] at e; cases e
    | some d' =>
      rw [z] at e
      cases e
      obtain ⟨v, h1, h2⟩ := r.get z
      refine ⟨v, ?_, h2⟩
      unfold L2.start
      rw [List.getElem?_append_left (by simp; omega), List.getElem?_map, h1]
      rfl
  · rw [List.getElem?_append_right (by simp; omega)] at e
    rw [List.getElem?_replicate] at e
    split at e <;> cases e
theorem fn_ok {x qual : Str} {st : Stmt} {f : Addr} {fd : FuncData} {N ps : List Str} {k n np : Nat} {body : S} (hn : N.length = n) (hp : ps.length = np) (F : Fun K x qual st f fd) (S : FnScope N ps (defScope st))
    (hb : ∀ (cdv : Value) (A : Around) (outer : List Env) (s : Shared) (H : Hp) (E : XK), Ct (cxOf (L2.CX P w) P w K mg base N qual (defScope st) f cdv A outer s H E) (fun c d _ H => E c d H) k →
      PSs (cxOf (L2.CX P w) P w K mg base N qual (defScope st) f cdv A outer s H E) (defBody st) (tS K G (fun c d _ H => E c d H) body)) : FnOk P w K mg base (L2.CX P w) (k + 1) f fd ps (spM K G np (fnM n body)) := by
  subst hn hp
  refine F.okX S (fun vs H Q E ⟨_, _, _, _, _, l, _⟩ => l) fun cdv A outer s H vs Q E hr ⟨ρ, h, ds, rh, rs, l, p⟩ => ?_
  refine ⟨_, hb cdv A outer s H E ⟨takes_of rfl rfl rfl rfl, passes_of rfl, hr, rfl, S.nd⟩, ρ, h, _, rh, start_re rs, ?_⟩
  unfold fnM at p
  cases q : body (ds.map some ++ List.replicate (N.length - ds.length) none) h with
  | nx env h' => rw [q] at p; exact fun ρ' H' σ' e a b => p ρ' H' .non e a .non
  | rt d h' => rw [q] at p; exact p
  | exc c fs env h' => rw [q] at p; exact fun ρ' H' σ' d e a b z => p ρ' H' d e a z
  | bk env h' => rw [q] at p; exact p.elim
  | ct env h' => rw [q] at p; exact p.elim
  | bad => rw [q] at p; exact p.elim
end
section
variable {X : Cx} {G : Cl} {W : WX} {e a b c : Expr} {es : List Expr} {pos p : Pos} {ms : List M} {k j : Nat} {x : Str} {ps : List Str} {fm : Fm}
theorem se_call (ct : Ct X W k) (F : Ok X.prog X.w X.K X.mg X.base G j x ps fm) (hj : j ≤ k) (hg : Gl X x) (ha : PA X (e :: es) (tL X.K G W (evs ms))) (hl : ms.length = ps.length := by rfl) (hdb : (x == ("__debug__" : Str)) = false := by decide)
    (he : starEach (e :: es) X.env = (false, eval e X.env) :: starEach es X.env := by rfl) (hpl : (backTo pos (starEach es X.env)).any (·.1) = false := by rfl) : PE X (.Call (.Name x p) (e :: es) [] pos) (tM X.K G W (eCall fm ms)) := by
  obtain ⟨f, fd, hm, hk, hb, F⟩ := F
  refine peImp (pe_callS F (ct.hr.mono hj) hg hm hk hb (fun σ => passAt ct.tk σ) ha hdb he hpl) fun σ H Q t => ?_
  obtain ⟨ρ, h, env, hr, he, p⟩ := t
  refine ⟨ρ, h, env, hr, he, ?_⟩
  unfold eCall at p
  cases q : evs ms env h with
  | bad => rw [q] at p; exact p
  | exc c fs h' => rw [q] at p; exact p
  | ok ds h1 =>
    rw [q] at p
    simp only [R.bind_ok] at p
    intro ρ' H' vs e1 a1 b1
    refine ⟨ρ', h1, ds, a1, b1, by rw [b1.length, evs_len q, hl], ?_⟩
    have p' := p.shift e1
    cases q2 : fm ds h1 with
    | bad => rw [q2] at p'; exact p'
    | exc c fs h' => rw [q2] at p'; exact p'
    | ok d h' => rw [q2] at p'; exact p'
end
end Sm
/-! SmE: built-in functions, list methods, o[i] = v, dicts. -/
namespace Sm
open PySem L2 PyProof.Rows

section
variable {X : Cx} {G : Cl} {W : WX} {e a b c o : Expr} {es : List Expr} {st : Stmt} {pos p : Pos} {m ma mb mo : M} {ms : List M} {K : PySem.W.Frag} {ρ : List Addr} {H : Hp} {h : Hh} {k : Nat}
theorem Rvs.one {vs : List V} {d : D} (r : Rvs K ρ H vs [d]) : ∃ v, vs = [v] ∧ Rv K ρ H v d := by
  cases r with
  | cons r q => cases q; exact ⟨_, rfl, r⟩
theorem Rvs.two {vs : List V} {d e : D} (r : Rvs K ρ H vs [d, e]) : ∃ v w, vs = [v, w] ∧ Rv K ρ H v d ∧ Rv K ρ H w e := by
  cases r with
  | cons r q =>
    obtain ⟨w, rfl, q2⟩ := q.one
    exact ⟨_, _, rfl, r, q2⟩

/-! ### numbers -/
def opAbs : List D → Hh → Option (D × Hh)
  | [.int i], h => some (.int (if i < 0 then -i else i), h)
  | _, _ => none
theorem im_abs : ImpN K G (fun xs H Q => ∃ i, xs = [.int i] ∧ Q (.int (if i < 0 then -i else i)) H) opAbs := fun {ρ H h xs ds d h' Q} hr rs e k => by
  unfold opAbs at e
  split at e
  · cases e
    obtain ⟨v, rfl, r⟩ := rs.one
    cases r
    exact ⟨_, rfl, k _ _ _ Ex.refl hr (.int _)⟩
  · cases e
def opInt : List D → Hh → Option (D × Hh)
  | [.int i], h => some (.int i, h)
  | [.bl b], h => some (.int (if b = true then 1 else 0), h)
  | _, _ => none
theorem im_int : ImpN K G (fun xs H Q => (∃ i, xs = [.int i] ∧ Q (.int i) H) ∨ ∃ k, xs = [.bl k] ∧ Q (.int (if k then 1 else 0)) H) opInt := fun {ρ H h xs ds d h' Q} hr rs e k => by
  unfold opInt at e
  split at e
  · cases e
    obtain ⟨v, rfl, r⟩ := rs.one
    cases r
    exact .inl ⟨_, rfl, k _ _ _ Ex.refl hr (.int _)⟩
  · cases e
    obtain ⟨v, rfl, r⟩ := rs.one
    cases r
    exact .inr ⟨_, rfl, k _ _ _ Ex.refl hr (.int _)⟩
  · cases e
def opMax : List D → Hh → Option (D × Hh)
  | [.int i, .int j], h => some (.int (if j > i then j else i), h)
  | _, _ => none
theorem im_max : ImpN K G (fun xs H Q => ∃ i j, xs = [.int i, .int j] ∧ Q (.int (if j > i then j else i)) H) opMax := fun {ρ H h xs ds d h' Q} hr rs e k => by
  unfold opMax at e
  split at e
  · cases e
    obtain ⟨v, w, rfl, r, r2⟩ := rs.two
    cases r; cases r2
    exact ⟨_, _, rfl, k _ _ _ Ex.refl hr (.int _)⟩
  · cases e
def opMin : List D → Hh → Option (D × Hh)
  | [.int i, .int j], h => some (.int (if j < i then j else i), h)
  | _, _ => none
theorem im_min : ImpN K G (fun xs H Q => ∃ i j, xs = [.int i, .int j] ∧ Q (.int (if j < i then j else i)) H) opMin := fun {ρ H h xs ds d h' Q} hr rs e k => by
  unfold opMin at e
  split at e
  · cases e
    obtain ⟨v, w, rfl, r, r2⟩ := rs.two
    cases r; cases r2
    exact ⟨_, _, rfl, k _ _ _ Ex.refl hr (.int _)⟩
  · cases e

/-! ### lengths, lists, tuples -/
def opLen : List D → Hh → Option (D × Hh)
  | [.str y], h => if y.length ≤ sizeLine then some (.int y.length, h) else none
  | [.tup ds], h => some (.int ds.length, h)
  | [.fls ds], h => some (.int ds.length, h)
  | [.ref n], h => match h[n]? with
    | some (.lst ds) => some (.int ds.length, h)
    | some (.dK ds) => some (.int ds.length, h)
    | some (.dT ds) => some (.int ds.length, h)
    | _ => none
  | _, _ => none
abbrev rLenAll (K : PySem.W.Frag) : List V → Hp → VK → Prop := fun xs H Q => (∃ x n, xs = [x] ∧ LenV K x H n ∧ Q (.int n) H) ∨ ((∃ a kvs, xs = [V.ref a] ∧ H a = some (.dK kvs) ∧ Q (.int kvs.length) H) ∨ rLenT xs H Q)
theorem call_lenAll : CallR X (.builtin "len") (rLenAll X.K) := call_len.or (call_lenD.or call_len_dT)
theorem im_len : ImpN K G (rLenAll K) opLen := fun {ρ H h xs ds d h' Q} hr rs e k => by
  unfold opLen at e
  split at e
  · split at e
    · cases e
      obtain ⟨v, rfl, r⟩ := rs.one
      cases r
      exact .inl ⟨_, _, rfl, ⟨by assumption, rfl⟩, k _ _ _ Ex.refl hr (.int _)⟩
    · cases e
  · cases e
    obtain ⟨v, rfl, r⟩ := rs.one
    obtain ⟨a, vs, rfl, t, q⟩ := r.sqT
    refine .inl ⟨_, vs.length, rfl, .inr ⟨vs, t, rfl⟩, ?_⟩
    rw [q.length]
    exact k _ _ _ Ex.refl hr (.int _)
  · cases e
    obtain ⟨v, rfl, r⟩ := rs.one
    cases r with
    | @fls a vs _ t q =>
      refine .inl ⟨_, vs.length, rfl, .inl ⟨vs, t.sq, rfl⟩, ?_⟩
      rw [q.length]
      exact k _ _ _ Ex.refl hr (.int _)
  · obtain ⟨v, rfl, r⟩ := rs.one
    cases r with
    | ref ra =>
      split at e
      · rename_i e0
        cases e
        obtain ⟨vs, q, r⟩ := ref_seq hr ra e0
        refine .inl ⟨_, vs.length, rfl, .inl ⟨vs, q, rfl⟩, ?_⟩
        rw [r.length]
        exact k _ _ _ Ex.refl hr (.int _)
      · rename_i e0
        cases e
        have z := hr.at_ ra e0
        cases z with
        | dK q r =>
          refine .inr (.inl ⟨_, _, rfl, q, ?_⟩)
          rw [Paired.length r]
          exact k _ _ _ Ex.refl hr (.int _)
      · rename_i e0
        cases e
        have z := hr.at_ ra e0
        cases z with
        | dT q r =>
          refine .inr (.inr ⟨_, _, rfl, q, ?_⟩)
          rw [Paired.length r]
          exact k _ _ _ Ex.refl hr (.int _)
      · cases e
  · cases e
@[simp] def kD : Key → D
  | .inl i => .int i
  | .inr x => .str x
theorem rv_key (k : Key) : Rv K ρ H (kV k) (kD k) := by
  cases k with
  | inl i => exact .int i
  | inr x => exact .str x
def opList : List D → Hh → Option (D × Hh)
  | [.tup ds], h => some (.ref h.length, h ++ [.lst ds])
  | [.fls ds], h => some (.ref h.length, h ++ [.lst ds])
  | [.ref n], h => match h[n]? with
    | some (.lst ds) => some (.ref h.length, h ++ [.lst ds])
    | some (.dK kvs) => some (.ref h.length, h ++ [.lst (kvs.map fun kv => kD kv.1)])
    | some (.dT kvs) => some (.ref h.length, h ++ [.lst (kvs.map fun kv => .tup (kv.1.map kD))])
    | _ => none
  | _, _ => none
abbrev rListAll (K : PySem.W.Frag) : List V → Hp → VK → Prop := fun xs H Q => (∃ p ys, xs = [.ref p] ∧ (SqL K H p ys ∨ SqT K H p ys) ∧ ∀ l, H l = none → Q (.ref l) (upd H l (.lst ys))) ∨ (rListD xs H Q ∨
  (∃ d kvs, xs = [V.ref d] ∧ Rd H d (.dT kvs) ∧ ∀ p bs, H p = none → IsKeys H kvs bs → Q (.ref p) (upd H p (.lst (bs.map V.ref)))))
theorem call_listAll (hc : X.calm = true) : CallR X (.type "list") (rListAll X.K) := call_list_of.or ((call_list_dK hc).or (call_list_dT hc))
theorem rvs_keys : ∀ {kvs : List (Key × V)} {ds : List (Key × D)}, Paired (fun (p : Key × V) (q : Key × D) => p.1 = q.1 ∧ Rv K ρ H p.2 q.2) kvs ds → Rvs K ρ H (kvs.map fun kv => kV kv.1) (ds.map fun kv => kD kv.1)
  | _, _, .nil => .nil
  | _, _, .cons (l₁ := l1) (l₂ := l2) h t => .cons (by dsimp only; rw [h.1]; exact rv_key _) (rvs_keys t)
theorem rvs_kV : ∀ ks : List Key, Rvs K ρ H (ks.map kV) (ks.map kD)
  | [] => .nil
  | k :: ks => .cons (rv_key k) (rvs_kV ks)
theorem rvs_keysT : ∀ {kvs : List (List Key × V)} {ds : List (List Key × D)} {bs : List Addr}, Paired (fun (p : List Key × V) (q : List Key × D) => p.1 = q.1 ∧ Rv K ρ H p.2 q.2) kvs ds → IsKeys H kvs bs → Rvs K ρ H (bs.map V.ref) (ds.map fun kv => .tup (kv.1.map kD))
  | _, _, _, .nil, .nil => .nil
  | _, _, _, .cons h t, .cons z y => .cons (.tup z (by rw [h.1]; exact rvs_kV _)) (rvs_keysT t y)
theorem im_list : ImpN K G (rListAll K) opList := fun {ρ H h xs ds d h' Q} hr rs e k => by
  unfold opList at e
  split at e
  · cases e
    obtain ⟨v, rfl, r⟩ := rs.one
    obtain ⟨a, vs, rfl, t, q⟩ := r.sqT
    exact .inl ⟨a, vs, rfl, .inr t, new_lst hr q k⟩
  · cases e
    obtain ⟨v, rfl, r⟩ := rs.one
    cases r with
    | fls t q => exact .inl ⟨_, _, rfl, .inl t.sq, new_lst hr q k⟩
  · obtain ⟨v, rfl, r⟩ := rs.one
    cases r with
    | ref ra =>
      split at e
      · rename_i e0
        cases e
        obtain ⟨vs, q, r⟩ := ref_seq hr ra e0
        exact .inl ⟨_, vs, rfl, .inl q, new_lst hr r k⟩
      · rename_i e0
        cases e
        have z := hr.at_ ra e0
        cases z with
        | dK q r => exact .inr (.inl ⟨_, _, rfl, q, new_lst hr (rvs_keys r) k⟩)
      · rename_i e0
        cases e
        have z := hr.at_ ra e0
        cases z with
        | dT q r => exact .inr (.inr ⟨_, _, rfl, .inl q, fun p bs n hb => new_lst hr (rvs_keysT r hb) k p n⟩)
      · cases e
  · cases e
def opTupleOf : List D → Hh → Option (D × Hh)
  | [.tup ds], h => some (.tup ds, h)
  | [.fls ds], h => some (.tup ds, h)
  | [.ref n], h => match h[n]? with
    | some (.lst ds) => some (.tup ds, h)
    | _ => none
  | _, _ => none
theorem im_tuple : ImpN K G (fun xs H Q => ∃ p ys, xs = [.ref p] ∧ ((SqL K H p ys ∧ ∀ l, H l = none → Q (.ref l) (upd H l (.tup ys))) ∨ (SqT K H p ys ∧ Q (.ref p) H))) opTupleOf := fun {ρ H h xs ds d h' Q} hr rs e k => by
  unfold opTupleOf at e
  split at e
  · cases e
    obtain ⟨v, rfl, r⟩ := rs.one
    obtain ⟨a, vs, rfl, t, q⟩ := r.sqT
    exact ⟨a, vs, rfl, .inr ⟨t, k _ _ _ Ex.refl hr r⟩⟩
  · cases e
    obtain ⟨v, rfl, r⟩ := rs.one
    cases r with
    | fls t q => exact ⟨_, _, rfl, .inl ⟨t.sq, new_tup hr q k⟩⟩
  · obtain ⟨v, rfl, r⟩ := rs.one
    cases r with
    | ref ra =>
      split at e
      · rename_i e0
        cases e
        obtain ⟨vs, q, r⟩ := ref_seq hr ra e0
        exact ⟨_, vs, rfl, .inl ⟨q, new_tup hr r k⟩⟩
      · cases e
  · cases e
/-- the ints, rising -/
def sortI (ns : List Int) : List Int := ns.mergeSort (fun a b => decide (a ≤ b))
theorem sortI_perm (ns : List Int) : (sortI ns).Perm ns := List.mergeSort_perm ns _
theorem sortI_pair (ns : List Int) : (sortI ns).Pairwise (· ≤ ·) := by
  have h := List.pairwise_mergeSort (le := fun a b : Int => decide (a ≤ b)) (fun a b c h1 h2 => by simp only [decide_eq_true_eq] at *; omega) (fun a b => by simp only [Bool.or_eq_true, decide_eq_true_eq]; omega) ns
  exact h.imp fun h => by simpa using h
theorem sortI_eq {ns ms : List Int} (hp : ms.Perm ns) (hs : ms.Pairwise (· ≤ ·)) : ms = sortI ns := PySem.W.ksm_same (hp.trans (sortI_perm ns).symm) hs (sortI_pair ns)
def keyInts : List (Key × D) → Option (List Int)
  | [] => some []
  | (.inl i, _) :: r => (keyInts r).map (i :: ·)
  | _ :: _ => none
def opSorted : List D → Hh → Option (D × Hh)
  | [.ref n], h => match h[n]? with
    | some (.lst ds) => match intsOf ds with
      | some ns => some (.ref h.length, h ++ [.lst ((sortI ns).map D.int)])
      | none => none
    | some (.dK kvs) => match keyInts kvs with
      | some ns => if ns.length < 64 then some (.ref h.length, h ++ [.lst ((sortI ns).map D.int)]) else none
      | none => none
    | _ => none
  | _, _ => none
abbrev rSortedDI : List V → Hp → VK → Prop := fun xs H Q => ∃ (a : Addr) (kvs : List (Key × V)) (ks : List Int), xs = [.ref a] ∧ Rd H a (.dK kvs) ∧ kvs.map (·.1) = ks.map Sum.inl ∧ ks.length < 64 ∧
    ∀ (ys : List Int) (p : Addr), ys.Perm ks → ys.Pairwise (· ≤ ·) → H p = none → Q (.ref p) (upd H p (.lst (ys.map V.int)))
theorem keyInts_eq : ∀ {kvs : List (Key × V)} {ds : List (Key × D)} {ns : List Int}, Paired (fun (p : Key × V) (q : Key × D) => p.1 = q.1 ∧ Rv K ρ H p.2 q.2) kvs ds → keyInts ds = some ns → kvs.map (·.1) = ns.map Sum.inl
  | _, _, ns, .nil, e => by cases e; rfl
  | _, _, ns, .cons (b := (.inl i, y)) h t, e => by
    simp only [keyInts, Option.map_eq_some_iff] at e
    obtain ⟨ms, e1, rfl⟩ := e
    rw [List.map_cons, List.map_cons, keyInts_eq t e1, h.1]
  | _, _, ns, .cons (b := (.inr x, y)) h t, e => by simp [keyInts] at e
theorem im_sorted : ImpN K G (fun xs H Q => rSortedI K xs H Q ∨ rSortedDI xs H Q) opSorted := fun {ρ H h xs ds d h' Q} hr rs e k => by
  unfold opSorted at e
  split at e
  · obtain ⟨v, rfl, r⟩ := rs.one
    cases r with
    | ref ra =>
      split at e
      · rename_i e0
        split at e
        · rename_i ns e1
          cases e
          have z := intsOf_eq e1
          subst z
          obtain ⟨vs, q, r⟩ := ref_seq hr ra e0
          have y := r.ints
          subst y
          refine .inl ⟨_, ns, rfl, q, fun ns' p hp hs hn => ?_⟩
          rw [sortI_eq hp hs]
          exact new_lst hr (Rvs.of_ints _) k p hn
        · cases e
      · rename_i e0
        split at e
        · rename_i ns e1
          split at e
          · rename_i hl
            cases e
            have z := hr.at_ ra e0
            cases z with
            | dK q r =>
              refine .inr ⟨_, _, ns, rfl, .inl q, keyInts_eq r e1, hl, fun ns' p hp hs hn => ?_⟩
              rw [sortI_eq hp hs]
              exact new_lst hr (Rvs.of_ints _) k p hn
          · cases e
        · cases e
      · cases e
  · cases e

/-! ### isinstance -/
inductive Ty where
  | int | bool | str | tuple | list | dict | none
  deriving DecidableEq
def Ty.name : Ty → String
  | .int => "int" | .bool => "bool" | .str => "str" | .tuple => "tuple" | .list => "list" | .dict => "dict" | .none => "NoneType"
def isT : Ty → Ty → Bool
  | .int, .int => true | .bool, .bool => true | .bool, .int => true | .str, .str => true | .tuple, .tuple => true | .list, .list => true | .dict, .dict => true | .none, .none => true
  | _, _ => false
theorem kit_isT (a b : Ty) (hb : b ≠ .none) : kitB a.name b.name = some (isT a b) := by
  cases a <;> cases b <;> first | (exact absurd rfl hb) | decide +kernel
def tyD : D → Hh → Option Ty
  | .non, _ => some .none
  | .bl _, _ => some .bool
  | .int _, _ => some .int
  | .str _, _ => some .str
  | .tup _, _ => some .tuple
  | .fls _, _ => some .list
  | .ref n, h => match h[n]? with
    | some (.lst _) => some .list
    | some (.dK _) => some .dict
    | some (.dT _) => some .dict
    | _ => none
theorem tyD_ok (hr : Rh K G ρ H h) {v : V} {d : D} {t : Ty} (r : Rv K ρ H v d) (e : tyD d h = some t) : TyX K H v (.type t.name) := by
  cases r with
  | non => cases e; exact .base .non
  | bl b => cases e; exact .base (.bl b)
  | int i => cases e; exact .base (.int i)
  | str x => cases e; exact .base (.str x)
  | tup q _ => cases e; exact .base (.tup q)
  | ktp q _ _ =>
    cases e
    obtain ⟨o, its, n, h1, h2, _⟩ := q
    exact .kTuple h1 h2
  | fls q _ =>
    cases e
    rcases q with ⟨o, q⟩ | ⟨o, its, n, h1, h2, _⟩
    · exact .base (.frz q)
    · exact .kList h1 h2
  | ref ra =>
    simp only [tyD] at e
    split at e
    · rename_i e0
      cases e
      have z := hr.at_ ra e0
      cases z with
      | lst q _ => exact .base (.lst q)
    · rename_i e0
      cases e
      have z := hr.at_ ra e0
      cases z with
      | dK q _ => exact .base (.dK q)
    · rename_i e0
      cases e
      have z := hr.at_ ra e0
      cases z with
      | dT q _ => exact .base (.dT q)
    · cases e
def opIsi (t : Ty) (d : D) (h : Hh) : Option (D × Hh) := (tyD d h).map fun u => (.bl (isT u t), h)
theorem se_isi (t : Ty) {ec : Expr} (hx : PE X e (tM X.K G W m)) (hc : PE X ec (tC (.ty t.name))) (hg : Gl X "isinstance") (hm : X.mg "isinstance" = none) (ht : t ≠ .none := by decide) (h1 : starEach [e, ec] X.env = (false, eval e X.env) :: starEach [ec] X.env := by rfl) (h2 : starEach [ec] X.env = (false, eval ec X.env) :: starEach [] X.env := by rfl)
    (hpl : (backTo pos (starEach [ec] X.env)).any (·.1) = false := by rfl) : PE X (.Call (.Name "isinstance" p) [e, ec] [] pos) (tM X.K G W (eU (opIsi t) m)) :=
  peImp (pe_callB call_isi hg hm boot_isinstance (pa_cons hx (pa_cons hc pa_nil h2) h1) (by decide) (by decide) h1 hpl) fun σ H Q t' => by
    obtain ⟨ρ, h, env, hr, he, p⟩ := t'
    refine tG_mono (tG_bind (rel := relV X.K) hr he p) fun x H1 ⟨ρ1, h1, d, e1, hr1, he1, r1, p1⟩ => ?_
    obtain ⟨d2, h2, eq, k⟩ := p1.opt
    unfold opIsi at eq
    simp only [Option.map_eq_some_iff, Prod.mk.injEq] at eq
    obtain ⟨u, eu, rfl, rfl⟩ := eq
    exact ⟨x, .ty t.name, .type u.name, .type t.name, _, rfl, .ty _, tyD_ok hr1 r1 eu, kit_ty (kit_isT u t ht), k _ _ _ Ex.refl hr1 (.bl _)⟩
theorem se_ty {x : Str} {T : String} (hg : Gl X x) (hm : X.mg x = none) (hv : bootBuiltins x = some (.type T)) (hn : x ≠ "__name__" := by decide) (hd : (x == ("__debug__" : Str)) = false := by decide) : PE X (.Name x pos) (tC (.ty T)) := pe_bltn hg hm hv rfl hn hd

/-! ### methods of lists -/
def isL (d : D) (h : Hh) : Bool := match d with
  | .ref n => match h[n]? with
    | some (.lst _) => true
    | _ => false
  | _ => false
def eMt (f : D → List D → Hh → Option (D × Hh)) (mo : M) (ms : List M) : M := fun env h => (mo env h).bind fun o h1 => if isL o h1 = true then (evs ms env h1).bind fun ds h2 => R.opt (f o ds h2) else .bad
def ImpM (K : PySem.W.Frag) (G : Cl) (r : V → List V → Hp → VK → Prop) (f : D → List D → Hh → Option (D × Hh)) : Prop := ∀ {ρ : List Addr} {H : Hp} {h : Hh} {x : V} {o : D} {xs : List V} {ds : List D} {d : D} {h' : Hh} {Q : VK}, Rh K G ρ H h → Rv K ρ H x o → Rvs K ρ H xs ds → f o ds h = some (d, h') →
  (∀ ρ' H' v, Ex K ρ H ρ' H' → Rh K G ρ' H' h' → Rv K ρ' H' v d → Q v H') → r x xs H Q
theorem isL_ok (hr : Rh K G ρ H h) {v : V} {d : D} (r : Rv K ρ H v d) (e : isL d h = true) : tyV K "list" v H := by
  cases d with
  | ref n =>
    cases r with
    | ref ra =>
      simp only [isL] at e
      split at e
      · rename_i e0
        obtain ⟨vs, q, _⟩ := ref_lst hr ra e0
        exact .inl ⟨rfl, vs, SqL.of q⟩
      · cases e
  | _ => cases e
theorem mt_imp {r : V → List V → Hp → VK → Prop} {f : D → List D → Hh → Option (D × Hh)} (i : ImpM X.K G r f) (σ : L2.St) (H : Hp) (Q : VK) (t : tM X.K G W (eMt f mo ms) σ H Q) : tBM X.K "list" r (tM X.K G W mo) (tL X.K G W (evs ms)) σ H Q := by
  obtain ⟨ρ, h, env, hr, he, p⟩ := t
  refine tG_mono (tG_bind (rel := relV X.K) hr he p) fun x H1 ⟨ρ1, h1, d, e1, hr1, he1, r1, p1⟩ => ?_
  dsimp only at p1
  split at p1
  · rename_i hl
    refine ⟨isL_ok hr1 r1 hl, tG_mono (tG_bind (rel := relVs X.K) hr1 he1 p1) fun xs H2 ⟨ρ2, h2, ds, e2, hr2, he2, r2, p2⟩ => ?_⟩
    obtain ⟨d3, h3, eq, k⟩ := p2.opt
    exact i hr2 (r1.mono e2) r2 eq k
  · exact p1.elim
theorem mt0_imp {r : V → List V → Hp → VK → Prop} {f : D → List D → Hh → Option (D × Hh)} (i : ImpM X.K G r f) (σ : L2.St) (H : Hp) (Q : VK) (t : tM X.K G W (eMt f mo []) σ H Q) : tBM0 X.K "list" r (tM X.K G W mo) σ H Q := by
  obtain ⟨ρ, h, env, hr, he, p⟩ := t
  refine tG_mono (tG_bind (rel := relV X.K) hr he p) fun x H1 ⟨ρ1, h1, d, e1, hr1, he1, r1, p1⟩ => ?_
  dsimp only at p1
  split at p1
  · rename_i hl
    refine ⟨isL_ok hr1 r1 hl, ?_⟩
    have p2 : Po X.K G (relV X.K) W ρ1 H1 σ (R.opt (f d [] h1)) Q := p1
    obtain ⟨d3, h3, eq, k⟩ := p2.opt
    exact i hr1 r1 .nil eq k
  · exact p1.elim
def opAppend : D → List D → Hh → Option (D × Hh)
  | .ref n, [y], h => match h[n]? with
    | some (.lst xs) => if xs.length < sizeLine then some (.non, h.set n (.lst (xs ++ [y]))) else none
    | _ => none
  | _, _, _ => none
/-- a list is written -/
theorem wr_lst {n : Nat} {a : Addr} {ds ds' : List D} {vs' : List V} {v : V} {d : D} {Q : VK} (hr : Rh K G ρ H h) (ra : ρ[n]? = some a) (e : h[n]? = some (.lst ds)) (r : Rvs K ρ H vs' ds') (rv : Rv K ρ H v d)
    (k : ∀ ρ' H' v, Ex K ρ H ρ' H' → Rh K G ρ' H' (h.set n (.lst ds')) → Rv K ρ' H' v d → Q v H') : Q v (upd H a (.lst vs')) :=
  have e1 : Ex K ρ H ρ (upd H a (.lst vs')) := Ex.write hr ra e
  k ρ _ _ e1 (hr.write ra e (.lst upd_same (r.mono e1))) (rv.mono e1)
theorem im_append : ImpM K G rAppend opAppend := fun {ρ H h x o xs ds d h' Q} hr ro rs e k => by
  unfold opAppend at e
  split at e
  · cases ro with
    | ref ra =>
      obtain ⟨v, rfl, r⟩ := rs.one
      split at e
      · rename_i zs e0
        split at e
        · rename_i hl
          cases e
          obtain ⟨vs, q, r2⟩ := ref_lst hr ra e0
          exact ⟨_, vs, v, rfl, rfl, q, by rw [r2.length]; exact hl, wr_lst hr ra e0 (r2.append (.cons r .nil)) .non k⟩
        · cases e
      · cases e
  · cases e
def opPop : D → List D → Hh → Option (D × Hh)
  | .ref n, [], h => match h[n]? with
    | some (.lst xs) => match xs[xs.length - 1]? with
      | some y => some (y, h.set n (.lst xs.dropLast))
      | none => none
    | _ => none
  | _, _, _ => none
theorem im_pop : ImpM K G rPop opPop := fun {ρ H h x o xs ds d h' Q} hr ro rs e k => by
  unfold opPop at e
  split at e
  · cases ro with
    | ref ra =>
      cases rs
      split at e
      · rename_i zs e0
        split at e
        · rename_i y ey
          cases e
          obtain ⟨vs, q, r2⟩ := ref_lst hr ra e0
          obtain ⟨v, hv, rv⟩ := r2.get ey
          exact ⟨_, vs, v, rfl, rfl, q, by rw [r2.length]; exact hv, wr_lst hr ra e0 r2.dropLast rv k⟩
        · cases e
      · cases e
  · cases e
theorem se_append (ho : PE X o (tM X.K G W mo)) (ha : PA X (e :: es) (tL X.K G W (evs ms))) {apos : Pos} (hbase : attributeBase o "append" X.env (eval o X.env) = eval o X.env := by rfl)
    (hfew : ((backTo pos (starEach (e :: es) X.env)).all (fun x => !x.1) && (backToKw pos (keywordEach [] X.env)).all (fun x => x.1.isSome)
      && decide ((e :: es).length + ([] : List Keyword).length + (if ([] : List Keyword).isEmpty then 0 else 1) < 30)) = true := by rfl)
    (hline : (apos.endLine == pos.line) = true := by rfl) (hs : starEach (e :: es) X.env = (false, eval e X.env) :: starEach es X.env := by rfl) (hplain : (backTo pos (starEach es X.env)).any (·.1) = false := by rfl) :
    PE X (.Call (.Attribute o "append" apos) (e :: es) [] pos) (tM X.K G W (eMt opAppend mo ms)) :=
  peImp (pe_bm PySem.F.plainAttrs_list PySem.F.slot_list_append PySem.F.type_list_append mt_append ho ha hbase hfew hline hs hplain) fun σ H Q t => mt_imp im_append σ H Q t
theorem se_pop (ho : PE X o (tM X.K G W mo)) {apos : Pos} (hbase : attributeBase o "pop" X.env (eval o X.env) = eval o X.env := by rfl) (hline : (apos.endLine == pos.line) = true := by rfl) :
    PE X (.Call (.Attribute o "pop" apos) [] [] pos) (tM X.K G W (eMt opPop mo [])) :=
  peImp (pe_bm0 PySem.F.plainAttrs_list PySem.F.slot_list_pop PySem.F.type_list_pop mt_pop ho hbase hline) fun σ H Q t => mt0_imp im_pop σ H Q t

/-! ### o[i] = v -/
@[simp] def keyOf : D → Option Key
  | .int i => some (.inl i)
  | .str x => some (.inr x)
  | _ => none
@[simp] def keysOf : List D → Option (List Key)
  | [] => some []
  | d :: ds => match keyOf d, keysOf ds with
    | some k, some ks => some (k :: ks)
    | _, _ => none
def putP {κ : Type} [DecidableEq κ] (kvs : List (κ × D)) (k : κ) (v : D) : List (κ × D) :=
  if (kvs.any fun kv => decide (kv.1 = k)) = true then kvs.map (fun kv => if kv.1 = k then (kv.1, v) else kv) else kvs ++ [(k, v)]
def valP {κ : Type} [DecidableEq κ] (kvs : List (κ × D)) (k : κ) : Option D := (kvs.find? fun kv => decide (kv.1 = k)).map (·.2)
theorem keyOf_eq {d : D} {k : Key} (e : keyOf d = some k) : d = kD k := by
  cases d with
  | int i => cases e; rfl
  | str x => cases e; rfl
  | _ => cases e
theorem keysOf_eq : ∀ {ds : List D} {ks : List Key}, keysOf ds = some ks → ds = ks.map kD
  | [], ks, e => by cases e; rfl
  | d :: ds, ks, e => by
    simp only [keysOf] at e
    split at e
    · rename_i k ks' e1 e2
      cases e
      rw [keyOf_eq e1, keysOf_eq e2]
      rfl
    · cases e
theorem rv_keyD {v : V} {k : Key} (r : Rv K ρ H v (kD k)) : v = kV k := by
  cases k with
  | inl i => cases r; rfl
  | inr x => cases r; rfl
theorem rvs_keyD : ∀ {vs : List V} {ks : List Key}, Rvs K ρ H vs (ks.map kD) → vs = ks.map kV
  | _, [], .nil => rfl
  | _, k :: ks, .cons r rs => by rw [rv_keyD r, rvs_keyD rs]; rfl
theorem any_rel {κ : Type} [DecidableEq κ] {k : κ} : ∀ {kvs : List (κ × V)} {ds : List (κ × D)}, Paired (fun (p : κ × V) (q : κ × D) => p.1 = q.1 ∧ Rv K ρ H p.2 q.2) kvs ds → (kvs.any fun kv => decide (kv.1 = k)) = ds.any fun kv => decide (kv.1 = k)
  | _, _, .nil => rfl
  | _, _, .cons h t => by rw [List.any_cons, List.any_cons, any_rel t, h.1]
theorem map_rel {κ : Type} [DecidableEq κ] {k : κ} {v : V} {d : D} (rv : Rv K ρ H v d) : ∀ {kvs : List (κ × V)} {ds : List (κ × D)}, Paired (fun (p : κ × V) (q : κ × D) => p.1 = q.1 ∧ Rv K ρ H p.2 q.2) kvs ds →
    Paired (fun (p : κ × V) (q : κ × D) => p.1 = q.1 ∧ Rv K ρ H p.2 q.2) (kvs.map fun kv => if kv.1 = k then (kv.1, v) else kv) (ds.map fun kv => if kv.1 = k then (kv.1, d) else kv)
  | _, _, .nil => .nil
  | _, _, .cons h t => by
    refine .cons ?_ (map_rel rv t)
    dsimp only
    rw [h.1]
    split
    · exact ⟨rfl, rv⟩
    · exact h
theorem app_rel {α β : Type} {F : α → β → Prop} : ∀ {l₁ : List α} {l₂ : List β} {a : α} {b : β}, Paired F l₁ l₂ → F a b → Paired F (l₁ ++ [a]) (l₂ ++ [b])
  | _, _, _, _, .nil, h => .cons h .nil
  | _, _, _, _, .cons r t, h => .cons r (app_rel t h)
theorem put_rel {κ : Type} [DecidableEq κ] {k : κ} {v : V} {d : D} {kvs : List (κ × V)} {ds : List (κ × D)} (rv : Rv K ρ H v d) (r : Paired (fun (p : κ × V) (q : κ × D) => p.1 = q.1 ∧ Rv K ρ H p.2 q.2) kvs ds) :
    Paired (fun (p : κ × V) (q : κ × D) => p.1 = q.1 ∧ Rv K ρ H p.2 q.2) (putK kvs k v) (putP ds k d) := by
  unfold putK putP
  rw [any_rel r]
  split
  · exact map_rel rv r
  · exact app_rel r ⟨rfl, rv⟩
def opSetIx : D → D → D → Hh → Option Hh
  | .ref n, .tup ds, v, h => match h[n]? with
    | some (.dT kvs) => match keysOf ds with
      | some ks => if isK ds = false ∧ kvs.length < sizeLine then some (h.set n (.dT (putP kvs ks v))) else none
      | none => none
    | _ => none
  | .ref n, i, v, h => match h[n]? with
    | some (.lst xs) => match i with
      | .int i => (ixN xs.length i).map fun j => h.set n (.lst (xs.set j v))
      | _ => none
    | some (.dK kvs) => match keyOf i with
      | some k => if kvs.length < sizeLine then some (h.set n (.dK (putP kvs k v))) else none
      | none => none
    | _ => none
  | _, _, _, _ => none
theorem PSet.or {t t' : TSet} (h1 : PSet X t) (h2 : PSet X t') : PSet X (fun o i v H Q => t o i v H Q ∨ t' o i v H Q) := fun pins s σ H o i v ov iv u Q I ro ri rv q => by
  rcases q with q | q
  · exact h1 pins s σ H o i v ov iv u Q I ro ri rv q
  · exact h2 pins s σ H o i v ov iv u Q I ro ri rv q
theorem im_setIx {x y z : V} {o i v : D} {h' : Hh} {Q : Hp → Prop} (hr : Rh K G ρ H h) (ro : Rv K ρ H x o) (ri : Rv K ρ H y i) (rv : Rv K ρ H z v) (e : opSetIx o i v h = some h') (k : ∀ H', Ex K ρ H ρ H' → Rh K G ρ H' h' → Q H') : rSetL x y z H Q ∨ rSetD x y z H Q := by
  unfold opSetIx at e
  split at e
  · cases ro with
    | ref ra =>
      split at e
      · rename_i kvs e0
        split at e
        · rename_i ks e1
          split at e
          · rename_i hl
            cases e
            have zz := keysOf_eq e1
            subst zz
            have q := hr.at_ ra e0
            cases q with
            | @dT vkvs _ q r =>
              cases ri with
              | tup t rk =>
                have ek := rvs_keyD rk
                subst ek
                have e1 := Ex.write (K := K) (u := .dT (putK vkvs ks z)) hr ra e0
                refine .inr ⟨_, _, rfl, DPut.t q t (by rw [Paired.length r]; exact hl.2), k _ e1 (hr.write ra e0 (.dT upd_same ?_))⟩
                exact Paired.mapP (put_rel rv r) fun _ _ z => ⟨z.1, z.2.mono e1⟩
              | ktp _ f _ => rw [hl.1] at f; cases f
          · cases e
        · cases e
      · cases e
  · cases ro with
    | ref ra =>
      split at e
      · rename_i xs e0
        split at e
        · simp only [Option.map_eq_some_iff] at e
          obtain ⟨j, ej, rfl⟩ := e
          cases ri
          obtain ⟨vs, q, r⟩ := ref_lst hr ra e0
          have e1 := Ex.write (K := K) (u := .lst (vs.set j z)) hr ra e0
          exact .inl ⟨_, vs, _, j, rfl, rfl, q, by rw [r.length]; exact ej, k _ e1 (hr.write ra e0 (.lst upd_same ((r.set rv j).mono e1)))⟩
        · cases e
      · rename_i kvs e0
        split at e
        · rename_i kk e1
          split at e
          · rename_i hl
            cases e
            have zz := keyOf_eq e1
            subst zz
            have q := hr.at_ ra e0
            cases q with
            | @dK vkvs _ q r =>
              have ek := rv_keyD ri
              subst ek
              have e1 := Ex.write (K := K) (u := .dK (putK vkvs kk z)) hr ra e0
              refine .inr ⟨_, _, rfl, DPut.k q (by rw [Paired.length r]; exact hl), k _ e1 (hr.write ra e0 (.dK upd_same ?_))⟩
              exact Paired.mapP (put_rel rv r) fun _ _ z => ⟨z.1, z.2.mono e1⟩
          · cases e
        · cases e
      · cases e
  · cases e
def sSetIx (mo mi mv : M) : S := fun env h => bindS (mv env h) env fun v h1 => bindS (mo env h1) env fun o h2 => bindS (mi env h2) env fun i h3 => match opSetIx o i v h3 with
  | some h' => .nx env h'
  | none => .bad
theorem s_setIx {mv : M} {value i : Expr} {pos' : Pos} (hu : X.A.units + 1 < cLine) (ho : PE X o (tM X.K G W mo)) (hi : PE X i (tM X.K G W m)) (hv : PE X value (tM X.K G W mv))
    (ha : ∀ v, assign (.Subscript o i pos') X.env v = (do
      let ov ← holding [v] (eval o X.env)
      let iv ← holding [v, ov] (eval i X.env)
      standAt pos'
      holding [v, ov, iv] (setItem ov iv v)
      release [v, ov, iv] []) := by intro _; rfl)
    (hs : swapsWithSole [.Subscript o i pos'] value pos.line X.env = pure false := by rfl) (hw : swappedStores [.Subscript o i pos'] value X.env = pure none := by rfl)
    (h1 : (assignEach [.Subscript o i pos'] X.env).map (·.2) = [assign (.Subscript o i pos') X.env] := by rfl) : PS X (.Assign [.Subscript o i pos'] value pos) (tS X.K G W (sSetIx mo m mv)) :=
  psImp (ps_asg hv (pg_sub ho hi (PSet.or set_list (set_dict hu)) ha) hs hw h1) fun D0 σ H t => by
    obtain ⟨ρ, h, env, hr, he, p⟩ := t
    refine tG_mono (tS_bind (rel := relV X.K) hr he p) fun z H1 ⟨ρ1, h1, v, e1, hr1, he1, r1, p1⟩ => ?_
    refine tG_mono (tS_bind (rel := relV X.K) hr1 he1 p1) fun x H2 ⟨ρ2, h2, o, e2, hr2, he2, r2, p2⟩ => ?_
    refine tG_mono (tS_bind (rel := relV X.K) hr2 he2 p2) fun y H3 ⟨ρ3, h3, i, e3, hr3, he3, r3, p3⟩ => ?_
    dsimp only at p3
    split at p3
    · rename_i h' eq
      exact im_setIx hr3 (r2.mono e3) r3 ((r1.mono e2).mono e3) eq fun H' e' hr' => p3 ρ3 H' σ e' hr' (he3.mono e')
    · exact p3.elim
/-- {} -/
def eDK : M := fun _ h => .ok (.ref h.length) (h ++ [.dK []])
def eDT : M := fun _ h => .ok (.ref h.length) (h ++ [.dT []])
theorem se_dK : PE X (.Dict [] [] pos) (tM X.K G W eDK) := peImp pe_dnewK fun σ H Q t => by
  obtain ⟨ρ, h, env, hr, he, p⟩ := t
  exact fun q n => p (ρ ++ [q]) _ _ (Ex.push n) (hr.new n (.dK upd_same .nil)) (.ref (by rw [← hr.len]; exact get_push_eq))
theorem se_dT : PE X (.Dict [] [] pos) (tM X.K G W eDT) := peImp pe_dnewT fun σ H Q t => by
  obtain ⟨ρ, h, env, hr, he, p⟩ := t
  exact fun q n => p (ρ ++ [q]) _ _ (Ex.push n) (hr.new n (.dT upd_same .nil)) (.ref (by rw [← hr.len]; exact get_push_eq))
end
end Sm
/-! SmF: constants of the module, the law's end. -/
namespace Sm
open PySem L2 PyProof.Rows
theorem bt_len : bootBuiltins "len" = some (.builtin "len") := by first | exact PyProof.Rows.boot_len | exact PySem.boot_len | decide +kernel
theorem bt_isinstance : bootBuiltins "isinstance" = some (.builtin "isinstance") := by first | exact PyProof.Rows.boot_isinstance | exact PySem.boot_isinstance | decide +kernel
theorem bt_int : bootBuiltins "int" = some (.type "int") := by first | exact PyProof.Rows.boot_int | exact PySem.boot_int | decide +kernel
theorem bt_bool : bootBuiltins "bool" = some (.type "bool") := by first | exact PyProof.Rows.boot_bool | exact PySem.boot_bool | decide +kernel
theorem bt_str : bootBuiltins "str" = some (.type "str") := by first | exact PyProof.Rows.boot_str | exact PySem.boot_str | decide +kernel
theorem bt_list : bootBuiltins "list" = some (.type "list") := by first | exact PyProof.Rows.boot_list | exact PySem.boot_list | decide +kernel
theorem bt_tuple : bootBuiltins "tuple" = some (.type "tuple") := by first | exact PyProof.Rows.boot_tuple | exact PySem.boot_tuple | decide +kernel
theorem bt_dict : bootBuiltins "dict" = some (.type "dict") := by first | exact PyProof.Rows.boot_dict | exact PySem.boot_dict | decide +kernel
theorem bt_abs : bootBuiltins "abs" = some (.builtin "abs") := by first | exact PyProof.Rows.boot_abs | exact PySem.boot_abs | decide +kernel
theorem bt_max : bootBuiltins "max" = some (.builtin "max") := by first | exact PyProof.Rows.boot_max | exact PySem.boot_max | decide +kernel
theorem bt_min : bootBuiltins "min" = some (.builtin "min") := by first | exact PyProof.Rows.boot_min | exact PySem.boot_min | decide +kernel
theorem bt_sum : bootBuiltins "sum" = some (.builtin "sum") := by first | exact PyProof.Rows.boot_sum | exact PySem.boot_sum | decide +kernel
theorem bt_all : bootBuiltins "all" = some (.builtin "all") := by first | exact PyProof.Rows.boot_all | exact PySem.boot_all | decide +kernel
theorem bt_any : bootBuiltins "any" = some (.builtin "any") := by first | exact PyProof.Rows.boot_any | exact PySem.boot_any | decide +kernel
theorem bt_ord : bootBuiltins "ord" = some (.builtin "ord") := by first | exact PyProof.Rows.boot_ord | exact PySem.boot_ord | decide +kernel
theorem bt_sorted : bootBuiltins "sorted" = some (.builtin "sorted") := by first | exact PyProof.Rows.boot_sorted | exact PySem.boot_sorted | decide +kernel
theorem bt_set : bootBuiltins "set" = some (.type "set") := by first | exact PyProof.Rows.boot_set | exact PySem.boot_set | decide +kernel
theorem bt_range : bootBuiltins "range" = some (.type "range") := by first | exact PyProof.Rows.boot_range | exact PySem.boot_range | decide +kernel
theorem bt_reversed : bootBuiltins "reversed" = some (.type "reversed") := by first | exact PyProof.Rows.boot_reversed | exact PySem.boot_reversed | decide +kernel
theorem bt_repr : bootBuiltins "repr" = some (.builtin "repr") := by first | exact PyProof.Rows.boot_repr | exact PySem.boot_repr | decide +kernel
theorem bt_type : bootBuiltins "type" = some (.type "type") := by first | exact PyProof.Rows.boot_type | exact PySem.boot_type | decide +kernel
section
variable {X : Cx} {G : Cl} {W : WX} {e a b c o : Expr} {es : List Expr} {st : Stmt} {pos p : Pos} {m ma mb mo : M} {ms : List M} {K : PySem.W.Frag} {ρ : List Addr} {H : Hp} {h : Hh} {k : Nat}
theorem se_globI' {x : Str} {i : Int} (hg : Gl X x) (hm : ∃ u, X.mg x = some (.int i u)) (hd : (x == ("__debug__" : Str)) = false := by decide) : PE X (.Name x pos) (tM X.K G W (eC (.int i))) := let ⟨_, h⟩ := hm; se_globI hg h hd
theorem se_globS' {x y : Str} (hg : Gl X x) (hm : ∃ u, X.mg x = some (.str y u)) (hd : (x == ("__debug__" : Str)) = false := by decide) : PE X (.Name x pos) (tM X.K G W (eC (.str y))) := let ⟨_, h⟩ := hm; se_globS hg h hd
end
theorem law_end {K : PySem.W.Frag} {G : Cl} {f : Fm} (main : ∀ ns : List Int, ns.length ≤ 63 → ∃ h', f [.fls (ns.map D.int)] [] = .ok (.bl true) h') (H : Hp) (a : Addr) (ns : List Int) (hl : ns.length ≤ 63) (hO : Only H) (hS : SqL K H a (ns.map V.int)) :
    spM K G 1 f [.ref a] H (fun v _ => v = .bl true) (fun _ _ _ => False) := by
  obtain ⟨h', e⟩ := main ns hl
  have fl : FL K H a (ns.map V.int) := by
    rcases hS with (q | ⟨o, q⟩) | q
    · rcases hO a with z | ⟨o, xs, z⟩
      · rw [z] at q; cases q
      · rw [z] at q; cases q
    · exact .inl ⟨o, q⟩
    · exact .inr q
  refine ⟨[], [], [.fls (ns.map D.int)], ⟨rfl, fun i j a h => by simp at h, fun n o h => by simp at h⟩, .cons (.fls fl (Rvs.of_ints ns)) .nil, rfl, ?_⟩
  rw [e]
  intro ρ' H' v _ _ r
  cases r
  rfl
theorem walk_law {l : PySem.W.OpenLaw} {k : Nat} {q : Program} {loose : List Str} {XP : (Str → Option Value) → Heap → Prop} {YP : World → Heap → Prop} {d : DefRec} {K : Params → PySem.W.Frag} {f : Fm} {G : Cl}
    (hn : l.most = some 63) (hdf : d.params.defaults = []) (hr : Room k callerA)
    (hY : ∀ (w : World) (h : Heap), YP w h → (K w.params).In h) (main : ∀ ns : List Int, ns.length ≤ 63 → ∃ h', f [.fls (ns.map D.int)] [] = .ok (.bl true) h')
    (F : ∀ (w : World) (mg : Str → Option Value) (fa : Addr) (h : Heap), (K w.params).In h → h.Ns mainGlobals mg → mg d.name = some (.ref fa) →
      ∃ fd : FuncData, (∀ (s : Shared) (u : Value), BindsTo s fd ⟨[u], []⟩ [("script", u)]) ∧
        ∀ base : Heap, (K w.params).In base → base.Ns mainGlobals mg → FnOk l.prog w (K w.params) mg base (L2.CX l.prog w) k fa fd ["script"] (spM (K w.params) G 1 f)) :
    PySem.W.WalkO q loose XP YP l.row.toRowW d [] (fun f vs => PySem.call f vs) :=
  L2.walk_of (n := 63) (k := k) (x := "script") (CX := fun w => L2.CX l.prog w) (sp := fun w => spM (K w.params) G 1 f) hn (by decide) hdf hr hY F (fun w H a ns h1 h2 h3 => law_end main H a ns h1 h2 h3)
    fun w H s e s' z => by
      obtain ⟨_, _, _, _, _, _, _, _, _, _, _, _, z⟩ := z
      exact z
end Sm
/-! SmG: running the mirrors. -/
namespace Sm
open PySem L2 PyProof.Rows

/-- a loop, by what holds of the rest -/
theorem forL_wp {g : TgM} {body : S} {gd : Option (Nat × O)} (I : List D → Ev → Hh → Prop) (Post : SR → Prop)
    (step : ∀ x rest env h, I (x :: rest) env h → gdOk gd h ∧ ∃ env1, g x h env = some env1 ∧ ((∃ e' h', (body env1 h = .nx e' h' ∨ body env1 h = .ct e' h') ∧ I rest e' h') ∨ (∃ e' h', body env1 h = .bk e' h' ∧ Post (.nx e' h')) ∨ (∃ d h', body env1 h = .rt d h' ∧ Post (.rt d h')) ∨ (∃ c fs e' h', body env1 h = .exc c fs e' h' ∧ Post (.exc c fs e' h'))))
    (done : ∀ env h, I [] env h → gdOk gd h ∧ Post (.nx env h)) : ∀ (xs : List D) (env : Ev) (h : Hh), I xs env h → Post (forL g body gd xs env h)
  | [], env, h, i => by
    obtain ⟨a, b⟩ := done env h i
    unfold forL
    rw [if_pos a]
    exact b
  | x :: xs, env, h, i => by
    obtain ⟨a, env1, e1, r⟩ := step x xs env h i
    unfold forL
    rw [if_pos a, e1]
    dsimp only
    rcases r with ⟨e', h', q | q, i'⟩ | ⟨e', h', q, i'⟩ | ⟨d, h', q, i'⟩ | ⟨c, fs, e', h', q, i'⟩
    · rw [q]; exact forL_wp I Post step done xs e' h' i'
    · rw [q]; exact forL_wp I Post step done xs e' h' i'
    · rw [q]; exact i'
    · rw [q]; exact i'
    · rw [q]; exact i'
/-- the plain case: every turn goes on -/
theorem forL_inv {g : TgM} {body : S} {gd : Option (Nat × O)} (I : List D → Ev → Hh → Prop) (xs : List D) (env : Ev) (h : Hh) (h0 : I xs env h) (hg : ∀ rest env h, I rest env h → gdOk gd h)
    (step : ∀ x rest env h, I (x :: rest) env h → ∃ env1, g x h env = some env1 ∧ ∃ e' h', body env1 h = .nx e' h' ∧ I rest e' h') : ∃ e' h', forL g body gd xs env h = .nx e' h' ∧ I [] e' h' := by
  refine forL_wp (g := g) (body := body) (gd := gd) I (fun r => ∃ e' h', r = .nx e' h' ∧ I [] e' h') (fun x rest env h i => ?_) (fun env h i => ⟨hg _ _ _ i, env, h, rfl, i⟩) xs env h h0
  obtain ⟨env1, e1, e', h', q, i'⟩ := step x rest env h i
  exact ⟨hg _ _ _ i, env1, e1, .inl ⟨e', h', .inl q, i'⟩⟩
/-! ### the combinators step by step, no function under a binder -/
section
variable (env : Ev) (h : Hh) (f g : D → D → Hh → Option (D × Hh)) (f1 : D → Hh → Option (D × Hh)) (fn : List D → Hh → Option (D × Hh)) (fm : D → List D → Hh → Option (D × Hh)) (a b c : M) (ms : List M) (d e : D) (ds : List D) (i : Nat) (s1 s2 : S) (t u : MT)
def rOpt (o : Option (D × Hh)) : R D := R.opt o
@[simp] theorem rOpt_some : rOpt (some (d, h)) = .ok d h := rfl
@[simp] theorem eV_eq : eV i env h = match env[i]? with | some (some d) => .ok d h | _ => .bad := rfl
@[simp] theorem eC_eq : eC d env h = .ok d h := rfl
def eU1 (r : R D) : R D := r.bind fun x h1 => R.opt (f1 x h1)
@[simp] theorem eU_eq : eU f1 a env h = eU1 f1 (a env h) := rfl
@[simp] theorem eU1_ok : eU1 f1 (.ok d h) = R.opt (f1 d h) := rfl
def eB1 (env : Ev) (r : R D) : R D := r.bind fun x h1 => (b env h1).bind fun y h2 => R.opt (f x y h2)
def eB2 (d : D) (r : R D) : R D := r.bind fun y h2 => R.opt (f d y h2)
@[simp] theorem eB_eq : eB f a b env h = eB1 f b env (a env h) := rfl
@[simp] theorem eB1_ok : eB1 f b env (.ok d h) = eB2 f d (b env h) := rfl
@[simp] theorem eB2_ok : eB2 f d (.ok e h) = R.opt (f d e h) := rfl
def eAnd1 (env : Ev) (r : R D) : R D := r.bind fun d h1 => match d with
  | .bl true => b env h1
  | .bl false => .ok (.bl false) h1
  | _ => .bad
@[simp] theorem eAnd_eq : eAnd a b env h = eAnd1 b env (a env h) := rfl
@[simp] theorem eAnd1_t : eAnd1 b env (.ok (.bl true) h) = b env h := rfl
@[simp] theorem eAnd1_f : eAnd1 b env (.ok (.bl false) h) = .ok (.bl false) h := rfl
theorem eAnd1_d (p : Bool) : eAnd1 b env (.ok (.bl p) h) = if p = true then b env h else .ok (.bl false) h := by cases p <;> rfl
def eOr1 (env : Ev) (r : R D) : R D := r.bind fun d h1 => match d with
  | .bl false => b env h1
  | .bl true => .ok (.bl true) h1
  | _ => .bad
@[simp] theorem eOr_eq : eOr a b env h = eOr1 b env (a env h) := rfl
@[simp] theorem eOr1_f : eOr1 b env (.ok (.bl false) h) = b env h := rfl
@[simp] theorem eOr1_t : eOr1 b env (.ok (.bl true) h) = .ok (.bl true) h := rfl
theorem eOr1_d (p : Bool) : eOr1 b env (.ok (.bl p) h) = if p = true then .ok (.bl true) h else b env h := by cases p <;> rfl
def eNot1 (r : R D) : R D := r.bind fun d h1 => match d with
  | .bl b => .ok (.bl (!b)) h1
  | _ => .bad
@[simp] theorem eNot_eq : eNot a env h = eNot1 (a env h) := rfl
@[simp] theorem eNot1_b (k : Bool) : eNot1 (.ok (.bl k) h) = .ok (.bl (!k)) h := rfl
def eIf1 (env : Ev) (r : R Bool) : R D := r.bind fun c h1 => if c = true then a env h1 else b env h1
@[simp] theorem eIf_eq : eIf t a b env h = eIf1 a b env (t env h) := rfl
@[simp] theorem eIf1_t : eIf1 a b env (.ok true h) = a env h := rfl
@[simp] theorem eIf1_f : eIf1 a b env (.ok false h) = b env h := rfl
theorem eIf1_d (p : Bool) : eIf1 a b env (.ok p h) = if p = true then a env h else b env h := by cases p <;> rfl
def eCh1 (env : Ev) (r : R D) : R D := r.bind fun x h1 => (b env h1).bind fun y h2 => (R.opt (f x y h2)).bind fun z h3 => match z with
  | .bl true => (c env h3).bind fun w h4 => R.opt (g y w h4)
  | .bl false => .ok (.bl false) h3
  | _ => .bad
def eCh2 (env : Ev) (x : D) (r : R D) : R D := r.bind fun y h2 => (R.opt (f x y h2)).bind fun z h3 => match z with
  | .bl true => (c env h3).bind fun w h4 => R.opt (g y w h4)
  | .bl false => .ok (.bl false) h3
  | _ => .bad
def eCh3 (env : Ev) (y : D) (r : R D) : R D := r.bind fun z h3 => match z with
  | .bl true => (c env h3).bind fun w h4 => R.opt (g y w h4)
  | .bl false => .ok (.bl false) h3
  | _ => .bad
@[simp] theorem eCh_eq : eCh f g a b c env h = eCh1 f g b c env (a env h) := rfl
@[simp] theorem eCh1_ok : eCh1 f g b c env (.ok d h) = eCh2 f g c env d (b env h) := rfl
@[simp] theorem eCh2_ok : eCh2 f g c env d (.ok e h) = eCh3 g c env e (R.opt (f d e h)) := rfl
@[simp] theorem eCh3_t : eCh3 g c env e (.ok (.bl true) h) = eB2 g e (c env h) := rfl
@[simp] theorem eCh3_f : eCh3 g c env e (.ok (.bl false) h) = .ok (.bl false) h := rfl
def tTru1 (r : R D) : R Bool := r.bind fun d h1 => optB (opTruth d h1) h1
@[simp] theorem tTru_eq : tTru a env h = tTru1 (a env h) := rfl
@[simp] theorem tTru1_ok : tTru1 (.ok d h) = optB (opTruth d h) h := rfl
def tBl1 (r : R D) : R Bool := r.bind fun d h1 => optB (opBl d) h1
@[simp] theorem tBl_eq : tBl a env h = tBl1 (a env h) := rfl
@[simp] theorem tBl1_ok : tBl1 (.ok d h) = optB (opBl d) h := rfl
def tAnd1 (env : Ev) (r : R Bool) : R Bool := r.bind fun c h1 => if c = true then u env h1 else .ok false h1
@[simp] theorem tAndM_eq : tAndM t u env h = tAnd1 u env (t env h) := rfl
@[simp] theorem tAnd1_t : tAnd1 u env (.ok true h) = u env h := rfl
@[simp] theorem tAnd1_f : tAnd1 u env (.ok false h) = .ok false h := rfl
theorem tAnd1_d (p : Bool) : tAnd1 u env (.ok p h) = if p = true then u env h else .ok false h := by cases p <;> rfl
def tOr1 (env : Ev) (r : R Bool) : R Bool := r.bind fun c h1 => if c = true then .ok true h1 else u env h1
@[simp] theorem tOrM_eq : tOrM t u env h = tOr1 u env (t env h) := rfl
@[simp] theorem tOr1_t : tOr1 u env (.ok true h) = .ok true h := rfl
@[simp] theorem tOr1_f : tOr1 u env (.ok false h) = u env h := rfl
theorem tOr1_d (p : Bool) : tOr1 u env (.ok p h) = if p = true then .ok true h else u env h := by cases p <;> rfl
def tNot1 (r : R Bool) : R Bool := r.bind fun c h1 => .ok (!c) h1
@[simp] theorem tNotM_eq : tNotM t env h = tNot1 (t env h) := rfl
@[simp] theorem tNot1_ok (k : Bool) : tNot1 (.ok k h) = .ok (!k) h := rfl
def evs1 (env : Ev) (r : R D) : R (List D) := r.bind fun d h1 => (evs ms env h1).bind fun ds h2 => .ok (d :: ds) h2
def evs2 (d : D) (r : R (List D)) : R (List D) := r.bind fun ds h2 => .ok (d :: ds) h2
@[simp] theorem evs_nil : evs [] env h = .ok [] h := rfl
@[simp] theorem evs_cons : evs (a :: ms) env h = evs1 ms env (a env h) := rfl
@[simp] theorem evs1_ok : evs1 ms env (.ok d h) = evs2 d (evs ms env h) := rfl
@[simp] theorem evs2_ok : evs2 d (.ok ds h) = .ok (d :: ds) h := rfl
def eN1 (r : R (List D)) : R D := r.bind fun ds h1 => R.opt (fn ds h1)
@[simp] theorem eN_eq : eN fn ms env h = eN1 fn (evs ms env h) := rfl
@[simp] theorem eN1_ok : eN1 fn (.ok ds h) = R.opt (fn ds h) := rfl
def eTup1 (r : R (List D)) : R D := r.bind fun ds h1 => .ok (.tup ds) h1
@[simp] theorem eTup_eq : eTup ms env h = eTup1 (evs ms env h) := rfl
@[simp] theorem eTup1_ok : eTup1 (.ok ds h) = .ok (.tup ds) h := rfl
def eLst1 (r : R (List D)) : R D := r.bind fun ds h1 => .ok (.ref h1.length) (h1 ++ [.lst ds])
@[simp] theorem eLst_eq : eLst ms env h = eLst1 (evs ms env h) := rfl
@[simp] theorem eLst1_ok : eLst1 (.ok ds h) = .ok (.ref h.length) (h ++ [.lst ds]) := rfl
def eCall1 (k : Fm) (r : R (List D)) : R D := r.bind fun ds h1 => k ds h1
@[simp] theorem eCall_eq (k : Fm) : eCall k ms env h = eCall1 k (evs ms env h) := rfl
@[simp] theorem eCall1_ok (k : Fm) : eCall1 k (.ok ds h) = k ds h := rfl
def eMt1 (env : Ev) (r : R D) : R D := r.bind fun o h1 => if isL o h1 = true then (evs ms env h1).bind fun ds h2 => R.opt (fm o ds h2) else .bad
def eMt2 (o : D) (r : R (List D)) : R D := r.bind fun ds h2 => R.opt (fm o ds h2)
@[simp] theorem eMt_eq : eMt fm a ms env h = eMt1 fm ms env (a env h) := rfl
@[simp] theorem eMt1_ok : eMt1 fm ms env (.ok d h) = if isL d h = true then eMt2 fm d (evs ms env h) else .bad := rfl
@[simp] theorem eMt2_ok : eMt2 fm d (.ok ds h) = R.opt (fm d ds h) := rfl
variable (lo hi : Option M) (l k : Option Int)
def evO1 (r : R D) : R (Option Int) := r.bind fun d h1 => match d with
  | .int i => .ok (some i) h1
  | _ => .bad
@[simp] theorem evO_none : evO none env h = .ok none h := rfl
@[simp] theorem evO_some : evO (some a) env h = evO1 (a env h) := rfl
@[simp] theorem evO1_ok (j : Int) : evO1 (.ok (.int j) h) = .ok (some j) h := rfl
def eSl1 (env : Ev) (r : R D) : R D := r.bind fun d h1 => (evO lo env h1).bind fun l h2 => (evO hi env h2).bind fun u h3 => R.opt (opSl d l u h3)
def eSl2 (env : Ev) (d : D) (r : R (Option Int)) : R D := r.bind fun l h2 => (evO hi env h2).bind fun u h3 => R.opt (opSl d l u h3)
def eSl3 (d : D) (l : Option Int) (r : R (Option Int)) : R D := r.bind fun u h3 => R.opt (opSl d l u h3)
@[simp] theorem eSl_eq : eSl a lo hi env h = eSl1 lo hi env (a env h) := rfl
@[simp] theorem eSl1_ok : eSl1 lo hi env (.ok d h) = eSl2 hi env d (evO lo env h) := rfl
@[simp] theorem eSl2_ok : eSl2 hi env d (.ok l h) = eSl3 d l (evO hi env h) := rfl
@[simp] theorem eSl3_ok : eSl3 d l (.ok k h) = R.opt (opSl d l k h) := rfl
@[simp] theorem eDK_eq : eDK env h = .ok (.ref h.length) (h ++ [.dK []]) := rfl
@[simp] theorem eDT_eq : eDT env h = .ok (.ref h.length) (h ++ [.dT []]) := rfl
/-! statements -/
@[simp] theorem sSkip_eq : sSkip env h = .nx env h := rfl
def sSeq1 (r : SR) : SR := match r with
  | .nx env' h' => s2 env' h'
  | r => r
@[simp] theorem sSeq_eq : sSeq s1 s2 env h = sSeq1 s2 (s1 env h) := by
  unfold sSeq sSeq1
  cases s1 env h <;> rfl
@[simp] theorem sSeq1_nx : sSeq1 s2 (.nx env h) = s2 env h := rfl
@[simp] theorem sSeq1_rt : sSeq1 s2 (.rt d h) = .rt d h := rfl
@[simp] theorem sSeq1_bk : sSeq1 s2 (.bk env h) = .bk env h := rfl
@[simp] theorem sSeq1_ct : sSeq1 s2 (.ct env h) = .ct env h := rfl
@[simp] theorem sSeq1_exc (n : Nat) : sSeq1 s2 (.exc n ds env h) = .exc n ds env h := rfl
def sRet1 (env : Ev) (r : R D) : SR := bindS r env fun d h1 => .rt d h1
@[simp] theorem sRet_eq : sRet a env h = sRet1 env (a env h) := rfl
@[simp] theorem sRet1_ok : sRet1 env (.ok d h) = .rt d h := rfl
@[simp] theorem sRet1_exc (n : Nat) : sRet1 env (.exc n ds h) = .exc n ds env h := rfl
@[simp] theorem sRetN_eq : sRetN env h = .rt .non h := rfl
def sExpr1 (env : Ev) (r : R D) : SR := bindS r env fun _ h1 => .nx env h1
@[simp] theorem sExpr_eq : sExpr a env h = sExpr1 env (a env h) := rfl
@[simp] theorem sExpr1_ok : sExpr1 env (.ok d h) = .nx env h := rfl
@[simp] theorem sExpr1_exc (n : Nat) : sExpr1 env (.exc n ds h) = .exc n ds env h := rfl
def sSet1 (i : Nat) (env : Ev) (r : R D) : SR := bindS r env fun d h1 => .nx (env.set i (some d)) h1
@[simp] theorem sSet_eq : sSet i a env h = sSet1 i env (a env h) := rfl
@[simp] theorem sSet1_ok : sSet1 i env (.ok d h) = .nx (env.set i (some d)) h := rfl
@[simp] theorem sSet1_exc (n : Nat) : sSet1 i env (.exc n ds h) = .exc n ds env h := rfl
def sIf1 (env : Ev) (r : R Bool) : SR := bindS r env fun c h1 => if c = true then s1 env h1 else s2 env h1
@[simp] theorem sIf_eq : sIf t s1 s2 env h = sIf1 s1 s2 env (t env h) := rfl
@[simp] theorem sIf1_t : sIf1 s1 s2 env (.ok true h) = s1 env h := rfl
@[simp] theorem sIf1_f : sIf1 s1 s2 env (.ok false h) = s2 env h := rfl
theorem sIf1_d (p : Bool) : sIf1 s1 s2 env (.ok p h) = if p = true then s1 env h else s2 env h := by cases p <;> rfl
@[simp] theorem sBk_eq : sBk env h = .bk env h := rfl
@[simp] theorem sCt_eq : sCt env h = .ct env h := rfl
variable (tg : TgM) (mi : Ev → Hh → R Src) (src : Src)
def sUnp1 (env : Ev) (r : R D) : SR := bindS r env fun d h1 => match tg d h1 env with
  | some env' => .nx env' h1
  | none => .bad
@[simp] theorem sUnp_eq : sUnp tg a env h = sUnp1 tg env (a env h) := rfl
@[simp] theorem sUnp1_ok : sUnp1 tg env (.ok d h) = match tg d h env with
  | some env' => .nx env' h
  | none => .bad := rfl
@[simp] theorem gtName_eq : gtName i d h env = some (env.set i (some d)) := rfl
noncomputable def sFor1 (env : Ev) (r : R Src) : SR := bindS r env fun src h1 => forL tg s1 src.2 src.1 env h1
@[simp] theorem sFor_eq : sFor mi tg s1 env h = sFor1 s1 tg env (mi env h) := rfl
@[simp] theorem sFor1_ok : sFor1 s1 tg env (.ok src h) = forL tg s1 src.2 src.1 env h := rfl
def mSeq1 (r : R D) : R Src := r.bind fun d h1 => match d with
  | .tup ds => .ok (ds, none) h1
  | .fls ds => .ok (ds, none) h1
  | .ref n => match h1[n]? with
    | some (.lst ds) => .ok (ds, some (n, .lst ds)) h1
    | _ => .bad
  | _ => .bad
@[simp] theorem mSeq_eq : mSeq a env h = mSeq1 (a env h) := rfl
@[simp] theorem mSeq1_t : mSeq1 (.ok (.tup ds) h) = .ok (ds, none) h := rfl
@[simp] theorem mSeq1_f : mSeq1 (.ok (.fls ds) h) = .ok (ds, none) h := rfl
@[simp] theorem mSeq1_r (n : Nat) : mSeq1 (.ok (.ref n) h) = match h[n]? with
    | some (.lst ds) => .ok (ds, some (n, .lst ds)) h
    | _ => .bad := rfl
def mRng11 (r : R D) : R Src := r.bind fun d h1 => match d with
  | .int j => if inR j = true then .ok (rngD 0 j.toNat, none) h1 else .bad
  | _ => .bad
@[simp] theorem mRng1_eq : mRng1 a env h = mRng11 (a env h) := rfl
@[simp] theorem mRng11_ok (j : Int) : mRng11 (.ok (.int j) h) = if inR j = true then .ok (rngD 0 j.toNat, none) h else .bad := rfl
def mRng21 (env : Ev) (r : R D) : R Src := r.bind fun d h1 => (b env h1).bind fun e h2 => match d, e with
  | .int i, .int j => if inR i = true ∧ inR j = true then .ok (rngD i (j - i).toNat, none) h2 else .bad
  | _, _ => .bad
def mRng22 (d : D) (r : R D) : R Src := r.bind fun e h2 => match d, e with
  | .int i, .int j => if inR i = true ∧ inR j = true then .ok (rngD i (j - i).toNat, none) h2 else .bad
  | _, _ => .bad
@[simp] theorem mRng2_eq : mRng2 a b env h = mRng21 b env (a env h) := rfl
@[simp] theorem mRng21_ok : mRng21 b env (.ok d h) = mRng22 d (b env h) := rfl
@[simp] theorem mRng22_ok (i j : Int) : mRng22 (.int i) (.ok (.int j) h) = if inR i = true ∧ inR j = true then .ok (rngD i (j - i).toNat, none) h else .bad := rfl
def sSetIx1 (mo mi : M) (env : Ev) (r : R D) : SR := bindS r env fun v h1 => bindS (mo env h1) env fun o h2 => bindS (mi env h2) env fun i h3 => match opSetIx o i v h3 with
  | some h' => .nx env h'
  | none => .bad
def sSetIx2 (mi : M) (env : Ev) (v : D) (r : R D) : SR := bindS r env fun o h2 => bindS (mi env h2) env fun i h3 => match opSetIx o i v h3 with
  | some h' => .nx env h'
  | none => .bad
def sSetIx3 (env : Ev) (v o : D) (r : R D) : SR := bindS r env fun i h3 => match opSetIx o i v h3 with
  | some h' => .nx env h'
  | none => .bad
@[simp] theorem sSetIx_eq : sSetIx a b c env h = sSetIx1 a b env (c env h) := rfl
@[simp] theorem sSetIx1_ok : sSetIx1 a b env (.ok d h) = sSetIx2 b env d (a env h) := rfl
@[simp] theorem sSetIx2_ok : sSetIx2 b env d (.ok e h) = sSetIx3 env d e (b env h) := rfl
@[simp] theorem sSetIx3_ok (z : D) : sSetIx3 env d e (.ok z h) = match opSetIx e z d h with
  | some h' => .nx env h'
  | none => .bad := rfl
def fnEnd (r : SR) : R D := match r with
  | .nx _ h' => .ok .non h'
  | .rt d h' => .ok d h'
  | .exc c fs _ h' => .exc c fs h'
  | _ => .bad
@[simp] theorem fnM_eq (n : Nat) : fnM n s1 ds h = fnEnd (s1 (ds.map some ++ List.replicate (n - ds.length) none) h) := by
  unfold fnM fnEnd
  cases s1 (ds.map some ++ List.replicate (n - ds.length) none) h <;> rfl
@[simp] theorem fnEnd_nx : fnEnd (.nx env h) = .ok .non h := rfl
@[simp] theorem fnEnd_rt : fnEnd (.rt d h) = .ok d h := rfl
@[simp] theorem fnEnd_exc (n : Nat) : fnEnd (.exc n ds env h) = .exc n ds h := rfl
def sAug1 (i : Nat) (x : D) (env : Ev) (r : R D) : SR := bindS r env fun y h1 => bindS (R.opt (f x y h1)) env fun z h2 => .nx (env.set i (some z)) h2
@[simp] theorem sAug_eq : sAug f i a env h = match env[i]? with
  | some (some x) => sAug1 f i x env (a env h)
  | _ => .bad := rfl
@[simp] theorem sAug1_ok : sAug1 f i d env (.ok e h) = sSet1 i env (R.opt (f d e h)) := rfl
end
section
variable (i j : Int) (x y : Str) (k l : Bool) (xs ys : List D) (n m : Nat) (h : Hh) (d e : D)
@[simp] theorem opAdd_ii : opAdd (.int i) (.int j) h = some (.int (i + j), h) := rfl
@[simp] theorem opAdd_ib : opAdd (.int i) (.bl k) h = some (.int (i + b2i k), h) := rfl
@[simp] theorem opAdd_ss : opAdd (.str x) (.str y) h = if x.length + y.length ≤ sizeLine then some (.str (x ++ y), h) else none := rfl
@[simp] theorem opAdd_tt : opAdd (.tup xs) (.tup ys) h = if xs.length + ys.length ≤ sizeLine then some (.tup (xs ++ ys), h) else none := rfl
@[simp] theorem opAdd_rr : opAdd (.ref m) (.ref n) h = match h[m]?, h[n]? with
    | some (.lst xs), some (.lst ys) => if xs.length + ys.length ≤ sizeLine then some (.ref h.length, h ++ [.lst (xs ++ ys)]) else none
    | _, _ => none := rfl
@[simp] theorem opSub_ii : opSub (.int i) (.int j) h = some (.int (i - j), h) := rfl
@[simp] theorem opMul_ii : opMul (.int i) (.int j) h = if mulOk i j = true then some (.int (i * j), h) else none := rfl
@[simp] theorem opMod_ii : opMod (.int i) (.int j) h = if 0 < j then some (.int (i % j), h) else none := rfl
@[simp] theorem opFdiv_ii : opFdiv (.int i) (.int j) h = if 0 < j ∧ j < 1073741824 then some (.int (i / j), h) else none := rfl
@[simp] theorem opPow_ii : opPow (.int i) (.int j) h = if 0 ≤ j ∧ j ≤ 1000000 ∧ i.natAbs < 18446744073709551616 then some (.int (i ^ j.toNat), h) else none := rfl
@[simp] theorem opNeg_i : opNeg (.int i) h = some (.int (-i), h) := rfl
@[simp] theorem opEq_ii : opEq (.int i) (.int j) h = some (.bl (decide (i = j)), h) := rfl
@[simp] theorem opEq_ss : opEq (.str x) (.str y) h = some (.bl (decide (x = y)), h) := rfl
@[simp] theorem opEq_bb : opEq (.bl k) (.bl l) h = some (.bl (decide (k = l)), h) := rfl
@[simp] theorem opEq_nn : opEq .non .non h = some (.bl true, h) := rfl
@[simp] theorem opNe_ii : opNe (.int i) (.int j) h = some (.bl (!decide (i = j)), h) := rfl
@[simp] theorem opNe_ss : opNe (.str x) (.str y) h = some (.bl (!decide (x = y)), h) := rfl
@[simp] theorem opNe_bb : opNe (.bl k) (.bl l) h = some (.bl (!decide (k = l)), h) := rfl
@[simp] theorem opNe_nn : opNe .non .non h = some (.bl false, h) := rfl
@[simp] theorem opLt_ii : opLt (.int i) (.int j) h = some (.bl (decide (i < j)), h) := rfl
@[simp] theorem opLt_ss : opLt (.str x) (.str y) h = some (.bl (decide (x.cps.toList < y.cps.toList)), h) := rfl
@[simp] theorem opLe_ii : opLe (.int i) (.int j) h = some (.bl (decide (i ≤ j)), h) := rfl
@[simp] theorem opGt_ii : opGt (.int i) (.int j) h = some (.bl (decide (j < i)), h) := rfl
@[simp] theorem opGe_ii : opGe (.int i) (.int j) h = some (.bl (decide (j ≤ i)), h) := rfl
@[simp] theorem opIsN_n : opIsN .non h = some (.bl true, h) := rfl
@[simp] theorem opIsN_i : opIsN (.int i) h = some (.bl false, h) := rfl
@[simp] theorem opIsN_b : opIsN (.bl k) h = some (.bl false, h) := rfl
@[simp] theorem opIsN_s : opIsN (.str x) h = some (.bl false, h) := rfl
@[simp] theorem opIsN_t : opIsN (.tup xs) h = some (.bl false, h) := rfl
@[simp] theorem opIsN_f : opIsN (.fls xs) h = some (.bl false, h) := rfl
@[simp] theorem opIsN_r : opIsN (.ref n) h = some (.bl false, h) := rfl
@[simp] theorem opNotN_n : opNotN .non h = some (.bl false, h) := rfl
@[simp] theorem opNotN_i : opNotN (.int i) h = some (.bl true, h) := rfl
@[simp] theorem opNotN_b : opNotN (.bl k) h = some (.bl true, h) := rfl
@[simp] theorem opNotN_s : opNotN (.str x) h = some (.bl true, h) := rfl
@[simp] theorem opNotN_t : opNotN (.tup xs) h = some (.bl true, h) := rfl
@[simp] theorem opNotN_f : opNotN (.fls xs) h = some (.bl true, h) := rfl
@[simp] theorem opNotN_r : opNotN (.ref n) h = some (.bl true, h) := rfl
@[simp] theorem opTruth_n : opTruth .non h = some false := rfl
@[simp] theorem opTruth_b : opTruth (.bl k) h = some k := rfl
@[simp] theorem opTruth_i : opTruth (.int i) h = some (i != 0) := rfl
@[simp] theorem opTruth_t : opTruth (.tup xs) h = some (!xs.isEmpty) := rfl
@[simp] theorem opTruth_f : opTruth (.fls xs) h = some (!xs.isEmpty) := rfl
@[simp] theorem opTruth_s : opTruth (.str y) h = if y.length ≤ sizeLine then some ((y.length : Int) != 0) else none := rfl
@[simp] theorem opTruth_r : opTruth (.ref n) h = match h[n]? with
    | some (.lst ds) => some (!ds.isEmpty)
    | some (.dK ds) => some (!ds.isEmpty)
    | _ => none := rfl
@[simp] theorem opBl_b : opBl (.bl k) = some k := rfl
@[simp] theorem opIx_t : opIx (.tup xs) (.int i) h = (atI xs i).map fun d => (d, h) := rfl
@[simp] theorem opIx_f : opIx (.fls xs) (.int i) h = (atI xs i).map fun d => (d, h) := rfl
@[simp] theorem opIx_s : opIx (.str x) (.int i) h = if x.length ≤ sizeLine then (atI x.cps.toList i).map fun c => (.str ⟨#[c]⟩, h) else none := rfl
@[simp] theorem opIx_r : opIx (.ref n) (.int i) h = match h[n]? with
    | some (.lst ds) => (atI ds i).map fun d => (d, h)
    | _ => none := rfl
variable (lo hi : Option Int)
@[simp] theorem opSl_t : opSl (.tup xs) lo hi h = some (.tup (cutD xs lo hi), h) := rfl
@[simp] theorem opSl_f : opSl (.fls xs) lo hi h = some (.ref h.length, h ++ [.lst (cutD xs lo hi)]) := rfl
@[simp] theorem opSl_s : opSl (.str x) lo hi h = if x.length ≤ sizeLine then some (.str (cutS x lo hi), h) else none := rfl
@[simp] theorem opSl_r : opSl (.ref n) lo hi h = match h[n]? with
    | some (.lst ds) => some (.ref h.length, h ++ [.lst (cutD ds lo hi)])
    | _ => none := rfl
@[simp] theorem opRev_f : opRev (.fls xs) h = some (.ref h.length, h ++ [.lst xs.reverse]) := rfl
@[simp] theorem opRev_r : opRev (.ref n) h = match h[n]? with
    | some (.lst ds) => some (.ref h.length, h ++ [.lst ds.reverse])
    | _ => none := rfl
@[simp] theorem partsOf_t : partsOf (.tup xs) h = some xs := rfl
@[simp] theorem partsOf_f : partsOf (.fls xs) h = some xs := rfl
@[simp] theorem partsOf_r : partsOf (.ref n) h = match h[n]? with
    | some (.lst ds) => some ds
    | _ => none := rfl
@[simp] theorem gtTup_eq (is : List Nat) (env : Ev) : gtTup is d h env = match partsOf d h with
  | some ds => if ds.length = is.length then some (setAll is ds env) else none
  | none => none := rfl
@[simp] theorem opAbs_i : opAbs [.int i] h = some (.int (if i < 0 then -i else i), h) := rfl
@[simp] theorem opInt_i : opInt [.int i] h = some (.int i, h) := rfl
@[simp] theorem opInt_b : opInt [.bl k] h = some (.int (if k = true then 1 else 0), h) := rfl
@[simp] theorem opMax_ii : opMax [.int i, .int j] h = some (.int (if j > i then j else i), h) := rfl
@[simp] theorem opMin_ii : opMin [.int i, .int j] h = some (.int (if j < i then j else i), h) := rfl
@[simp] theorem opLen_t : opLen [.tup xs] h = some (.int xs.length, h) := rfl
@[simp] theorem opLen_f : opLen [.fls xs] h = some (.int xs.length, h) := rfl
@[simp] theorem opLen_s : opLen [.str y] h = if y.length ≤ sizeLine then some (.int y.length, h) else none := rfl
@[simp] theorem opLen_r : opLen [.ref n] h = match h[n]? with
    | some (.lst ds) => some (.int ds.length, h)
    | some (.dK ds) => some (.int ds.length, h)
    | some (.dT ds) => some (.int ds.length, h)
    | _ => none := rfl
@[simp] theorem opList_t : opList [.tup xs] h = some (.ref h.length, h ++ [.lst xs]) := rfl
@[simp] theorem opList_f : opList [.fls xs] h = some (.ref h.length, h ++ [.lst xs]) := rfl
@[simp] theorem opList_r : opList [.ref n] h = match h[n]? with
    | some (.lst ds) => some (.ref h.length, h ++ [.lst ds])
    | some (.dK kvs) => some (.ref h.length, h ++ [.lst (kvs.map fun kv => kD kv.1)])
    | some (.dT kvs) => some (.ref h.length, h ++ [.lst (kvs.map fun kv => .tup (kv.1.map kD))])
    | _ => none := rfl
@[simp] theorem opTupleOf_t : opTupleOf [.tup xs] h = some (.tup xs, h) := rfl
@[simp] theorem opTupleOf_f : opTupleOf [.fls xs] h = some (.tup xs, h) := rfl
@[simp] theorem opTupleOf_r : opTupleOf [.ref n] h = match h[n]? with
    | some (.lst ds) => some (.tup ds, h)
    | _ => none := rfl
@[simp] theorem opSorted_r : opSorted [.ref n] h = match h[n]? with
    | some (.lst ds) => match intsOf ds with
      | some ns => some (.ref h.length, h ++ [.lst ((sortI ns).map D.int)])
      | none => none
    | some (.dK kvs) => match keyInts kvs with
      | some ns => if ns.length < 64 then some (.ref h.length, h ++ [.lst ((sortI ns).map D.int)]) else none
      | none => none
    | _ => none := rfl
@[simp] theorem isi_n (t : Ty) : opIsi t .non h = some (.bl (isT .none t), h) := rfl
@[simp] theorem isi_b (t : Ty) : opIsi t (.bl k) h = some (.bl (isT .bool t), h) := rfl
@[simp] theorem isi_i (t : Ty) : opIsi t (.int i) h = some (.bl (isT .int t), h) := rfl
@[simp] theorem isi_s (t : Ty) : opIsi t (.str x) h = some (.bl (isT .str t), h) := rfl
@[simp] theorem isi_t (t : Ty) : opIsi t (.tup xs) h = some (.bl (isT .tuple t), h) := rfl
@[simp] theorem isi_f (t : Ty) : opIsi t (.fls xs) h = some (.bl (isT .list t), h) := rfl
@[simp] theorem isi_r (t : Ty) : opIsi t (.ref n) h = (match h[n]? with
    | some (.lst _) => some .list
    | some (.dK _) => some .dict
    | some (.dT _) => some .dict
    | _ => none : Option Ty).map fun u => (.bl (isT u t), h) := rfl
@[simp] theorem isL_r : isL (.ref n) h = (match h[n]? with
    | some (.lst _) => true
    | _ => false) := rfl
@[simp] theorem opAppend_r : opAppend (.ref n) [d] h = match h[n]? with
    | some (.lst xs) => if xs.length < sizeLine then some (.non, h.set n (.lst (xs ++ [d]))) else none
    | _ => none := rfl
@[simp] theorem opPop_r : opPop (.ref n) [] h = match h[n]? with
    | some (.lst xs) => match xs[xs.length - 1]? with
      | some y => some (y, h.set n (.lst xs.dropLast))
      | none => none
    | _ => none := rfl
@[simp] theorem opSetIx_i : opSetIx (.ref n) (.int i) d h = match h[n]? with
    | some (.lst xs) => (ixN xs.length i).map fun j => h.set n (.lst (xs.set j d))
    | some (.dK kvs) => if kvs.length < sizeLine then some (h.set n (.dK (putP kvs (.inl i) d))) else none
    | _ => none := by
  cases e : h[n]? with
  | none => simp [opSetIx, e]
  | some o => cases o <;> simp [opSetIx, e]
@[simp] theorem opSetIx_s : opSetIx (.ref n) (.str x) d h = match h[n]? with
    | some (.dK kvs) => if kvs.length < sizeLine then some (h.set n (.dK (putP kvs (.inr x) d))) else none
    | _ => none := by
  cases e : h[n]? with
  | none => simp [opSetIx, e]
  | some o => cases o <;> simp [opSetIx, e]
@[simp] theorem opSetIx_t : opSetIx (.ref n) (.tup xs) d h = match h[n]? with
    | some (.dT kvs) => match keysOf xs with
      | some ks => if isK xs = false ∧ kvs.length < sizeLine then some (h.set n (.dT (putP kvs ks d))) else none
      | none => none
    | _ => none := rfl
end
@[simp] theorem isT_ii : isT .int .int = true := rfl
@[simp] theorem isT_ib : isT .int .bool = false := rfl
@[simp] theorem isT_bi : isT .bool .int = true := rfl
@[simp] theorem isT_bb : isT .bool .bool = true := rfl
@[simp] theorem isT_it : isT .int .tuple = false := rfl
@[simp] theorem isT_tt : isT .tuple .tuple = true := rfl
@[simp] theorem isT_nt : isT .none .tuple = false := rfl
theorem forL_nil {g : TgM} {body : S} {gd : Option (Nat × O)} {env : Ev} {h : Hh} (hg : gdOk gd h) : forL g body gd [] env h = .nx env h := by
  unfold forL
  rw [if_pos hg]
theorem forL_nx {g : TgM} {body : S} {gd : Option (Nat × O)} {x : D} {xs : List D} {env env1 e' : Ev} {h h' : Hh} (hg : gdOk gd h) (e1 : g x h env = some env1) (e2 : body env1 h = .nx e' h') : forL g body gd (x :: xs) env h = forL g body gd xs e' h' := by
  rw [forL, if_pos hg, e1]
  dsimp only
  rw [e2]
theorem forL_rt {g : TgM} {body : S} {gd : Option (Nat × O)} {x d : D} {xs : List D} {env env1 : Ev} {h h' : Hh} (hg : gdOk gd h) (e1 : g x h env = some env1) (e2 : body env1 h = .rt d h') : forL g body gd (x :: xs) env h = .rt d h' := by
  rw [forL, if_pos hg, e1]
  dsimp only
  rw [e2]
/-- a loop that folds -/
theorem forL_fold {α σ : Type} {g : TgM} {body : S} {gd : Option (Nat × O)} (f : α → D) (upd : σ → α → σ) (Inv : σ → Ev → Hh → Prop) (hg : ∀ s env h, Inv s env h → gdOk gd h) (s0 : σ) (xs : List α) (env : Ev) (h : Hh) (h0 : Inv s0 env h)
    (step : ∀ pre a post env h, xs = pre ++ a :: post → Inv (pre.foldl upd s0) env h → ∃ env1, g (f a) h env = some env1 ∧ ∃ e' h', body env1 h = .nx e' h' ∧ Inv (upd (pre.foldl upd s0) a) e' h') :
    ∃ e' h', forL g body gd (xs.map f) env h = .nx e' h' ∧ Inv (xs.foldl upd s0) e' h' := by
  obtain ⟨e', h', eq, pre, post, hx, hp, i⟩ := forL_inv (g := g) (body := body) (gd := gd) (fun rest env h => ∃ pre post, xs = pre ++ post ∧ rest = post.map f ∧ Inv (pre.foldl upd s0) env h) (xs.map f) env h ⟨[], xs, rfl, rfl, h0⟩
    (fun _ _ _ ⟨_, _, _, _, i⟩ => hg _ _ _ i) (fun x rest env h ⟨pre, post, hx, hp, i⟩ => by
      cases post with
      | nil => cases hp
      | cons a post =>
        obtain ⟨rfl, rfl⟩ := List.cons.inj hp
        obtain ⟨env1, e1, e', h', q, i'⟩ := step pre a post env h hx i
        exact ⟨env1, e1, e', h', q, pre ++ [a], post, by rw [hx, List.append_assoc]; rfl, rfl, by rw [List.foldl_append]; exact i'⟩)
  refine ⟨e', h', eq, ?_⟩
  cases post with
  | nil =>
    rw [List.append_nil] at hx
    rw [hx]
    exact i
  | cons _ _ => cases hp
/-- 0, 1, .. below n -/
def upto (n : Nat) : List Int := (List.range n).map fun (i : Nat) => (i : Int)
theorem rngD_upto (n : Nat) : rngD 0 n = (upto n).map D.int := by
  unfold rngD upto
  rw [List.map_map]
  apply List.map_congr_left
  intro a _
  simp
theorem mem_upto {n : Nat} {x : Int} : x ∈ upto n ↔ 0 ≤ x ∧ x < n := by
  unfold upto
  simp only [List.mem_map, List.mem_range]
  constructor
  · rintro ⟨a, h, rfl⟩
    omega
  · rintro ⟨h1, h2⟩
    exact ⟨x.toNat, by omega, by omega⟩
theorem len_upto (n : Nat) : (upto n).length = n := by unfold upto; simp
/-! ### places behind a heap -/
section
variable (h : Hh) (a b c d : O)
@[simp] theorem hp_at1 : (h ++ [a])[h.length]? = some a := by simp
@[simp] theorem hp_at2 : (h ++ [a, b])[h.length]? = some a := by simp
@[simp] theorem hp_at2b : (h ++ [a, b])[h.length + 1]? = some b := by
  rw [List.getElem?_append_right (by omega)]
  simp
@[simp] theorem hp_set1 : (h ++ [a]).set h.length c = h ++ [c] := by simp
@[simp] theorem hp_set2 : (h ++ [a, b]).set h.length c = h ++ [c, b] := by simp
end
theorem cut_to {xs : List D} {n : Nat} : cutD xs none (some (n : Int)) = xs.take n := by
  unfold cutD
  rw [HT.sIx_none, HT.sIx_nat]
  simp only [List.drop_zero, Nat.sub_zero]
  by_cases h : n ≤ xs.length
  · rw [Nat.min_eq_left h]
  · rw [Nat.min_eq_right (by omega), List.take_of_length_le (Nat.le_refl _), List.take_of_length_le (by omega)]
theorem cut_from {xs : List D} {n : Nat} : cutD xs (some (n : Int)) none = xs.drop n := by
  unfold cutD
  rw [HT.sIx_none, HT.sIx_nat]
  by_cases h : n ≤ xs.length
  · rw [Nat.min_eq_left h, List.take_of_length_le (by simp)]
  · rw [Nat.min_eq_right (by omega), List.drop_of_length_le (Nat.le_refl _), List.drop_of_length_le (by omega)]
    simp
/-- an int's range -/
theorem rngD_nil (lo : Int) : rngD lo 0 = [] := rfl
theorem rngD_succ (lo : Int) (n : Nat) : rngD lo (n + 1) = .int lo :: rngD (lo + 1) n := by
  unfold rngD
  rw [List.range_succ_eq_map]
  simp only [List.map_cons, List.map_map]
  congr 1
  · simp
  · apply List.map_congr_left
    intro a _
    simp only [Function.comp]
    congr 1
    push_cast
    omega
@[simp] theorem b2i_t : b2i true = 1 := rfl
@[simp] theorem b2i_f : b2i false = 0 := rfl
theorem mulOk_r {i j : Int} (h1 : -18446744073709551616 < j) (h2 : j < 18446744073709551616) : mulOk i j = true := by
  unfold mulOk
  simp [h1, h2]
theorem mulOk_l {i j : Int} (h1 : -18446744073709551616 < i) (h2 : i < 18446744073709551616) : mulOk i j = true := by
  unfold mulOk
  simp [h1, h2]
end Sm
/-! SmH: comprehensions, range with a step, extend, all, any, sum, is True, += -/
namespace Sm
open PySem L2 PyProof.Rows

/-! ### the slots of a comprehension's own names -/
theorem wipe_get (σ : L2.St) (j : Nat) : ∀ vs : List Nat, (wipe σ vs)[j]? = if j ∈ vs then (σ[j]?).map (fun _ => none) else σ[j]?
  | [] => by simp [wipe]
  | v :: vs => by
    unfold wipe
    by_cases e : v = j
    · subst e
      have h0 : v ∈ v :: vs := by simp
      rw [if_pos h0]
      by_cases l : v < σ.length
      · rw [List.getElem?_set_self (by rw [wipe_length]; exact l), List.getElem?_eq_getElem l]; rfl
      · rw [List.getElem?_eq_none (by rw [List.length_set, wipe_length]; omega), List.getElem?_eq_none (by omega)]; rfl
    · have e' : ¬ j = v := fun z => e z.symm
      rw [List.getElem?_set_ne e, wipe_get σ j vs]
      simp [e']
theorem wipe_idem (σ : L2.St) (vs : List Nat) : wipe (wipe σ vs) vs = wipe σ vs := by
  apply List.ext_getElem?
  intro j
  rw [wipe_get, wipe_get]
  split
  · rw [Option.map_map]; rfl
  · rfl
theorem wipe_set {σ : L2.St} {vs : List Nat} {i : Nat} {x : Option V} (h : i ∈ vs) : wipe (σ.set i x) vs = wipe σ vs := by
  apply List.ext_getElem?
  intro j
  rw [wipe_get, wipe_get]
  split
  · by_cases e : i = j
    · subst e
      rw [List.getElem?_set, if_pos rfl]
      by_cases l : i < σ.length
      · rw [if_pos l, List.getElem?_eq_getElem l]; rfl
      · rw [if_neg l, List.getElem?_eq_none (by omega)]
    · rw [List.getElem?_set_ne e]
  · rename_i n
    rw [List.getElem?_set_ne (fun e => by subst e; exact n h)]
@[simp] def wipeE (env : Ev) : List Nat → Ev
  | [] => env
  | v :: vs => (wipeE env vs).set v none
theorem Re.wipe {K : PySem.W.Frag} {ρ : List Addr} {H : Hp} {σ : L2.St} {env : Ev} (r : Re K ρ H σ env) : ∀ vs : List Nat, Re K ρ H (L2.wipe σ vs) (wipeE env vs)
  | [] => r
  | v :: vs => by
    have r' := Re.wipe r vs
    unfold L2.wipe wipeE
    refine ⟨by rw [List.length_set, List.length_set, r'.len], fun i d e => ?_⟩
    by_cases q : v = i
    · subst q
      rw [List.getElem?_set, if_pos rfl] at e
      split at e <;> cases e
    · rw [List.getElem?_set_ne q] at e ⊢
      exact r'.get i d e
/-- a target that stores at these slots alone -/
def TgOkW (K : PySem.W.Frag) (G : Cl) (vs : List Nat) (g : TG) (s : TgM) : Prop := ∀ {ρ : List Addr} {H : Hp} {h : Hh} {σ : L2.St} {env env' : Ev} {v : V} {d : D} {Q : L2.St → Hp → Prop}, Rh K G ρ H h → Re K ρ H σ env → Rv K ρ H v d → s d h env = some env' → (∀ σ', Re K ρ H σ' env' → L2.wipe σ' vs = L2.wipe σ vs → Q σ' H) → g v σ H Q
theorem tgw_name {K : PySem.W.Frag} {G : Cl} {vs : List Nat} {i : Nat} (hi : i ∈ vs) : TgOkW K G vs (gName i) (gtName i) := fun {ρ H h σ env env' v d Q} hr he r e k => by
  cases e
  exact k _ (he.set r i) (wipe_set hi)
theorem names_impW {K : PySem.W.Frag} {vs : List Nat} {ρ : List Addr} {H : Hp} : ∀ {is : List Nat} {us : List V} {ds : List D} {σ : L2.St} {env : Ev} {Q : L2.St → Hp → Prop}, (∀ i ∈ is, i ∈ vs) → ds.length = is.length → Re K ρ H σ env → Rvs K ρ H us ds → (∀ σ', Re K ρ H σ' (setAll is ds env) → L2.wipe σ' vs = L2.wipe σ vs → Q σ' H) → gNames is us σ H Q
  | [], _, [], σ, env, Q, _, _, he, .nil, k => ⟨rfl, k σ he rfl⟩
  | i :: is, _, d :: ds, σ, env, Q, hv, l, he, .cons (v := v) (vs := us) r rs, k => ⟨v, us, rfl, names_impW (is := is) (fun j hj => hv j (by simp [hj])) (by simpa using l) (he.set r i) rs fun σ' a b => k σ' a (b.trans (wipe_set (hv i (by simp))))⟩
theorem tgw_tup {K : PySem.W.Frag} {G : Cl} {vs is : List Nat} {n : Nat} (hn : n = is.length) (hv : ∀ i ∈ is, i ∈ vs) : TgOkW K G vs (fun v σ H Q => gTup K n (gNames is) v σ H Q ∨ gLst K n (gNames is) v σ H Q) (gtTup is) := fun {ρ H h σ env env' v d Q} hr he r e k => by
  unfold gtTup at e
  split at e
  · rename_i ds e1
    split at e
    · rename_i hl
      cases e
      unfold partsOf at e1
      split at e1
      · cases e1
        obtain ⟨a, vs, rfl, t, r⟩ := r.sqT
        exact .inl ⟨a, vs, rfl, t, by rw [r.length, hl, hn], names_impW hv hl he r k⟩
      · cases e1
        cases r with
        | fls t r => exact .inr ⟨_, _, rfl, t.sq, by rw [r.length, hl, hn], names_impW hv hl he r k⟩
      · cases r with
        | ref ra =>
          split at e1
          · rename_i e0
            cases e1
            obtain ⟨vs, q, r⟩ := ref_seq hr ra e0
            exact .inr ⟨_, vs, rfl, q, by rw [r.length, hl, hn], names_impW hv hl he r k⟩
          · cases e1
      · cases e1
    · cases e
  · cases e

/-! ### [e for x in xs if t] -/
/-- within a comprehension nothing raises -/
abbrev WN : WX := fun _ _ _ _ => False
theorem Ct.blk {X : Cx} {W : WX} {k : Nat} (c : Ct X W k) (s : Shared) (H : Hp) (scope : Scope) (cenv : Env) (fp : List Addr) : Ct (X.blk s H scope cenv fp) WN k :=
  ⟨fun _ _ ⟨_, _, _, _, _, _, _, _, _, _, _, _, _, _, _, _, w⟩ => w.elim, PassesOwn.never, c.hr, c.hc, c.nd⟩
open Classical in
noncomputable def lcL (g : TgM) (t : MT) (m : M) (vs : List Nat) (n : Nat) (gd : Option (Nat × O)) (env : Ev) : List D → Hh → R D
  | [], h => if gdOk gd h then .ok (.ref n) h else .bad
  | x :: xs, h => if gdOk gd h then (match g x h (wipeE env vs) with
    | none => .bad
    | some env1 => match t env1 h with
      | .ok true h1 => (match m env1 h1 with
        | .ok d h2 => (match h2[n]? with
          | some (.lst acc) => if acc.length < sizeLine then lcL g t m vs n gd env xs (h2.set n (.lst (acc ++ [d]))) else .bad
          | _ => .bad)
        | _ => .bad)
      | .ok false h1 => lcL g t m vs n gd env xs h1
      | _ => .bad) else .bad
noncomputable def eLc (mi : Ev → Hh → R Src) (g : TgM) (t : MT) (m : M) (vs : List Nat) : M := fun env h => (mi env h).bind fun src h1 => lcL g t m vs h1.length src.2 env src.1 (h1 ++ [.lst []])
def tYesM : MT := fun _ h => .ok true h
section
variable {X : Cx} {G : Cl} {W : WX} {e a b c elt tg iter : Expr} {ifs es : List Expr} {pos p : Pos} {m mo : M} {ms : List M} {t : MT} {K : PySem.W.Frag} {ρ : List Addr} {H : Hp} {h : Hh} {σ : L2.St} {env : Ev} {D0 : Ends}
theorem lc_sound {wi : TI} {mi : Ev → Hh → R Src} {g : TG} {s : TgM} {tt : TT} {te : TE} {vs : List Nat} (oi : ItOk K G W wi mi) (ok : TgOkW K G vs g s) (ht : ∀ σ H Q, tT K G WN t σ H Q → tt σ H Q) (hte : ∀ σ H Q, tM K G WN m σ H Q → te σ H Q) (σ : L2.St) (H : Hp) (Q : VK)
    (q : tM K G W (eLc mi s t m vs) σ H Q) : tLc wi g tt te vs σ H Q := by
  obtain ⟨ρ, h, env, hr, he, p⟩ := q
  refine oi σ H _ (tG_mono (tG_bind hr he p) fun J H1 ⟨ρ1, h1, src, e1, hr1, he1, w, p1⟩ => fun L hL => ?_)
  obtain ⟨xs, gd⟩ := src
  dsimp only at w p1
  have hr2 := Rh.new (o := .lst []) hr1 hL (Ro.lst upd_same .nil)
  have hx2 : Ex K ρ1 H1 (ρ1 ++ [L]) (upd H1 L (.lst [])) := Ex.push hL
  have hn : (ρ1 ++ [L])[h1.length]? = some L := by rw [← hr1.len]; exact get_push_eq
  generalize h1.length = n at hn p1
  refine ⟨fun i k H' => i ≤ xs.length ∧ k = xs.length - i ∧ ∃ ρ' h', Ex K ρ1 H1 ρ' H' ∧ Rh K G ρ' H' h' ∧ ρ'[n]? = some L ∧ Re K ρ' H' σ env ∧ Po K G (relV K) W ρ' H' σ (lcL s t m vs n gd env (xs.drop i) h') Q, ⟨_, Nat.zero_le _, rfl, _, _, hx2, hr2, hn, he1.mono hx2, p1.shift hx2⟩, ?_⟩
  rintro i k H' ⟨hi, rfl, ρ', h', ex, hr', hn', he', p'⟩
  by_cases hlt : i < xs.length
  · rw [List.drop_eq_getElem_cons hlt] at p'
    unfold lcL at p'
    split at p'
    · rename_i hg
      refine .inr ⟨w.go i ρ' H' h' hr' ex hg hlt, fun H'' => ∃ ρ2 h2, Ex K ρ' H' ρ2 H'' ∧ Rh K G ρ2 H'' h2 ∧ Po K G (relV K) W ρ2 H'' σ (lcL s t m vs n gd env (xs.drop (i + 1)) h2) Q, fun H'' ⟨ρ2, h2, e2, r2, p2⟩ => ⟨_, by omega, hlt, rfl, ρ2, h2, ex.trans e2, r2, e2.pre _ _ hn', he'.mono e2, p2⟩, fun x H'' y => ?_⟩
      obtain ⟨rfl, rx⟩ := w.yld i ρ' H' h' x H'' hr' ex hg y xs[i] (by simp [hlt])
      split at p'
      · exact p'.elim
      · rename_i env2 q2
        refine ok hr' (he'.wipe vs) rx q2 fun σ2 he2 hw => ⟨hw.trans (wipe_idem σ vs), ?_⟩
        refine ht σ2 _ _ ⟨ρ', h', env2, hr', he2, ?_⟩
        split at p'
        · rename_i h3 q3
          rw [q3]
          intro ρ3 H3 b e3 r3 hb
          subst hb
          simp only [if_true]
          refine hte σ2 _ _ ⟨ρ3, h3, env2, r3, he2.mono e3, ?_⟩
          split at p'
          · rename_i d h4 q4
            rw [q4]
            intro ρ4 H4 v e4 r4 rv
            split at p'
            · rename_i acc q5
              split at p'
              · rename_i hl
                have hn4 : ρ4[n]? = some L := e4.pre _ _ (e3.pre _ _ hn')
                obtain ⟨us, k1, k2⟩ := ref_lst r4 hn4 q5
                have e5 : Ex K ρ4 H4 ρ4 (upd H4 L (.lst (us ++ [v]))) := Ex.write r4 hn4 q5
                refine ⟨us, k1, by rw [k2.length]; exact hl, ρ4, _, (e3.trans e4).trans e5, r4.write hn4 q5 (.lst upd_same ((k2.append (.cons rv .nil)).mono e5)), p'.shift ((e3.trans e4).trans e5)⟩
              · exact p'.elim
            · exact p'.elim
          · exact p'.elim
        · rename_i h3 q3
          rw [q3]
          intro ρ3 H3 b e3 r3 hb
          subst hb
          simp only [Bool.false_eq_true, if_false]
          exact ⟨ρ3, h3, e3, r3, p'.shift e3⟩
        · exact p'.elim
    · exact p'.elim
  · have hl : i = xs.length := by omega
    subst hl
    rw [List.drop_length] at p'
    unfold lcL at p'
    split at p'
    · rename_i hg
      exact .inl ⟨w.stop ρ' H' h' hr' ex hg, p' ρ' H' _ Ex.refl hr' (.ref hn')⟩
    · exact p'.elim
theorem se_lc {scope : Scope} {own : List (Str × Nat)} {wi : TI} {mi : Ev → Hh → R Src} {g : TG} {s : TgM} {tt : TT} (hc : X.calm = true) (hN : X.N.Nodup) (hi : PI X tg iter wi) (oi : ItOk X.K G W wi mi) (bk : BlkOk X.N X.env.scope scope own)
    (hg : ∀ (s : Shared) (H : Hp) (C : Addr) (cl : List (Str × Addr)) (fp : List Addr), PG (X.blk s H scope (compEnvC scope cl C X.env) fp) tg g) (ok : TgOkW X.K G (own.map (·.2)) g s)
    (ht : ∀ (s : Shared) (H : Hp) (C : Addr) (cl : List (Str × Addr)) (fp : List Addr), PTs (X.blk s H scope (compEnvC scope cl C X.env) fp) ifs tt) (htt : ∀ σ H Q, tT X.K G WN t σ H Q → tt σ H Q)
    (he : ∀ (s : Shared) (H : Hp) (C : Addr) (cl : List (Str × Addr)) (fp : List Addr), PE (X.blk s H scope (compEnvC scope cl C X.env) fp) elt (tM X.K G WN m)) (hs : ∀ x, foldedSetIterable iter X.env x = pure x := by intro _; rfl) :
    PE X (.ListComp elt [⟨tg, iter, ifs, 0⟩] scope pos) (tM X.K G W (eLc mi s t m (own.map (·.2)))) :=
  peImp (pe_lc hc hN hi bk hg ht he hs) fun σ H Q q => lc_sound oi ok htt (fun _ _ _ z => z) σ H Q q
theorem s_setLc {i : Nat} {y : Str} {py spos : Pos} {scope : Scope} {own : List (Str × Nat)} {wi : TI} {mi : Ev → Hh → R Src} {g : TG} {s : TgM} {tt : TT} (hc : X.calm = true) (hN : X.N.Nodup)
    (hsw : swapsWith (.ListComp elt [⟨tg, iter, ifs, 0⟩] scope pos) (some (.Name y py)) spos.line X.env = pure true) (hi : PI X tg iter wi) (oi : ItOk X.K G W wi mi) (bk : BlkOk X.N X.env.scope scope own)
    (hg : ∀ (s : Shared) (H : Hp) (C : Addr) (cl : List (Str × Addr)) (fp : List Addr), PG (X.blk s H scope (compEnvC scope cl C X.env) fp) tg g) (ok : TgOkW X.K G (own.map (·.2)) g s)
    (ht : ∀ (s : Shared) (H : Hp) (C : Addr) (cl : List (Str × Addr)) (fp : List Addr), PTs (X.blk s H scope (compEnvC scope cl C X.env) fp) ifs tt) (htt : ∀ σ H Q, tT X.K G WN t σ H Q → tt σ H Q)
    (he : ∀ (s : Shared) (H : Hp) (C : Addr) (cl : List (Str × Addr)) (fp : List Addr), PE (X.blk s H scope (compEnvC scope cl C X.env) fp) elt (tM X.K G WN m)) (hs : ∀ x, foldedSetIterable iter X.env x = pure x := by intro _; rfl)
    (hy : X.N[i]? = some y := by rfl) (hyl : X.env.scope.names.lookup y = some .local := by rfl) :
    PS X (.Assign [.Name y py] (.ListComp elt [⟨tg, iter, ifs, 0⟩] scope pos) spos) (tS X.K G W (sSet i (eLc mi s t m (own.map (·.2))))) :=
  psImp (ps_setLc hc hN hy hyl hsw hi bk hg ht he hs) fun D0 σ H q => by
    obtain ⟨ρ, h, env, hr, he, p⟩ := q
    refine lc_sound oi ok htt (fun _ _ _ z => z) σ H _ (tG_mono (tS_bind (rel := relV X.K) hr he p) fun x H1 ⟨ρ1, h1, d, e1, hr1, he1, r1, p1⟩ => ?_)
    exact p1.nx_ hr1 (he1.set r1 i)
theorem inBlkE {k : Nat} {s : Shared} {H : Hp} {scope : Scope} {cenv : Env} {fp : List Addr} {t : TE} (c : Ct X W k) (f : Ct (X.blk s H scope cenv fp) WN k → PE (X.blk s H scope cenv fp) e t) : PE (X.blk s H scope cenv fp) e t := f (c.blk _ _ _ _ _)
theorem inBlkT {k : Nat} {s : Shared} {H : Hp} {scope : Scope} {cenv : Env} {fp : List Addr} {t : TT} (c : Ct X W k) (f : Ct (X.blk s H scope cenv fp) WN k → PT (X.blk s H scope cenv fp) e t) : PTs (X.blk s H scope cenv fp) [e] t := pts_one (f (c.blk _ _ _ _ _))
theorem yes_imp : ∀ σ H Q, tT K G WN tYesM σ H Q → tYes σ H Q := fun σ H Q ⟨ρ, h, env, hr, he, p⟩ => p ρ H true Ex.refl hr rfl
end
/-! ### range with a step -/
def rngS (lo c : Int) (n : Nat) : List D := (List.range n).map fun (i : Nat) => D.int (lo + (i : Int) * c)
def okR3 (i j c : Int) : Bool := decide (c ≠ 0) && decide (c.natAbs < 1073741824) && PySem.Builtin.Range.small i j c
def cntR3 (i j c : Int) : Nat := (PySem.Builtin.Range.rangeSize i j c).toNat
def mRng3 (ma mb mc : M) : Ev → Hh → R Src := fun env h => (ma env h).bind fun d h1 => (mb env h1).bind fun e h2 => (mc env h2).bind fun f h3 => match d, e, f with
  | .int i, .int j, .int c => if okR3 i j c = true then .ok (rngS i c (cntR3 i j c), none) h3 else .bad
  | _, _, _ => .bad
section
variable {X : Cx} {G : Cl} {W : WX} {K : PySem.W.Frag} {ρ : List Addr} {H : Hp} {h : Hh} {σ : L2.St} {env : Ev}
theorem walks_rngS {lo c : Int} {n : Nat} : Walks K G ρ H (Itc lo c n) (rngS lo c n) none := by
  have hl : (rngS lo c n).length = n := by unfold rngS; simp
  refine ⟨fun i ρ' H' h' hr e _ hi => by rw [hl] at hi; exact hi, fun i ρ' H' h' x H2 hr e _ y d hd => ?_, fun ρ' H' h' hr e _ => by rw [hl]; exact Nat.le_refl _⟩
  obtain ⟨rfl, rfl⟩ := y
  unfold rngS at hd
  rw [List.getElem?_map] at hd
  cases q : (List.range n)[i]? with
  | none => rw [q] at hd; cases hd
  | some j =>
    rw [q] at hd
    cases hd
    obtain ⟨h1, h2⟩ := List.getElem?_eq_some_iff.mp q
    simp at h2
    subst h2
    exact ⟨rfl, .int _⟩
theorem io_rng3 {ma mb mc : M} : ItOk K G W (iRng3 (tL K G W (evs [ma, mb, mc]))) (mRng3 ma mb mc) := fun σ H R0 t => by
  obtain ⟨ρ, h, env, hr, he, p⟩ := t
  refine ⟨ρ, h, env, hr, he, ?_⟩
  unfold mRng3 at p
  show Po K G _ W ρ H σ ((ma env h).bind fun d h1 => ((mb env h1).bind fun d2 h2 => ((mc env h2).bind fun d3 h3 => (evs [] env h3).bind fun ds h4 => .ok (d3 :: ds) h4).bind fun ds h3 => .ok (d2 :: ds) h3).bind fun ds h2 => .ok (d :: ds) h2) _
  cases q : ma env h with
  | bad => rw [q] at p; exact p.elim
  | exc c fs h' => rw [q] at p; exact p
  | ok d h1 =>
    rw [q] at p
    simp only [R.bind_ok] at p ⊢
    cases q2 : mb env h1 with
    | bad => rw [q2] at p; exact p.elim
    | exc c fs h' => rw [q2] at p; exact p
    | ok d2 h2 =>
      rw [q2] at p
      simp only [R.bind_ok] at p ⊢
      cases q3 : mc env h2 with
      | bad => rw [q3] at p; exact p.elim
      | exc c fs h' => rw [q3] at p; exact p
      | ok d3 h3 =>
        rw [q3] at p
        simp only [R.bind_ok] at p ⊢
        split at p
        · rename_i i j c
          split at p
          · rename_i hj
            intro ρ' H' vs e a b
            cases b with
            | cons b1 b2 =>
              cases b2 with
              | cons b2 b3 =>
                cases b3 with
                | cons b3 b4 =>
                  cases b1; cases b2; cases b3; cases b4
                  unfold okR3 at hj
                  simp only [Bool.and_eq_true, decide_eq_true_eq] at hj
                  exact ⟨i, j, c, cntR3 i j c, rfl, ⟨hj.1.1, hj.1.2, hj.2, rangeSize_toNat i j c⟩, p ρ' H' _ e a walks_rngS⟩
          · exact p.elim
        · exact p.elim
end
/-! ### all, any, sum -/
def bools : List D → Option (List Bool)
  | [] => some []
  | .bl b :: r => (bools r).map (b :: ·)
  | _ :: _ => none
theorem bools_eq {K : PySem.W.Frag} {ρ : List Addr} {H : Hp} : ∀ {vs : List V} {ds : List D} {bs : List Bool}, Rvs K ρ H vs ds → bools ds = some bs → vs = bs.map V.bl
  | _, _, _, .nil, e => by cases e; rfl
  | _, _, bs, .cons (d := .bl b) h t, e => by
    simp only [bools, Option.map_eq_some_iff] at e
    obtain ⟨ms, e1, rfl⟩ := e
    cases h
    rw [List.map_cons, ← bools_eq t e1]
  | _, _, _, .cons (d := .non) h t, e => by simp [bools] at e
  | _, _, _, .cons (d := .int _) h t, e => by simp [bools] at e
  | _, _, _, .cons (d := .str _) h t, e => by simp [bools] at e
  | _, _, _, .cons (d := .tup _) h t, e => by simp [bools] at e
  | _, _, _, .cons (d := .fls _) h t, e => by simp [bools] at e
  | _, _, _, .cons (d := .ref _) h t, e => by simp [bools] at e
def opAll : List D → Hh → Option (D × Hh)
  | [.ref n], h => match h[n]? with
    | some (.lst ds) => (bools ds).map fun bs => (.bl (bs.all id), h)
    | _ => none
  | _, _ => none
def opAny : List D → Hh → Option (D × Hh)
  | [.ref n], h => match h[n]? with
    | some (.lst ds) => (bools ds).map fun bs => (.bl (bs.any id), h)
    | _ => none
  | _, _ => none
def opSum : List D → Hh → Option (D × Hh)
  | [.ref n], h => match h[n]? with
    | some (.lst ds) => (intsOf ds).map fun ns => (.int ns.sum, h)
    | _ => none
  | _, _ => none
section
variable {X : Cx} {G : Cl} {W : WX} {e o a b c : Expr} {es : List Expr} {pos p : Pos} {m mo : M} {ms : List M} {K : PySem.W.Frag}
theorem im_all : ImpN K G (rAll K) opAll := fun {ρ H h xs ds d h' Q} hr rs e k => by
  unfold opAll at e
  split at e
  · obtain ⟨v, rfl, r⟩ := rs.one
    cases r with
    | ref ra =>
      split at e
      · rename_i zs e0
        rw [Option.map_eq_some_iff] at e
        obtain ⟨bs, e1, e2⟩ := e
        cases e2
        obtain ⟨vs, q, r2⟩ := ref_seq hr ra e0
        rw [bools_eq r2 e1] at q
        exact ⟨_, bs, rfl, q, k _ _ _ Ex.refl hr (.bl _)⟩
      · cases e
  · cases e
theorem im_any : ImpN K G (rAny K) opAny := fun {ρ H h xs ds d h' Q} hr rs e k => by
  unfold opAny at e
  split at e
  · obtain ⟨v, rfl, r⟩ := rs.one
    cases r with
    | ref ra =>
      split at e
      · rename_i zs e0
        rw [Option.map_eq_some_iff] at e
        obtain ⟨bs, e1, e2⟩ := e
        cases e2
        obtain ⟨vs, q, r2⟩ := ref_seq hr ra e0
        rw [bools_eq r2 e1] at q
        exact ⟨_, bs, rfl, q, k _ _ _ Ex.refl hr (.bl _)⟩
      · cases e
  · cases e
theorem im_sum : ImpN K G (rSum K) opSum := fun {ρ H h xs ds d h' Q} hr rs e k => by
  unfold opSum at e
  split at e
  · obtain ⟨v, rfl, r⟩ := rs.one
    cases r with
    | ref ra =>
      split at e
      · rename_i zs e0
        rw [Option.map_eq_some_iff] at e
        obtain ⟨bs, e1, e2⟩ := e
        cases e2
        obtain ⟨vs, q, r2⟩ := ref_seq hr ra e0
        have := intsOf_eq e1
        subst this
        rw [r2.ints] at q
        exact ⟨_, bs, rfl, q, k _ _ _ Ex.refl hr (.int _)⟩
      · cases e
  · cases e
/-! ### is True -/
def opIsB : D → D → Hh → Option (D × Hh)
  | .bl a, .bl b, h => some (.bl (decide (a = b)), h)
  | _, _, _ => none
theorem im_isB : Imp2 K G (fun x y H Q => ∃ a b : Bool, x = .bl a ∧ y = .bl b ∧ Q (.bl (decide (a = b))) H) opIsB := fun {ρ H h x y dx dy d h' Q} hr rx ry e k => by
  cases rx <;> cases ry <;> simp only [opIsB] at e <;> cases e
  exact ⟨_, _, rfl, rfl, k _ _ _ Ex.refl hr (.bl _)⟩
theorem se_isB {ma mb : M} {a b : Expr} (hu : X.A.units + 64 < cLine) (ha : PE X a (tM X.K G W ma)) (hb : PE X b (tM X.K G W mb)) : PE X (.Compare a [.Is] [b] pos) (tM X.K G W (eB opIsB ma mb)) := se_cmp op_is_bl im_isB ha hb (nomark _)
theorem st_isB {ma mb : M} {a b : Expr} (hu : X.A.units + 64 < cLine) (ha : PE X a (tM X.K G W ma)) (hb : PE X b (tM X.K G W mb)) : PT X (.Compare a [.Is] [b] pos) (tT X.K G W (tBl (eB opIsB ma mb))) := st_cmp op_is_bl im_isB ha hb (nomark _)
/-! ### += of numbers -/
def opIAddI : D → D → Hh → Option (D × Hh)
  | .int a, .int b, h => some (.int (a + b), h)
  | _, _, _ => none
theorem im_iaddI : Imp2 K G (rI0 fun i j => .int (i + j)) opIAddI := fun {ρ H h x y dx dy d h' Q} hr rx ry e k => by
  cases rx <;> cases ry <;> simp only [opIAddI] at e <;> cases e
  exact ⟨_, _, rfl, rfl, k _ _ _ Ex.refl hr (.int _)⟩
/-! ### extend -/
def opExtend : D → List D → Hh → Option (D × Hh)
  | .ref n, [.ref k], h => match h[n]?, h[k]? with
    | some (.lst xs), some (.lst ys) => if xs.length + ys.length ≤ sizeLine then some (.non, h.set n (.lst (xs ++ ys))) else none
    | _, _ => none
  | _, _, _ => none
theorem im_extend : ImpM K G rExtend opExtend := fun {ρ H h x o xs ds d h' Q} hr ro rs e k => by
  unfold opExtend at e
  split at e
  · cases ro with
    | ref ra =>
      obtain ⟨v, rfl, r⟩ := rs.one
      cases r with
      | ref rb =>
        split at e
        · rename_i zs ys e0 e1
          split at e
          · rename_i hl
            cases e
            obtain ⟨vs, q, r2⟩ := ref_lst hr ra e0
            obtain ⟨us, q1, r3⟩ := ref_lst hr rb e1
            exact ⟨_, _, vs, us, rfl, rfl, q, q1, by rw [r2.length, r3.length]; exact hl, wr_lst hr ra e0 (r2.append r3) .non k⟩
          · cases e
        · cases e
  · cases e
theorem se_extend (ho : PE X o (tM X.K G W mo)) (ha : PA X (e :: es) (tL X.K G W (evs ms))) {apos : Pos} (hbase : attributeBase o "extend" X.env (eval o X.env) = eval o X.env := by rfl)
    (hfew : ((backTo pos (starEach (e :: es) X.env)).all (fun x => !x.1) && (backToKw pos (keywordEach [] X.env)).all (fun x => x.1.isSome)
      && decide ((e :: es).length + ([] : List Keyword).length + (if ([] : List Keyword).isEmpty then 0 else 1) < 30)) = true := by rfl)
    (hline : (apos.endLine == pos.line) = true := by rfl) (hs : starEach (e :: es) X.env = (false, eval e X.env) :: starEach es X.env := by rfl) (hplain : (backTo pos (starEach es X.env)).any (·.1) = false := by rfl) :
    PE X (.Call (.Attribute o "extend" apos) (e :: es) [] pos) (tM X.K G W (eMt opExtend mo ms)) :=
  peImp (pe_bm PySem.F.plainAttrs_list PySem.F.slot_list_extend PySem.F.type_list_extend mt_extend ho ha hbase hfew hline hs hplain) fun σ H Q t => mt_imp im_extend σ H Q t
end
end Sm
/-! SmI: running the mirrors of SmH -/
namespace Sm
open PySem L2 PyProof.Rows
section
variable (env : Ev) (h : Hh) (f g : D → D → Hh → Option (D × Hh)) (a b c m : M) (d e : D) (ds xs ys : List D) (i j k n : Nat) (s1 s2 : S) (t u : MT) (tg : TgM) (vs : List Nat) (mi : Ev → Hh → R Src) (src : Src)
noncomputable def eLc1 (env : Ev) (r : R Src) : R D := r.bind fun src h1 => lcL tg t m vs h1.length src.2 env src.1 (h1 ++ [.lst []])
@[simp] theorem eLc_eq : eLc mi tg t m vs env h = eLc1 m t tg vs env (mi env h) := rfl
@[simp] theorem eLc1_ok : eLc1 m t tg vs env (.ok src h) = lcL tg t m vs h.length src.2 env src.1 (h ++ [.lst []]) := rfl
@[simp] theorem tYesM_eq : tYesM env h = .ok true h := rfl
def mRng31 (env : Ev) (r : R D) : R Src := r.bind fun d h1 => (b env h1).bind fun e h2 => (c env h2).bind fun f h3 => match d, e, f with
  | .int i, .int j, .int c => if okR3 i j c = true then .ok (rngS i c (cntR3 i j c), none) h3 else .bad
  | _, _, _ => .bad
def mRng32 (env : Ev) (d : D) (r : R D) : R Src := r.bind fun e h2 => (c env h2).bind fun f h3 => match d, e, f with
  | .int i, .int j, .int c => if okR3 i j c = true then .ok (rngS i c (cntR3 i j c), none) h3 else .bad
  | _, _, _ => .bad
def mRng33 (d e : D) (r : R D) : R Src := r.bind fun f h3 => match d, e, f with
  | .int i, .int j, .int c => if okR3 i j c = true then .ok (rngS i c (cntR3 i j c), none) h3 else .bad
  | _, _, _ => .bad
@[simp] theorem mRng3_eq : mRng3 a b c env h = mRng31 b c env (a env h) := rfl
@[simp] theorem mRng31_ok : mRng31 b c env (.ok d h) = mRng32 c env d (b env h) := rfl
@[simp] theorem mRng32_ok : mRng32 c env d (.ok e h) = mRng33 d e (c env h) := rfl
@[simp] theorem mRng33_ok (x y z : Int) : mRng33 (.int x) (.int y) (.ok (.int z) h) = if okR3 x y z = true then .ok (rngS x z (cntR3 x y z), none) h else .bad := rfl
@[simp] theorem opAll_r : opAll [.ref n] h = match h[n]? with
    | some (.lst ds) => (bools ds).map fun bs => (.bl (bs.all id), h)
    | _ => none := rfl
@[simp] theorem opAny_r : opAny [.ref n] h = match h[n]? with
    | some (.lst ds) => (bools ds).map fun bs => (.bl (bs.any id), h)
    | _ => none := rfl
@[simp] theorem opSum_r : opSum [.ref n] h = match h[n]? with
    | some (.lst ds) => (intsOf ds).map fun ns => (.int ns.sum, h)
    | _ => none := rfl
@[simp] theorem opIsB_bb (p q : Bool) : opIsB (.bl p) (.bl q) h = some (.bl (decide (p = q)), h) := rfl
@[simp] theorem opIAddI_ii (x y : Int) : opIAddI (.int x) (.int y) h = some (.int (x + y), h) := rfl
@[simp] theorem opExtend_rr : opExtend (.ref n) [.ref k] h = match h[n]?, h[k]? with
    | some (.lst xs), some (.lst ys) => if xs.length + ys.length ≤ sizeLine then some (.non, h.set n (.lst (xs ++ ys))) else none
    | _, _ => none := rfl
end
/-- a comprehension that changes nothing -/
theorem lcL_pure {g : TgM} {t : MT} {m : M} {vs : List Nat} {gd : Option (Nat × O)} {env : Ev} (h : Hh) (f : D → D) (hg : ∀ acc, gdOk gd (h ++ [.lst acc])) : ∀ (xs acc : List D),
    (∀ x ∈ xs, ∀ acc, ∃ env1, g x (h ++ [.lst acc]) (wipeE env vs) = some env1 ∧ t env1 (h ++ [.lst acc]) = .ok true (h ++ [.lst acc]) ∧ m env1 (h ++ [.lst acc]) = .ok (f x) (h ++ [.lst acc])) →
    acc.length + xs.length ≤ sizeLine → lcL g t m vs h.length gd env xs (h ++ [.lst acc]) = .ok (.ref h.length) (h ++ [.lst (acc ++ xs.map f)])
  | [], acc, _, _ => by
    unfold lcL
    rw [if_pos (hg acc)]
    simp
  | x :: xs, acc, hx, hl => by
    obtain ⟨env1, e1, e2, e3⟩ := hx x (by simp) acc
    rw [List.length_cons] at hl
    unfold lcL
    rw [if_pos (hg acc), e1]
    dsimp only
    rw [e2]
    dsimp only
    rw [e3]
    simp only [hp_at1]
    rw [if_pos (by omega)]
    have := lcL_pure h f hg xs (acc ++ [f x]) (fun y hy => hx y (by simp [hy])) (by simp; omega)
    simpa using this
/-- a comprehension, by what holds of the rest and of the list so far -/
theorem lcL_inv {g : TgM} {t : MT} {m : M} {vs : List Nat} {n : Nat} {gd : Option (Nat × O)} {env : Ev} (I : List D → List D → Hh → Prop)
    (hg : ∀ rest acc h, I rest acc h → gdOk gd h)
    (step : ∀ x rest acc h, I (x :: rest) acc h → ∃ env1 d h2, g x h (wipeE env vs) = some env1 ∧ t env1 h = .ok true h ∧ m env1 h = .ok d h2 ∧ h2[n]? = some (.lst acc) ∧ acc.length < sizeLine ∧ I rest (acc ++ [d]) (h2.set n (.lst (acc ++ [d])))) :
    ∀ (xs acc : List D) (h : Hh), I xs acc h → ∃ acc' h', lcL g t m vs n gd env xs h = .ok (.ref n) h' ∧ I [] acc' h'
  | [], acc, h, i => by
    refine ⟨acc, h, ?_, i⟩
    unfold lcL
    rw [if_pos (hg _ _ _ i)]
  | x :: xs, acc, h, i => by
    obtain ⟨env1, d, h2, e1, e2, e3, e4, hl, i'⟩ := step x xs acc h i
    obtain ⟨acc', h', e, j⟩ := lcL_inv I hg step xs _ _ i'
    refine ⟨acc', h', ?_, j⟩
    unfold lcL
    rw [if_pos (hg _ _ _ i), e1]
    dsimp only
    rw [e2]
    dsimp only
    rw [e3]
    dsimp only
    rw [e4]
    dsimp only
    rw [if_pos hl]
    exact e
theorem inR_ok {i : Int} (h0 : -2000000 ≤ i) (h1 : i ≤ 2000000) : inR i = true := Nat.ble_eq_true_of_le (by omega)
theorem rngS_succ (lo c : Int) (n : Nat) : rngS lo c (n + 1) = .int lo :: rngS (lo + c) c n := by
  unfold rngS
  rw [List.range_succ_eq_map, List.map_cons, List.map_map]
  congr 1
  · simp
  · apply List.map_congr_left
    intro a _
    simp only [Function.comp]
    congr 1
    rw [Nat.succ_eq_add_one, Int.natCast_add, Int.add_mul]
    simp
    omega
theorem rngS_zero (lo c : Int) : rngS lo c 0 = [] := rfl
end Sm
/-! SmPool: the drawing functions that many laws share, once. -/
namespace SmPool
open PySem L2 PyProof.Rows Sm
noncomputable def b__law_pool_2 : S := (sIf (tBl (eB opGt (eV 4) (eC (.int 0)))) (sSeq (sExpr (eMt opAppend (eV 1) [(eB opMod (eN opInt [(eV 4)]) (eC (.int 1000)))]))
    (sSet 4 (eB opFdiv (eV 4) (eC (.int 1000))))) sSkip)
noncomputable def b__law_pool_1 : S := (sSeq (sSet 4 (eB opMod (eN opInt [(eB opAdd (eB opMul (eC (.int 2)) (eN opAbs [(eN opInt [(eV 3)])])) (eN opInt [(eB opLt (eV 3) (eC (.int 0)))]))]) (eB opPow (eC (.int 10)) (eC (.int 60)))))
    (sSeq (sSet 2 (eB opMod (eN opInt [(eB opAdd (eB opAdd (eB opMul (eV 2) (eC (.int 48271))) (eV 4)) (eC (.int 11)))]) (eC (.int 2147483647))))
    (sSeq (sIf (tBl (eB opLt (eV 4) (eB opPow (eC (.int 10)) (eC (.int 18))))) (sSeq (sExpr (eMt opAppend (eV 1) [(eB opFdiv (eB opMod (eN opInt [(eB opMul (eV 2) (eC (.int 742938285)))]) (eC (.int 2147483399))) (eC (.int 64)))]))
    (sSet 4 (eC (.int 0)))) sSkip)
    (sFor (mRng1 (eC (.int 20))) (gtName 5) b__law_pool_2))))
noncomputable def b__law_pool : S := (sSeq (sSet 1 (eLst []))
    (sSeq (sSet 2 (eC (.int 7)))
    (sSeq (sFor (mSeq (eSl (eV 0) none (some (eC (.int 63))))) (gtName 3) b__law_pool_1)
    (sRet (eB opAdd (eLst [(eV 2)]) (eU opRev (eV 1)))))))
noncomputable def m__law_pool : Fm := fnM 6 b__law_pool
noncomputable def b__law_take : S := (sSeq (sIf (tBl (eB opGt (eN opLen [(eV 0)]) (eC (.int 1)))) (sRet (eB opMod (eN opInt [(eMt opPop (eV 0) [])]) (eV 1))) sSkip)
    (sSeq (sSetIx (eV 0) (eC (.int 0)) (eB opMod (eN opInt [(eB opAdd (eB opMul (eB opIx (eV 0) (eC (.int 0))) (eC (.int 48271))) (eC (.int 11)))]) (eC (.int 2147483647))))
    (sRet (eB opMod (eN opInt [(eB opFdiv (eB opMod (eN opInt [(eB opMul (eB opIx (eV 0) (eC (.int 0))) (eC (.int 742938285)))]) (eC (.int 2147483399))) (eC (.int 64)))]) (eV 1)))))
noncomputable def m__law_take : Fm := fnM 2 b__law_take
noncomputable def b__law_wide : S := (sRet (eB opMod (eN opInt [(eB opAdd (eB opMul (eCall m__law_take [(eV 0), (eC (.int 1000))]) (eC (.int 1000))) (eCall m__law_take [(eV 0), (eC (.int 1000))]))]) (eV 1)))
noncomputable def m__law_wide : Fm := fnM 2 b__law_wide
noncomputable def b__law_edge : S := (sSeq (sSet 2 (eCall m__law_take [(eV 0), (eC (.int 6))]))
    (sSeq (sIf (tBl (eB opEq (eV 2) (eC (.int 0)))) (sRet (eC (.int 0))) sSkip)
    (sSeq (sIf (tBl (eB opEq (eV 2) (eC (.int 1)))) (sRet (eV 1)) sSkip)
    (sSeq (sIf (tBl (eB opEq (eV 2) (eC (.int 2)))) (sRet (eN opMax [(eC (.int 0)), (eB opSub (eV 1) (eCall m__law_take [(eV 0), (eC (.int 3))]))])) sSkip)
    (sSeq (sIf (tBl (eB opEq (eV 2) (eC (.int 3)))) (sRet (eN opMin [(eV 1), (eCall m__law_take [(eV 0), (eC (.int 8))])])) sSkip)
    (sRet (eCall m__law_wide [(eV 0), (eB opAdd (eV 1) (eC (.int 1)))])))))))
noncomputable def m__law_edge : Fm := fnM 3 b__law_edge
/-- a pool stands at n -/
def Pl (h : Hh) (n : Nat) : Prop := ∃ p : List Int, p ≠ [] ∧ p.length ≤ 2000 ∧ h[n]? = some (.lst (p.map D.int))
theorem take_spec {h : Hh} {n : Nat} {m : Int} {p : List Int} (hp : p ≠ []) (hl : p.length ≤ 2000) (e : h[n]? = some (.lst (p.map D.int))) (hm : 0 < m) :
    ∃ (r : Int) (q : List Int), q ≠ [] ∧ q.length ≤ 2000 ∧ 0 ≤ r ∧ r < m ∧ m__law_take [.ref n, .int m] h = .ok (.int r) (h.set n (.lst (q.map D.int))) := by
  obtain ⟨hn, e'⟩ := List.getElem?_eq_some_iff.mp e
  by_cases hlen : 1 < p.length
  · have hlen' : (1 : Int) < (p.length : Int) := by omega
    obtain ⟨y, hy⟩ : ∃ y, p[p.length - 1]? = some y := ⟨p[p.length - 1], by simp⟩
    refine ⟨y % m, p.dropLast, ?_, ?_, Int.emod_nonneg _ (by omega), Int.emod_lt_of_pos _ hm, ?_⟩
    · intro z
      have := congrArg List.length z
      simp at this
      omega
    · simp; omega
    · simp [m__law_take, b__law_take, e, hlen', hy, hm]
  · cases p with
    | nil => exact absurd rfl hp
    | cons x p =>
      have hp0 : p = [] := by
        cases p with
        | nil => rfl
        | cons _ _ => simp at hlen
      subst hp0
      refine ⟨(((x * 48271 + 11) % 2147483647) * 742938285 % 2147483399 / 64) % m, [(x * 48271 + 11) % 2147483647], by simp, by simp, Int.emod_nonneg _ (by omega), Int.emod_lt_of_pos _ hm, ?_⟩
      have hs : ∀ o : O, (h.set n o)[n]? = some o := fun o => List.getElem?_set_self hn
      simp [m__law_take, b__law_take, e, hm, mulOk_r, ixN, atI, hs]

theorem big_line {n : Nat} (h : n ≤ 3000) : n < sizeLine := by rw [sizeLine_eq]; omega
theorem inner_spec (h : Hh) (cells : O) (e0 e2 e3 : Option D) (num : Int) (e5 : Option D) (xs : List D) (p : List Int) (hl : p.length + xs.length ≤ 2900) :
    ∃ (q : List Int) (num' : Int) (e5' : Option D), q.length ≤ p.length + xs.length ∧ forL (gtName 5) b__law_pool_2 none xs [e0, some (.ref h.length), e2, e3, some (.int num), e5] (h ++ [.lst (p.map D.int), cells]) =
      .nx [e0, some (.ref h.length), e2, e3, some (.int num'), e5'] (h ++ [.lst (q.map D.int), cells]) := by
  obtain ⟨e', h', eq, q, num', e5', hq, rfl, rfl⟩ := forL_inv (g := gtName 5) (body := b__law_pool_2) (gd := none)
    (fun rest env h' => ∃ (q : List Int) (num' : Int) (e5' : Option D), q.length + rest.length ≤ p.length + xs.length ∧ env = [e0, some (.ref h.length), e2, e3, some (.int num'), e5'] ∧ h' = h ++ [.lst (q.map D.int), cells])
    xs _ _ ⟨p, num, e5, Nat.le_refl _, rfl, rfl⟩ (fun _ _ _ _ => trivial) (fun x rest env h' => by
      rintro ⟨q, num', e5', hq, rfl, rfl⟩
      rw [List.length_cons] at hq
      have hq' : q.length < sizeLine := big_line (by omega)
      refine ⟨_, rfl, ?_⟩
      by_cases hn : 0 < num'
      · exact ⟨[e0, some (.ref h.length), e2, e3, some (.int (num' / 1000)), some x], h ++ [.lst ((q ++ [num' % 1000]).map D.int), cells], by simp [b__law_pool_2, hn, hq'], q ++ [num' % 1000], num' / 1000, some x, by simp; omega, rfl, rfl⟩
      · exact ⟨[e0, some (.ref h.length), e2, e3, some (.int num'), some x], h ++ [.lst (q.map D.int), cells], by simp [b__law_pool_2, hn], q, num', some x, by omega, rfl, rfl⟩)
  exact ⟨q, num', e5', by simpa using hq, eq⟩
theorem rngD_len (lo : Int) (n : Nat) : (rngD lo n).length = n := by unfold rngD; simp
theorem pool_turn (h : Hh) (cells : O) (e0 : Option D) (seed y : Int) (e4 e5 : Option D) (q : List Int) (hq : q.length ≤ 1400) :
    ∃ (q2 : List Int) (seed' : Int) (e4' e5' : Option D), q2.length ≤ q.length + 21 ∧ b__law_pool_1 [e0, some (.ref h.length), some (.int seed), some (.int y), e4, e5] (h ++ [.lst (q.map D.int), cells]) =
      .nx [e0, some (.ref h.length), some (.int seed'), some (.int y), e4', e5'] (h ++ [.lst (q2.map D.int), cells]) := by
  have hq' : q.length < sizeLine := big_line (by omega)
  have h60 : (10 : Int) ^ 60 = 1000000000000000000000000000000000000000000000000000000000000 := by decide
  have h18 : (10 : Int) ^ 18 = 1000000000000000000 := by decide
  have hb : ∀ (b : Bool), (if b = true then (1 : Int) else 0) = (if b = true then (1 : Int) else 0) := fun _ => rfl
  generalize hN : (2 * (if y < 0 then -y else y) + (if decide (y < 0) = true then 1 else 0)) % (1000000000000000000000000000000000000000000000000000000000000 : Int) = N
  by_cases hn : N < 1000000000000000000
  · obtain ⟨q2, n2, e2, hl, eq⟩ := inner_spec h cells e0 (some (.int ((seed * 48271 + N + 11) % 2147483647))) (some (.int y)) 0 e5 (rngD 0 20) (q ++ [(seed * 48271 + N + 11) % 2147483647 * 742938285 % 2147483399 / 64]) (by rw [rngD_len]; simp; omega)
    rw [rngD_len, List.length_append] at hl
    refine ⟨q2, (seed * 48271 + N + 11) % 2147483647, some (.int n2), e2, by simp at hl; omega, ?_⟩
    rw [List.map_append, List.map_cons, List.map_nil] at eq
    rw [← eq]
    simp [b__law_pool_1, mulOk_r, mulOk_l, h60, h18, Sm.inR] at hN ⊢
    simp [hN, hn, hq', mulOk_r, mulOk_l, Sm.inR]
  · obtain ⟨q2, n2, e2, hl, eq⟩ := inner_spec h cells e0 (some (.int ((seed * 48271 + N + 11) % 2147483647))) (some (.int y)) N e5 (rngD 0 20) q (by rw [rngD_len]; omega)
    rw [rngD_len] at hl
    refine ⟨q2, (seed * 48271 + N + 11) % 2147483647, some (.int n2), e2, by omega, ?_⟩
    rw [← eq]
    simp [b__law_pool_1, mulOk_r, mulOk_l, h60, h18, Sm.inR] at hN ⊢
    simp [hN, hn, mulOk_r, mulOk_l, Sm.inR]
theorem pool_spec (ns : List Int) (hl : ns.length ≤ 63) (h : Hh) : ∃ (p : List Int) (a b c d : O), p ≠ [] ∧ p.length ≤ 2000 ∧
    m__law_pool [.fls (ns.map D.int)] h = .ok (.ref (h.length + 4)) (h ++ [a, b, c, d, .lst (p.map D.int)]) := by
  obtain ⟨e', h', eq, seed, q, e3, e4, e5, ⟨⟨r, hr⟩, hq⟩, rfl, rfl⟩ := forL_inv (g := gtName 3) (body := b__law_pool_1) (gd := some (h.length + 1, .lst (ns.map D.int)))
    (fun rest env h' => ∃ (seed : Int) (q : List Int) (e3 e4 e5 : Option D), ((∃ r : List Int, rest = r.map D.int) ∧ q.length + 21 * rest.length ≤ 1323) ∧ env = [some (.fls (ns.map D.int)), some (.ref h.length), some (.int seed), e3, e4, e5] ∧ h' = h ++ [.lst (q.map D.int), .lst (ns.map D.int)])
    (ns.map D.int) [some (.fls (ns.map D.int)), some (.ref h.length), some (.int 7), none, none, none] (h ++ [.lst [], .lst (ns.map D.int)]) ⟨7, [], none, none, none, ⟨⟨ns, rfl⟩, by simp; omega⟩, rfl, rfl⟩
    (fun rest env h' ⟨_, _, _, _, _, _, _, z⟩ => by subst z; simp) (fun x rest env h' => by
      rintro ⟨seed, q, e3, e4, e5, ⟨⟨r, hr⟩, hq⟩, rfl, rfl⟩
      cases r with
      | nil => cases hr
      | cons y r =>
        obtain ⟨rfl, rfl⟩ := List.cons.inj hr
        rw [List.length_cons] at hq
        obtain ⟨q2, seed', e4', e5', l2, eq⟩ := pool_turn h (.lst (ns.map D.int)) (some (.fls (ns.map D.int))) seed y e4 e5 q (by omega)
        exact ⟨_, rfl, _, _, eq, seed', q2, some (.int y), e4', e5', ⟨⟨r, rfl⟩, by omega⟩, rfl, rfl⟩)
  have hc : cutD (ns.map D.int) none (some 63) = ns.map D.int := by
    have := cut_to (xs := ns.map D.int) (n := 63)
    rw [List.take_of_length_le (by simpa using hl)] at this
    exact this
  have hz : 1 + q.length ≤ sizeLine := by rw [sizeLine_eq]; simp at hq; omega
  refine ⟨seed :: q.reverse, .lst (q.map D.int), .lst (ns.map D.int), .lst [.int seed], .lst (q.reverse.map D.int), by simp, by simp at hq ⊢; omega, ?_⟩
  simp [m__law_pool, b__law_pool, hc, eq, hz]
/-! ### draws: the pool at n -/
theorem set_at {h : Hh} {n : Nat} {o u : O} (e : h[n]? = some u) : (h.set n o)[n]? = some o := List.getElem?_set_self (List.getElem?_eq_some_iff.mp e).1
theorem wide_spec {h : Hh} {n : Nat} {m : Int} {p : List Int} (hp : p ≠ []) (hl : p.length ≤ 2000) (e : h[n]? = some (.lst (p.map D.int))) (hm : 0 < m) :
    ∃ (r : Int) (q : List Int), q ≠ [] ∧ q.length ≤ 2000 ∧ 0 ≤ r ∧ r < m ∧ m__law_wide [.ref n, .int m] h = .ok (.int r) (h.set n (.lst (q.map D.int))) := by
  obtain ⟨r1, q1, a1, b1, _, _, e1⟩ := take_spec (m := 1000) hp hl e (by decide)
  obtain ⟨r2, q2, a2, b2, _, _, e2⟩ := take_spec (h := h.set n (.lst (q1.map D.int))) (m := 1000) a1 b1 (set_at e) (by decide)
  refine ⟨(r1 * 1000 + r2) % m, q2, a2, b2, Int.emod_nonneg _ (by omega), Int.emod_lt_of_pos _ hm, ?_⟩
  simp [m__law_wide, b__law_wide, e1, e2, mulOk_r, hm]
theorem edge_spec {h : Hh} {n : Nat} {m : Int} {p : List Int} (hp : p ≠ []) (hl : p.length ≤ 2000) (e : h[n]? = some (.lst (p.map D.int))) (hm : 0 ≤ m) :
    ∃ (r : Int) (q : List Int), q ≠ [] ∧ q.length ≤ 2000 ∧ 0 ≤ r ∧ r ≤ m ∧ m__law_edge [.ref n, .int m] h = .ok (.int r) (h.set n (.lst (q.map D.int))) := by
  obtain ⟨k, q1, a1, b1, k1, k2, e1⟩ := take_spec (m := 6) hp hl e (by decide)
  have e' := set_at (o := .lst (q1.map D.int)) e
  by_cases h0 : k = 0
  · subst h0
    exact ⟨0, q1, a1, b1, by omega, by omega, by simp [m__law_edge, b__law_edge, e1]⟩
  by_cases h1 : k = 1
  · subst h1
    exact ⟨m, q1, a1, b1, by omega, by omega, by simp [m__law_edge, b__law_edge, e1]⟩
  by_cases h2 : k = 2
  · subst h2
    obtain ⟨r2, q2, a2, b2, _, _, e2⟩ := take_spec (m := 3) a1 b1 e' (by decide)
    exact ⟨if m - r2 > 0 then m - r2 else 0, q2, a2, b2, by split <;> omega, by split <;> omega, by simp [m__law_edge, b__law_edge, e1, e2]⟩
  by_cases h3 : k = 3
  · subst h3
    obtain ⟨r2, q2, a2, b2, _, _, e2⟩ := take_spec (m := 8) a1 b1 e' (by decide)
    exact ⟨if r2 < m then r2 else m, q2, a2, b2, by split <;> omega, by split <;> omega, by simp [m__law_edge, b__law_edge, e1, e2]⟩
  obtain ⟨r2, q2, a2, b2, _, _, e2⟩ := wide_spec (m := m + 1) a1 b1 e' (by omega)
  exact ⟨r2, q2, a2, b2, by omega, by omega, by simp [m__law_edge, b__law_edge, e1, e2, h0, h1, h2, h3]⟩
theorem wide_spec' {h : Hh} {n : Nat} {m : Int} {u : O} {p : List Int} (e : h[n]? = some u) (hp : p ≠ []) (hl : p.length ≤ 2000) (hm : 0 < m) :
    ∃ (r : Int) (q : List Int), q ≠ [] ∧ q.length ≤ 2000 ∧ 0 ≤ r ∧ r < m ∧ m__law_wide [.ref n, .int m] (h.set n (.lst (p.map D.int))) = .ok (.int r) (h.set n (.lst (q.map D.int))) := by
  obtain ⟨r, q, a, b, c, d, f⟩ := wide_spec hp hl (set_at e) hm
  exact ⟨r, q, a, b, c, d, by rw [f, List.set_set]⟩
theorem take_spec' {h : Hh} {n : Nat} {m : Int} {u : O} {p : List Int} (e : h[n]? = some u) (hp : p ≠ []) (hl : p.length ≤ 2000) (hm : 0 < m) :
    ∃ (r : Int) (q : List Int), q ≠ [] ∧ q.length ≤ 2000 ∧ 0 ≤ r ∧ r < m ∧ m__law_take [.ref n, .int m] (h.set n (.lst (p.map D.int))) = .ok (.int r) (h.set n (.lst (q.map D.int))) := by
  obtain ⟨r, q, a, b, c, d, f⟩ := take_spec hp hl (set_at e) hm
  exact ⟨r, q, a, b, c, d, by rw [f, List.set_set]⟩
theorem edge_spec' {h : Hh} {n : Nat} {m : Int} {u : O} {p : List Int} (e : h[n]? = some u) (hp : p ≠ []) (hl : p.length ≤ 2000) (hm : 0 ≤ m) :
    ∃ (r : Int) (q : List Int), q ≠ [] ∧ q.length ≤ 2000 ∧ 0 ≤ r ∧ r ≤ m ∧ m__law_edge [.ref n, .int m] (h.set n (.lst (p.map D.int))) = .ok (.int r) (h.set n (.lst (q.map D.int))) := by
  obtain ⟨r, q, a, b, c, d, f⟩ := edge_spec hp hl (set_at e) hm
  exact ⟨r, q, a, b, c, d, by rw [f, List.set_set]⟩
theorem get_app {h g : Hh} {n : Nat} {o : O} (e : h[n]? = some o) : (h ++ g)[n]? = some o := by
  rw [List.getElem?_append_left (List.getElem?_eq_some_iff.mp e).1]
  exact e
theorem set_app {h g : Hh} {n : Nat} {o u : O} (e : h[n]? = some o) : (h ++ g).set n u = h.set n u ++ g := List.set_append_left _ _ (List.getElem?_eq_some_iff.mp e).1

/-- what stood still stands, but the pool at p -/
def Xt (p : Nat) (h h' : Hh) : Prop := ∀ n o, n ≠ p → h[n]? = some o → h'[n]? = some o
theorem Xt.refl {p : Nat} {h : Hh} : Xt p h h := fun _ _ _ e => e
theorem Xt.trans {p : Nat} {h h1 h2 : Hh} (a : Xt p h h1) (b : Xt p h1 h2) : Xt p h h2 := fun n o q e => b n o q (a n o q e)
theorem Xt.app {p : Nat} {h g : Hh} : Xt p h (h ++ g) := fun _ _ _ e => get_app e
theorem Xt.set {p : Nat} {h : Hh} {o : O} : Xt p h (h.set p o) := fun n u q e => by rw [List.getElem?_set_ne (fun z => q z.symm)]; exact e
theorem Pl.app {h g : Hh} {p : Nat} (a : Pl h p) : Pl (h ++ g) p := by
  obtain ⟨q, x, y, z⟩ := a
  exact ⟨q, x, y, get_app z⟩
theorem Pl.lt {h : Hh} {p : Nat} (a : Pl h p) : p < h.length := by
  obtain ⟨q, x, y, z⟩ := a
  exact (List.getElem?_eq_some_iff.mp z).1
theorem take_x {h : Hh} {p : Nat} {m : Int} (a : Pl h p) (hm : 0 < m) : ∃ r h', 0 ≤ r ∧ r < m ∧ Pl h' p ∧ Xt p h h' ∧ h'.length = h.length ∧ m__law_take [.ref p, .int m] h = .ok (.int r) h' := by
  obtain ⟨q, x, y, z⟩ := a
  obtain ⟨r, q', x', y', c, d, e⟩ := take_spec x y z hm
  exact ⟨r, _, c, d, ⟨q', x', y', set_at z⟩, Xt.set, by simp, e⟩
theorem wide_x {h : Hh} {p : Nat} {m : Int} (a : Pl h p) (hm : 0 < m) : ∃ r h', 0 ≤ r ∧ r < m ∧ Pl h' p ∧ Xt p h h' ∧ h'.length = h.length ∧ m__law_wide [.ref p, .int m] h = .ok (.int r) h' := by
  obtain ⟨q, x, y, z⟩ := a
  obtain ⟨r, q', x', y', c, d, e⟩ := wide_spec x y z hm
  exact ⟨r, _, c, d, ⟨q', x', y', set_at z⟩, Xt.set, by simp, e⟩
theorem edge_x {h : Hh} {p : Nat} {m : Int} (a : Pl h p) (hm : 0 ≤ m) : ∃ r h', 0 ≤ r ∧ r ≤ m ∧ Pl h' p ∧ Xt p h h' ∧ h'.length = h.length ∧ m__law_edge [.ref p, .int m] h = .ok (.int r) h' := by
  obtain ⟨q, x, y, z⟩ := a
  obtain ⟨r, q', x', y', c, d, e⟩ := edge_spec x y z hm
  exact ⟨r, _, c, d, ⟨q', x', y', set_at z⟩, Xt.set, by simp, e⟩
theorem pool_x (ns : List Int) (hl : ns.length ≤ 63) : ∃ p h, Pl h p ∧ m__law_pool [.fls (ns.map D.int)] [] = .ok (.ref p) h := by
  obtain ⟨p, a, b, c, d, x, y, e⟩ := pool_spec ns hl []
  exact ⟨_, _, ⟨p, x, y, rfl⟩, e⟩
/-- all that stood stands -/
def Kp (h h' : Hh) : Prop := ∀ (n : Nat) (o : O), h[n]? = some o → h'[n]? = some o
theorem Kp.refl {h : Hh} : Kp h h := fun _ _ e => e
theorem Kp.trans {h h1 h2 : Hh} (a : Kp h h1) (b : Kp h1 h2) : Kp h h2 := fun n o e => b n o (a n o e)
theorem Kp.app {h g : Hh} : Kp h (h ++ g) := fun _ _ e => get_app e
theorem Kp.xt {h h' : Hh} {p : Nat} (a : Kp h h') : Xt p h h' := fun n o _ e => a n o e
theorem Kp.pl {h h' : Hh} {p : Nat} (a : Kp h h') (b : Pl h p) : Pl h' p := by
  obtain ⟨q, x, y, z⟩ := b
  exact ⟨q, x, y, a _ _ z⟩
theorem Kp.of_xt {h h' g : Hh} (a : Xt h.length (h ++ g) h') : Kp h h' := fun n o e => a n o (by have := (List.getElem?_eq_some_iff.mp e).1; omega) (get_app e)
theorem Pl.set_ne {H : Hh} {p j : Nat} {o : O} (P : Pl H p) (q : p ≠ j) : Pl (H.set j o) p := by
  obtain ⟨l, a, b, c⟩ := P
  exact ⟨l, a, b, by rw [List.getElem?_set_ne (fun z => q z.symm)]; exact c⟩
theorem Xt.set_new {p : Nat} {h H : Hh} {j : Nat} {o : O} (x : Xt p h H) (q : h.length ≤ j) : Xt p h (H.set j o) := fun n u hn e => by
  have := (List.getElem?_eq_some_iff.mp e).1
  rw [List.getElem?_set_ne (by omega)]
  exact x n u hn e
end SmPool
/-! the law law_k26_stories_fill_the_window: mirrors and derivations, printed by gen.py -/
namespace Lk26
open PySem L2 PyProof.Rows Sm
def G0 : Cl := ⟨fun _ => 0, fun _ => []⟩
structure Tx (mg : Str → Option Value) : Prop where
  z_abs : mg "abs" = none
  z_all : mg "all" = none
  z_bool : mg "bool" = none
  z_int : mg "int" = none
  z_isinstance : mg "isinstance" = none
  z_len : mg "len" = none
  z_list : mg "list" = none
  z_max : mg "max" = none
  z_min : mg "min" = none
  z_range : mg "range" = none
  z_sum : mg "sum" = none
  z_tuple : mg "tuple" = none
  c_MOST_DELAY : ∃ u, mg "MOST_DELAY" = some (.int 1000 u)
  c_MOST_MOMENT : ∃ u, mg "MOST_MOMENT" = some (.int 1000000 u)
  c_MOST_TRAIL : ∃ u, mg "MOST_TRAIL" = some (.int 4 u)
  c_MOST_TTL : ∃ u, mg "MOST_TTL" = some (.int 100000 u)
noncomputable def b_is_integer : S := (sRet (eAnd (eU (opIsi .int) (eV 0)) (eNot (eU (opIsi .bool) (eV 0)))))
noncomputable def m_is_integer : Fm := fnM 1 b_is_integer
noncomputable def b_is_between : S := (sRet (eAnd (eCall m_is_integer [(eV 0)]) (eAnd (eB opLe (eV 1) (eV 0)) (eB opLe (eV 0) (eV 2)))))
noncomputable def m_is_between : Fm := fnM 3 b_is_between
noncomputable def b_check_line : S := (sSeq (sIf (tOrM (tNotM (tTru (eU (opIsi .tuple) (eV 0)))) (tBl (eB opNe (eN opLen [(eV 0)]) (eC (.int 2))))) sNever sSkip)
    (sSeq (sIf (tNotM (tTru (eCall m_is_between [(eB opIx (eV 0) (eC (.int 0))), (eC (.int 0)), (eC (.int 1000))]))) sNever sSkip)
    (sSeq (sIf (tNotM (tTru (eCall m_is_between [(eB opIx (eV 0) (eC (.int 1))), (eC (.int 0)), (eC (.int 100000))]))) sNever sSkip)
    (sSeq (sIf (tNotM (tTru (eCall m_is_between [(eV 1), (eC (.int 0)), (eC (.int 1000000))]))) sNever sSkip)
    (sSeq (sIf (tNotM (tTru (eCall m_is_between [(eV 2), (eC (.int 0)), (eC (.int 1000000))]))) sNever sSkip)
    (sSeq (sIf (tNotM (tTru (eCall m_is_between [(eV 3), (eC (.int 0)), (eC (.int 100000))]))) sNever sSkip)
    (sIf (tNotM (tTru (eCall m_is_between [(eV 4), (eC (.int 1)), (eC (.int 4))]))) sNever sSkip)))))))
noncomputable def m_check_line : Fm := fnM 5 b_check_line
noncomputable def b_last_told : S := (sRet (eTup [(eN opMax [(eV 1), (eB opSub (eV 2) (eB opIx (eV 0) (eC (.int 0))))]), (eN opMin [(eB opAdd (eV 1) (eB opIx (eV 0) (eC (.int 0)))), (eV 2)])]))
noncomputable def m_last_told : Fm := fnM 3 b_last_told
noncomputable def b_window_of : S := (sSeq (sExpr (eCall m_check_line [(eV 0), (eV 1), (eV 2), (eV 3), (eV 4)]))
    (sSeq (sUnp (gtTup [5, 6]) (eCall m_last_told [(eV 0), (eV 1), (eV 2)]))
    (sSeq (sIf (tOrM (tBl (eB opGt (eV 5) (eV 6))) (tOrM (tAndM (tBl (eB opEq (eV 4) (eC (.int 1)))) (tBl (eB opGt (eV 3) (eC (.int 0))))) (tBl (eB opLt (eB opSub (eV 6) (eV 3)) (eC (.int 0)))))) (sRet (eC .non)) sSkip)
    (sRet (eTup [(eN opMax [(eC (.int 0)), (eB opSub (eB opSub (eB opSub (eV 5) (eV 3)) (eB opMul (eB opSub (eV 4) (eC (.int 1))) (eB opIx (eV 0) (eC (.int 0))))) (eB opIx (eV 0) (eC (.int 1))))]), (eB opSub (eV 6) (eV 3))])))))
noncomputable def m_window_of : Fm := fnM 7 b_window_of
noncomputable def b_story_of_1 : S := (sSeq (sSet 11 (eN opMin [(eV 7), (eB opIx (eV 0) (eC (.int 0)))]))
    (sSeq (sAug opSub 7 (eV 11))
    (sSeq (sSet 12 (eB opAdd (eB opIx (eV 9) (eU opNeg (eC (.int 1)))) (eV 11)))
    (sSeq (sSet 13 (eIf (tBl (eB opEq (eV 10) (eB opSub (eV 4) (eC (.int 1))))) (eV 3) (eC (.int 0))))
    (sExpr (eMt opExtend (eV 9) [(eLst [(eV 12), (eB opAdd (eV 12) (eV 13))])]))))))
noncomputable def b_story_of : S := (sSeq (sSet 6 (eCall m_window_of [(eV 0), (eV 1), (eV 2), (eV 3), (eV 4)]))
    (sSeq (sIf (tNotM (tTru (eCall m_is_integer [(eV 5)]))) sNever sSkip)
    (sSeq (sIf (tOrM (tBl (eU opIsN (eV 6))) (tOrM (tBl (eB opLt (eV 5) (eB opIx (eV 6) (eC (.int 0))))) (tBl (eB opGt (eV 5) (eB opIx (eV 6) (eC (.int 1))))))) (sRet (eC .non)) sSkip)
    (sSeq (sSet 7 (eB opSub (eB opIx (eV 6) (eC (.int 1))) (eV 5)))
    (sSeq (sSet 8 (eN opMin [(eV 7), (eB opIx (eV 0) (eC (.int 1)))]))
    (sSeq (sAug opSub 7 (eV 8))
    (sSeq (sSet 9 (eLst [(eV 5), (eB opAdd (eV 5) (eV 8))]))
    (sSeq (sFor (mRng2 (eC (.int 1)) (eV 4)) (gtName 10) b_story_of_1)
    (sRet (eN opTupleOf [(eV 9)]))))))))))
noncomputable def m_story_of : Fm := fnM 14 b_story_of
noncomputable def b_is_story_1 : S := (sSeq (sIf (tOrM (tNotM (tTru (eCall m_is_between [(eB opSub (eB opIx (eV 6) (eV 8)) (eB opIx (eV 6) (eB opSub (eV 8) (eC (.int 1))))), (eC (.int 0)), (eB opIx (eV 0) (eC (.int 0)))]))) (tBl (eB opLt (eB opIx (eV 6) (eB opAdd (eV 8) (eC (.int 1)))) (eB opIx (eV 6) (eV 8))))) (sRet (eC (.bl false))) sSkip)
    (sAug opIAddI 7 (eB opSub (eB opIx (eV 6) (eB opAdd (eV 8) (eC (.int 1)))) (eB opIx (eV 6) (eV 8)))))
noncomputable def b_is_story : S := (sSeq (sExpr (eCall m_window_of [(eV 0), (eV 1), (eV 2), (eV 3), (eV 4)]))
    (sSeq (sIf (tNotM (tTru (eCall m_is_integer [(eV 5)]))) sNever sSkip)
    (sSeq (sIf (tOrM (tNotM (tTru (eU (opIsi .tuple) (eV 6)))) (tBl (eB opNe (eN opLen [(eV 6)]) (eB opMul (eC (.int 2)) (eV 4))))) (sRet (eC (.bl false))) sSkip)
    (sSeq (sIf (tOrM (tNotM (tTru (eN opAll [(eLc (mSeq (eV 6)) (gtName 11) tYesM (eCall m_is_integer [(eV 11)]) [11])]))) (tOrM (tBl (eB opNe (eB opIx (eV 6) (eC (.int 0))) (eV 5))) (tBl (eB opLt (eV 5) (eC (.int 0)))))) (sRet (eC (.bl false))) sSkip)
    (sSeq (sIf (tNotM (tTru (eCall m_is_between [(eB opSub (eB opIx (eV 6) (eC (.int 1))) (eV 5)), (eC (.int 0)), (eB opIx (eV 0) (eC (.int 1)))]))) (sRet (eC (.bl false))) sSkip)
    (sSeq (sSet 7 (eC (.int 0)))
    (sSeq (sFor (mRng3 (eC (.int 2)) (eB opMul (eC (.int 2)) (eV 4)) (eC (.int 2))) (gtName 8) b_is_story_1)
    (sSeq (sUnp (gtTup [9, 10]) (eCall m_last_told [(eV 0), (eV 1), (eV 2)]))
    (sRet (eAnd (eB opEq (eV 7) (eV 3)) (eAnd (eB opLe (eV 9) (eB opIx (eV 6) (eU opNeg (eC (.int 1))))) (eB opLe (eB opIx (eV 6) (eU opNeg (eC (.int 1)))) (eV 10)))))))))))))
noncomputable def m_is_story : Fm := fnM 12 b_is_story
noncomputable def b__law_pool_2 : S := (sIf (tBl (eB opGt (eV 4) (eC (.int 0)))) (sSeq (sExpr (eMt opAppend (eV 1) [(eB opMod (eN opInt [(eV 4)]) (eC (.int 1000)))]))
    (sSet 4 (eB opFdiv (eV 4) (eC (.int 1000))))) sSkip)
noncomputable def b__law_pool_1 : S := (sSeq (sSet 4 (eB opMod (eN opInt [(eB opAdd (eB opMul (eC (.int 2)) (eN opAbs [(eN opInt [(eV 3)])])) (eN opInt [(eB opLt (eV 3) (eC (.int 0)))]))]) (eB opPow (eC (.int 10)) (eC (.int 60)))))
    (sSeq (sSet 2 (eB opMod (eN opInt [(eB opAdd (eB opAdd (eB opMul (eV 2) (eC (.int 48271))) (eV 4)) (eC (.int 11)))]) (eC (.int 2147483647))))
    (sSeq (sIf (tBl (eB opLt (eV 4) (eB opPow (eC (.int 10)) (eC (.int 18))))) (sSeq (sExpr (eMt opAppend (eV 1) [(eB opFdiv (eB opMod (eN opInt [(eB opMul (eV 2) (eC (.int 742938285)))]) (eC (.int 2147483399))) (eC (.int 64)))]))
    (sSet 4 (eC (.int 0)))) sSkip)
    (sFor (mRng1 (eC (.int 20))) (gtName 5) b__law_pool_2))))
noncomputable def b__law_pool : S := (sSeq (sSet 1 (eLst []))
    (sSeq (sSet 2 (eC (.int 7)))
    (sSeq (sFor (mSeq (eSl (eV 0) none (some (eC (.int 63))))) (gtName 3) b__law_pool_1)
    (sRet (eB opAdd (eLst [(eV 2)]) (eU opRev (eV 1)))))))
noncomputable def m__law_pool : Fm := fnM 6 b__law_pool
noncomputable def b__law_take : S := (sSeq (sIf (tBl (eB opGt (eN opLen [(eV 0)]) (eC (.int 1)))) (sRet (eB opMod (eN opInt [(eMt opPop (eV 0) [])]) (eV 1))) sSkip)
    (sSeq (sSetIx (eV 0) (eC (.int 0)) (eB opMod (eN opInt [(eB opAdd (eB opMul (eB opIx (eV 0) (eC (.int 0))) (eC (.int 48271))) (eC (.int 11)))]) (eC (.int 2147483647))))
    (sRet (eB opMod (eN opInt [(eB opFdiv (eB opMod (eN opInt [(eB opMul (eB opIx (eV 0) (eC (.int 0))) (eC (.int 742938285)))]) (eC (.int 2147483399))) (eC (.int 64)))]) (eV 1)))))
noncomputable def m__law_take : Fm := fnM 2 b__law_take
noncomputable def b__law_wide : S := (sRet (eB opMod (eN opInt [(eB opAdd (eB opMul (eCall m__law_take [(eV 0), (eC (.int 1000))]) (eC (.int 1000))) (eCall m__law_take [(eV 0), (eC (.int 1000))]))]) (eV 1)))
noncomputable def m__law_wide : Fm := fnM 2 b__law_wide
noncomputable def b__law_edge : S := (sSeq (sSet 2 (eCall m__law_take [(eV 0), (eC (.int 6))]))
    (sSeq (sIf (tBl (eB opEq (eV 2) (eC (.int 0)))) (sRet (eC (.int 0))) sSkip)
    (sSeq (sIf (tBl (eB opEq (eV 2) (eC (.int 1)))) (sRet (eV 1)) sSkip)
    (sSeq (sIf (tBl (eB opEq (eV 2) (eC (.int 2)))) (sRet (eN opMax [(eC (.int 0)), (eB opSub (eV 1) (eCall m__law_take [(eV 0), (eC (.int 3))]))])) sSkip)
    (sSeq (sIf (tBl (eB opEq (eV 2) (eC (.int 3)))) (sRet (eN opMin [(eV 1), (eCall m__law_take [(eV 0), (eC (.int 8))])])) sSkip)
    (sRet (eCall m__law_wide [(eV 0), (eB opAdd (eV 1) (eC (.int 1)))])))))))
noncomputable def m__law_edge : Fm := fnM 3 b__law_edge
noncomputable def b__law_formula : S := (sSeq (sUnp (gtTup [3, 4, 5, 6, 7, 8]) (eV 0))
    (sSeq (sSet 1 (eN opMax [(eV 5), (eB opSub (eV 6) (eV 3))]))
    (sSeq (sSet 2 (eN opMin [(eB opAdd (eV 5) (eV 3)), (eV 6)]))
    (sSeq (sIf (tOrM (tBl (eB opGt (eV 1) (eV 2))) (tOrM (tAndM (tBl (eB opEq (eV 8) (eC (.int 1)))) (tBl (eB opGt (eV 7) (eC (.int 0))))) (tBl (eB opLt (eB opSub (eV 2) (eV 7)) (eC (.int 0)))))) (sRet (eC .non)) sSkip)
    (sRet (eTup [(eN opMax [(eC (.int 0)), (eB opSub (eB opSub (eB opSub (eV 1) (eV 7)) (eB opMul (eB opSub (eV 8) (eC (.int 1))) (eV 3))) (eV 4))]), (eB opSub (eV 2) (eV 7))]))))))
noncomputable def m__law_formula : Fm := fnM 9 b__law_formula
noncomputable def b__law_is_story_1 : S := (sIf (tOrM (tNotM (tTru (eU (opIsi .int) (eV 3)))) (tTru (eU (opIsi .bool) (eV 3)))) (sRet (eC (.bl false))) sSkip)
noncomputable def b__law_is_story_2 : S := (sSeq (sIf (tOrM (tNotM (tBl (eCh opLe opLe (eC (.int 0)) (eB opSub (eB opIx (eV 2) (eV 5)) (eB opIx (eV 2) (eB opSub (eV 5) (eC (.int 1))))) (eV 6)))) (tBl (eB opLt (eB opIx (eV 2) (eB opAdd (eV 5) (eC (.int 1)))) (eB opIx (eV 2) (eV 5))))) (sRet (eC (.bl false))) sSkip)
    (sSet 4 (eB opSub (eB opAdd (eV 4) (eB opIx (eV 2) (eB opAdd (eV 5) (eC (.int 1))))) (eB opIx (eV 2) (eV 5)))))
noncomputable def b__law_is_story : S := (sSeq (sUnp (gtTup [6, 7, 8, 9, 10, 11]) (eV 0))
    (sSeq (sIf (tOrM (tNotM (tTru (eU (opIsi .tuple) (eV 2)))) (tBl (eB opNe (eN opLen [(eV 2)]) (eB opMul (eC (.int 2)) (eV 11))))) (sRet (eC (.bl false))) sSkip)
    (sSeq (sFor (mSeq (eV 2)) (gtName 3) b__law_is_story_1)
    (sSeq (sIf (tOrM (tBl (eB opNe (eB opIx (eV 2) (eC (.int 0))) (eV 1))) (tOrM (tBl (eB opLt (eV 1) (eC (.int 0)))) (tNotM (tBl (eCh opLe opLe (eC (.int 0)) (eB opSub (eB opIx (eV 2) (eC (.int 1))) (eV 1)) (eV 7)))))) (sRet (eC (.bl false))) sSkip)
    (sSeq (sSet 4 (eC (.int 0)))
    (sSeq (sFor (mRng3 (eC (.int 2)) (eB opMul (eC (.int 2)) (eV 11)) (eC (.int 2))) (gtName 5) b__law_is_story_2)
    (sRet (eAnd (eB opEq (eV 4) (eV 10)) (eAnd (eCh opLe opLe (eC (.int 0)) (eB opSub (eB opIx (eV 2) (eU opNeg (eC (.int 1)))) (eV 8)) (eV 6)) (eCh opLe opLe (eC (.int 0)) (eB opSub (eV 9) (eB opIx (eV 2) (eU opNeg (eC (.int 1))))) (eV 6)))))))))))
noncomputable def m__law_is_story : Fm := fnM 12 b__law_is_story
noncomputable def b__law_amount : S := (sSeq (sSet 2 (eCall m__law_take [(eV 0), (eC (.int 3))]))
    (sSeq (sIf (tBl (eB opEq (eV 2) (eC (.int 0)))) (sRet (eC (.int 0))) sSkip)
    (sSeq (sIf (tBl (eB opEq (eV 2) (eC (.int 1)))) (sRet (eV 1)) sSkip)
    (sRet (eCall m__law_wide [(eV 0), (eB opAdd (eV 1) (eC (.int 1)))])))))
noncomputable def m__law_amount : Fm := fnM 3 b__law_amount
noncomputable def b__law_tale_1 : S := (sSeq (sExpr (eMt opAppend (eV 7) [(eCall m__law_amount [(eV 0), (eV 1)])]))
    (sExpr (eMt opAppend (eV 8) [(eCall m__law_amount [(eV 0), (eB opIx (eLst [(eC (.int 3)), (eC (.int 20000))]) (eCall m__law_take [(eV 0), (eC (.int 2))]))])])))
noncomputable def b__law_tale : S := (sSeq (sSet 1 (eCall m__law_edge [(eV 0), (eC (.int 1000))]))
    (sSeq (sIf (tBl (eB opEq (eCall m__law_take [(eV 0), (eC (.int 2))]) (eC (.int 0)))) (sSet 1 (eCall m__law_take [(eV 0), (eC (.int 5))])) sSkip)
    (sSeq (sSet 2 (eCall m__law_edge [(eV 0), (eC (.int 100000))]))
    (sSeq (sIf (tBl (eB opEq (eCall m__law_take [(eV 0), (eC (.int 2))]) (eC (.int 0)))) (sSet 2 (eCall m__law_take [(eV 0), (eC (.int 7))])) sSkip)
    (sSeq (sSet 3 (eCall m__law_wide [(eV 0), (eC (.int 700000))]))
    (sSeq (sIf (tBl (eB opEq (eCall m__law_take [(eV 0), (eC (.int 3))]) (eC (.int 0)))) (sSet 3 (eCall m__law_take [(eV 0), (eC (.int 3))])) sSkip)
    (sSeq (sSet 4 (eCall m__law_amount [(eV 0), (eV 2)]))
    (sSeq (sSet 5 (eCall m__law_amount [(eV 0), (eV 1)]))
    (sSeq (sSet 6 (eCall m__law_amount [(eV 0), (eV 1)]))
    (sSeq (sSet 7 (eLst []))
    (sSeq (sSet 8 (eLst []))
    (sSeq (sFor (mRng1 (eCall m__law_take [(eV 0), (eC (.int 4))])) (gtName 9) b__law_tale_1)
    (sRet (eLst [(eV 1), (eV 2), (eV 3), (eV 4), (eV 5), (eV 6), (eV 7), (eV 8)]))))))))))))))
noncomputable def m__law_tale : Fm := fnM 10 b__law_tale
noncomputable def b__law_paper_1 : S := (sSeq (sExpr (eMt opAppend (eV 1) [(eB opAdd (eB opIx (eV 1) (eU opNeg (eC (.int 1)))) (eB opIx (eB opIx (eV 0) (eC (.int 6))) (eV 2)))]))
    (sExpr (eMt opAppend (eV 1) [(eB opAdd (eB opIx (eV 1) (eU opNeg (eC (.int 1)))) (eB opIx (eB opIx (eV 0) (eC (.int 7))) (eV 2)))])))
noncomputable def b__law_paper : S := (sSeq (sSet 1 (eLst [(eB opIx (eV 0) (eC (.int 2))), (eB opAdd (eB opIx (eV 0) (eC (.int 2))) (eB opIx (eV 0) (eC (.int 3))))]))
    (sSeq (sFor (mRng1 (eN opLen [(eB opIx (eV 0) (eC (.int 6)))])) (gtName 2) b__law_paper_1)
    (sRet (eV 1))))
noncomputable def m__law_paper : Fm := fnM 3 b__law_paper
noncomputable def b__law_line : S := (sSeq (sSet 1 (eB opIx (eCall m__law_paper [(eV 0)]) (eU opNeg (eC (.int 1)))))
    (sSeq (sSet 2 (eN opMin [(eN opMax [(eB opSub (eV 1) (eB opIx (eV 0) (eC (.int 4)))), (eC (.int 0))]), (eC (.int 1000000))]))
    (sSeq (sSet 3 (eN opMin [(eN opMax [(eB opAdd (eV 1) (eB opIx (eV 0) (eC (.int 5)))), (eC (.int 0))]), (eC (.int 1000000))]))
    (sSeq (sSet 4 (eN opMin [(eN opMax [(eN opSum [(eB opIx (eV 0) (eC (.int 7)))]), (eC (.int 0))]), (eC (.int 100000))]))
    (sRet (eLst [(eB opIx (eV 0) (eC (.int 0))), (eB opIx (eV 0) (eC (.int 1))), (eV 2), (eV 3), (eV 4), (eB opAdd (eC (.int 1)) (eN opLen [(eB opIx (eV 0) (eC (.int 6)))]))]))))))
noncomputable def m__law_line : Fm := fnM 5 b__law_line
noncomputable def b__law_bent : S := (sSeq (sSet 3 (eB opAdd (eN opList [(eSl (eV 1) none (some (eC (.int 6))))]) (eLst [(eN opList [(eB opIx (eV 1) (eC (.int 6)))]), (eN opList [(eB opIx (eV 1) (eC (.int 7)))])])))
    (sSeq (sSet 4 (eN opLen [(eB opIx (eV 1) (eC (.int 6)))]))
    (sSeq (sSet 5 (eCall m__law_take [(eV 0), (eN opMax [(eC (.int 1)), (eV 4)])]))
    (sSeq (sIf (tBl (eB opEq (eV 2) (eC (.int 1)))) (sSetIx (eV 3) (eC (.int 3)) (eB opAdd (eB opIx (eV 3) (eC (.int 1))) (eC (.int 1)))) sSkip)
    (sSeq (sIf (tBl (eB opEq (eV 2) (eC (.int 2)))) (sSetIx (eV 3) (eC (.int 3)) (eU opNeg (eC (.int 1)))) sSkip)
    (sSeq (sIf (tAndM (tBl (eB opEq (eV 2) (eC (.int 3)))) (tBl (eB opGt (eV 4) (eC (.int 0))))) (sSetIx (eB opIx (eV 3) (eC (.int 6))) (eV 5) (eB opAdd (eB opIx (eV 3) (eC (.int 0))) (eC (.int 1)))) sSkip)
    (sSeq (sIf (tAndM (tBl (eB opEq (eV 2) (eC (.int 4)))) (tBl (eB opGt (eV 4) (eC (.int 0))))) (sSetIx (eB opIx (eV 3) (eC (.int 6))) (eV 5) (eU opNeg (eC (.int 1)))) sSkip)
    (sSeq (sIf (tAndM (tBl (eB opEq (eV 2) (eC (.int 5)))) (tBl (eB opGt (eV 4) (eC (.int 1))))) (sSeq (sSet 6 (eB opMod (eB opAdd (eV 5) (eC (.int 1))) (eV 4)))
    (sSeq (sSetIx (eB opIx (eV 3) (eC (.int 7))) (eV 6) (eB opAdd (eB opAdd (eB opIx (eB opIx (eV 3) (eC (.int 7))) (eV 6)) (eB opIx (eB opIx (eV 3) (eC (.int 7))) (eV 5))) (eC (.int 1))))
    (sSetIx (eB opIx (eV 3) (eC (.int 7))) (eV 5) (eU opNeg (eC (.int 1)))))) sSkip)
    (sSeq (sIf (tBl (eB opEq (eV 2) (eC (.int 6)))) (sSetIx (eV 3) (eC (.int 4)) (eB opAdd (eB opIx (eV 3) (eC (.int 0))) (eC (.int 1)))) sSkip)
    (sSeq (sIf (tBl (eB opEq (eV 2) (eC (.int 7)))) (sSetIx (eV 3) (eC (.int 4)) (eU opNeg (eC (.int 1)))) sSkip)
    (sSeq (sIf (tBl (eB opEq (eV 2) (eC (.int 8)))) (sSetIx (eV 3) (eC (.int 5)) (eB opAdd (eB opIx (eV 3) (eC (.int 0))) (eC (.int 1)))) sSkip)
    (sSeq (sIf (tBl (eB opEq (eV 2) (eC (.int 9)))) (sSetIx (eV 3) (eC (.int 5)) (eU opNeg (eC (.int 1)))) sSkip)
    (sSeq (sIf (tBl (eB opEq (eV 2) (eC (.int 10)))) (sSetIx (eV 3) (eC (.int 2)) (eU opNeg (eC (.int 1)))) sSkip)
    (sRet (eV 3)))))))))))))))
noncomputable def m__law_bent : Fm := fnM 7 b__law_bent
noncomputable def b__law_case : S := (sSeq (sSet 3 (eCall m__law_bent [(eV 0), (eV 1), (eV 2)]))
    (sSeq (sSet 4 (eCall m__law_line [(eV 3)]))
    (sSeq (sSet 5 (eCall m__law_paper [(eV 3)]))
    (sSeq (sSet 6 (eB opIx (eV 3) (eC (.int 2))))
    (sSeq (sSet 7 (eB opSub (eB opMul (eC (.int 2)) (eCall m__law_take [(eV 0), (eC (.int 2))])) (eC (.int 1))))
    (sSeq (sSet 8 (eCall m__law_take [(eV 0), (eN opLen [(eV 5)])]))
    (sSeq (sIf (tBl (eB opEq (eV 2) (eC (.int 11)))) (sSetIx (eV 4) (eC (.int 4)) (eN opMin [(eN opMax [(eB opAdd (eB opIx (eV 4) (eC (.int 4))) (eV 7)), (eC (.int 0))]), (eC (.int 100000))])) sSkip)
    (sSeq (sIf (tBl (eB opEq (eV 2) (eC (.int 12)))) (sSet 6 (eB opAdd (eV 6) (eV 7))) sSkip)
    (sSeq (sIf (tBl (eB opEq (eV 2) (eC (.int 13)))) (sSetIx (eV 5) (eV 8) (eB opAdd (eB opIx (eV 5) (eV 8)) (eV 7))) sSkip)
    (sSeq (sIf (tBl (eB opEq (eV 2) (eC (.int 14)))) (sRet (eLst [(eV 4), (eV 6), (eV 5)])) sSkip)
    (sSeq (sIf (tAndM (tBl (eB opEq (eV 2) (eC (.int 15)))) (tBl (eB opLt (eV 7) (eC (.int 0))))) (sSet 5 (eSl (eV 5) none (some (eU opNeg (eC (.int 1)))))) sSkip)
    (sSeq (sIf (tAndM (tBl (eB opEq (eV 2) (eC (.int 15)))) (tBl (eB opGt (eV 7) (eC (.int 0))))) (sExpr (eMt opAppend (eV 5) [(eB opIx (eV 5) (eU opNeg (eC (.int 1))))])) sSkip)
    (sSeq (sIf (tAndM (tBl (eB opEq (eV 2) (eC (.int 16)))) (tBl (eB opGt (eB opIx (eV 5) (eV 8)) (eC (.int 1))))) (sSetIx (eV 5) (eV 8) (eB opIx (eLst [(eC .non), (eC (.bl true)), (eC (.str "1")), (eTup [(eC (.int 1))])]) (eCall m__law_take [(eV 0), (eC (.int 4))]))) (sIf (tBl (eB opEq (eV 2) (eC (.int 16)))) (sSetIx (eV 5) (eV 8) (eB opEq (eB opIx (eV 5) (eV 8)) (eC (.int 1)))) sSkip))
    (sSeq (sIf (tBl (eB opEq (eV 2) (eC (.int 17)))) (sRet (eLst [(eV 4), (eV 6), (eB opIx (eLst [(eC .non), (eTup []), (eC (.str "story")), (eC (.int 5))]) (eCall m__law_take [(eV 0), (eC (.int 4))]))])) sSkip)
    (sRet (eLst [(eV 4), (eV 6), (eN opTupleOf [(eV 5)])]))))))))))))))))
noncomputable def m__law_case : Fm := fnM 9 b__law_case
noncomputable def b__law_told_right : S := (sSeq (sSet 2 (eCall m__law_formula [(eV 0)]))
    (sSeq (sSet 3 (eCall m_story_of [(eTup [(eB opIx (eV 0) (eC (.int 0))), (eB opIx (eV 0) (eC (.int 1)))]), (eB opIx (eV 0) (eC (.int 2))), (eB opIx (eV 0) (eC (.int 3))), (eB opIx (eV 0) (eC (.int 4))), (eB opIx (eV 0) (eC (.int 5))), (eV 1)]))
    (sSeq (sIf (tOrM (tBl (eU opIsN (eV 2))) (tOrM (tBl (eB opLt (eV 1) (eB opIx (eV 2) (eC (.int 0))))) (tBl (eB opGt (eV 1) (eB opIx (eV 2) (eC (.int 1))))))) (sRet (eU opIsN (eV 3))) sSkip)
    (sSeq (sIf (tNotM (tTru (eCall m__law_is_story [(eV 0), (eV 1), (eV 3)]))) (sRet (eC (.bl false))) sSkip)
    (sRet (eB opIsB (eCall m_is_story [(eTup [(eB opIx (eV 0) (eC (.int 0))), (eB opIx (eV 0) (eC (.int 1)))]), (eB opIx (eV 0) (eC (.int 2))), (eB opIx (eV 0) (eC (.int 3))), (eB opIx (eV 0) (eC (.int 4))), (eB opIx (eV 0) (eC (.int 5))), (eV 1), (eV 3)]) (eC (.bl true))))))))
noncomputable def m__law_told_right : Fm := fnM 4 b__law_told_right
noncomputable def b_law_1 : S := (sIf (tNotM (tTru (eCall m__law_told_right [(eV 3), (eV 6)]))) (sRet (eC (.bl false))) sSkip)
noncomputable def b_law_2 : S := (sSeq (sUnp (gtTup [3, 6, 10]) (eCall m__law_case [(eV 1), (eV 2), (eV 7)]))
    (sSeq (sSet 8 (eCall m__law_is_story [(eV 3), (eV 6), (eV 10)]))
    (sSeq (sSet 9 (eCall m_is_story [(eTup [(eB opIx (eV 3) (eC (.int 0))), (eB opIx (eV 3) (eC (.int 1)))]), (eB opIx (eV 3) (eC (.int 2))), (eB opIx (eV 3) (eC (.int 3))), (eB opIx (eV 3) (eC (.int 4))), (eB opIx (eV 3) (eC (.int 5))), (eV 6), (eV 10)]))
    (sSeq (sIf (tOrM (tNotM (tTru (eU (opIsi .bool) (eV 9)))) (tBl (eB opNe (eV 9) (eV 8)))) (sRet (eC (.bl false))) sSkip)
    (sIf (tNotM (tTru (eCall m__law_told_right [(eV 3), (eV 6)]))) (sRet (eC (.bl false))) sSkip)))))
noncomputable def b_law : S := (sSeq (sSet 1 (eCall m__law_pool [(eV 0)]))
    (sSeq (sSet 2 (eCall m__law_tale [(eV 1)]))
    (sSeq (sSet 3 (eCall m__law_line [(eV 2)]))
    (sSeq (sSet 4 (eCall m__law_formula [(eV 3)]))
    (sSeq (sSet 5 (eLst [(eB opIx (eV 2) (eC (.int 2))), (eB opSub (eU opNeg (eC (.int 1))) (eCall m__law_wide [(eV 1), (eC (.int 1000))])), (eB opAdd (eC (.int 1000000)) (eCall m__law_wide [(eV 1), (eC (.int 1000000))]))]))
    (sSeq (sIf (tBl (eU opNotN (eV 4))) (sSeq (sExpr (eMt opExtend (eV 5) [(eLst [(eB opIx (eV 4) (eC (.int 0))), (eB opIx (eV 4) (eC (.int 1))), (eB opSub (eB opIx (eV 4) (eC (.int 0))) (eC (.int 1))), (eB opAdd (eB opIx (eV 4) (eC (.int 1))) (eC (.int 1)))])]))
    (sExpr (eMt opAppend (eV 5) [(eB opAdd (eB opIx (eV 4) (eC (.int 0))) (eCall m__law_wide [(eV 1), (eB opAdd (eB opSub (eB opIx (eV 4) (eC (.int 1))) (eB opIx (eV 4) (eC (.int 0)))) (eC (.int 1)))]))]))) sSkip)
    (sSeq (sFor (mSeq (eV 5)) (gtName 6) b_law_1)
    (sSeq (sFor (mRng1 (eC (.int 18))) (gtName 7) b_law_2)
    (sRet (eC (.bl true)))))))))))
noncomputable def m_law : Fm := fnM 11 b_law
end Lk26
namespace Lk26
open PySem L2 PyProof.Rows Sm
def top (i : Nat) : Stmt := PySem.Challenge.pw_surely_k26_stories_fill_the_window.main.body.getD i (.Pass ⟨0, 0, 0, 0⟩)
abbrev s_is_integer : Stmt := top 8
abbrev s_is_between : Stmt := top 9
abbrev s_check_line : Stmt := top 11
abbrev s_last_told : Stmt := top 12
abbrev s_window_of : Stmt := top 13
abbrev s_story_of : Stmt := top 15
abbrev s_is_story : Stmt := top 16
abbrev s__law_pool : Stmt := top 18
abbrev s__law_take : Stmt := top 19
abbrev s__law_wide : Stmt := top 20
abbrev s__law_edge : Stmt := top 21
abbrev s__law_formula : Stmt := top 22
abbrev s__law_is_story : Stmt := top 23
abbrev s__law_amount : Stmt := top 24
abbrev s__law_tale : Stmt := top 25
abbrev s__law_paper : Stmt := top 26
abbrev s__law_line : Stmt := top 27
abbrev s__law_bent : Stmt := top 28
abbrev s__law_case : Stmt := top 29
abbrev s__law_told_right : Stmt := top 30
abbrev s_law : Stmt := top 31
section
variable {P : Program} {w : World} {K : PySem.W.Frag} {mg : Str → Option Value} {base : Heap}
theorem sc_is_integer : FnScope ["value"] ["value"] (defScope s_is_integer) := ⟨rfl, rfl, rfl, by decide +kernel, rfl, by decide +kernel, by decide +kernel⟩
theorem d_is_integer {f : Addr} {fd : FuncData} (F : Fun K "is_integer" "is_integer" s_is_integer f fd) (T : Tx mg)  : FnOk P w K mg base (L2.CX P w) 1 f fd ["value"] (spM K G0 1 m_is_integer) :=
  fn_ok (N := ["value"]) (ps := ["value"]) (k := 0) (n := 1) (np := 1) (body := b_is_integer) rfl rfl F sc_is_integer fun cdv A outer s H E c => by
    exact (ss_one (s_ret (se_and (se_isi .int (se_var 0) (se_ty (by rfl) T.z_int bt_int) (by rfl) T.z_isinstance) (se_one (se_not (se_isi .bool (se_var 0) (se_ty (by rfl) T.z_bool bt_bool) (by rfl) T.z_isinstance))))))
theorem sc_is_between : FnScope ["value", "low", "high"] ["value", "low", "high"] (defScope s_is_between) := ⟨rfl, rfl, rfl, by decide +kernel, rfl, by decide +kernel, by decide +kernel⟩
theorem d_is_between {f : Addr} {fd : FuncData} (F : Fun K "is_between" "is_between" s_is_between f fd) (T : Tx mg) (O_is_integer : Ok P w K mg base G0 1 "is_integer" ["value"] m_is_integer) : FnOk P w K mg base (L2.CX P w) 2 f fd ["value", "low", "high"] (spM K G0 3 m_is_between) :=
  fn_ok (N := ["value", "low", "high"]) (ps := ["value", "low", "high"]) (k := 1) (n := 3) (np := 3) (body := b_is_between) rfl rfl F sc_is_between fun cdv A outer s H E c => by
    exact (ss_one (s_ret (se_and (se_call c O_is_integer (by decide) (by rfl) (sa_cons (se_var 0) sa_nil)) (se_and (se_le c.hu (se_var 1) (se_var 0)) (se_one (se_le c.hu (se_var 0) (se_var 2)))))))
theorem sc_check_line : FnScope ["rules", "sent", "got", "age", "hops"] ["rules", "sent", "got", "age", "hops"] (defScope s_check_line) := ⟨rfl, rfl, rfl, by decide +kernel, rfl, by decide +kernel, by decide +kernel⟩
theorem d_check_line {f : Addr} {fd : FuncData} (F : Fun K "check_line" "check_line" s_check_line f fd) (T : Tx mg) (O_is_between : Ok P w K mg base G0 2 "is_between" ["value", "low", "high"] m_is_between) : FnOk P w K mg base (L2.CX P w) 3 f fd ["rules", "sent", "got", "age", "hops"] (spM K G0 5 m_check_line) :=
  fn_ok (N := ["rules", "sent", "got", "age", "hops"]) (ps := ["rules", "sent", "got", "age", "hops"]) (k := 2) (n := 5) (np := 5) (body := b_check_line) rfl rfl F sc_check_line fun cdv A outer s H E c => by
    exact (ss_cons (s_if (st_w (sw_or (st_not (st_truth (se_isi .tuple (se_var 0) (se_ty (by rfl) T.z_tuple bt_tuple) (by rfl) T.z_isinstance))) (sw_or1 (st_ne c.hu (se_callB call_lenAll im_len (by rfl) T.z_len bt_len (sa_cons (se_var 0) sa_nil)) se_int)))) (ss_one s_never) ss_nil)
    (ss_cons (s_if (st_not (st_truth (se_call c O_is_between (by decide) (by rfl) (sa_cons (se_ix (se_var 0) se_int) (sa_cons se_int (sa_cons (se_globI' (by rfl) T.c_MOST_DELAY) sa_nil)))))) (ss_one s_never) ss_nil)
    (ss_cons (s_if (st_not (st_truth (se_call c O_is_between (by decide) (by rfl) (sa_cons (se_ix (se_var 0) se_int) (sa_cons se_int (sa_cons (se_globI' (by rfl) T.c_MOST_TTL) sa_nil)))))) (ss_one s_never) ss_nil)
    (ss_cons (s_if (st_not (st_truth (se_call c O_is_between (by decide) (by rfl) (sa_cons (se_var 1) (sa_cons se_int (sa_cons (se_globI' (by rfl) T.c_MOST_MOMENT) sa_nil)))))) (ss_one s_never) ss_nil)
    (ss_cons (s_if (st_not (st_truth (se_call c O_is_between (by decide) (by rfl) (sa_cons (se_var 2) (sa_cons se_int (sa_cons (se_globI' (by rfl) T.c_MOST_MOMENT) sa_nil)))))) (ss_one s_never) ss_nil)
    (ss_cons (s_if (st_not (st_truth (se_call c O_is_between (by decide) (by rfl) (sa_cons (se_var 3) (sa_cons se_int (sa_cons (se_globI' (by rfl) T.c_MOST_TTL) sa_nil)))))) (ss_one s_never) ss_nil)
    (ss_one (s_if (st_not (st_truth (se_call c O_is_between (by decide) (by rfl) (sa_cons (se_var 4) (sa_cons se_int (sa_cons (se_globI' (by rfl) T.c_MOST_TRAIL) sa_nil)))))) (ss_one s_never) ss_nil))))))))
theorem sc_last_told : FnScope ["rules", "sent", "got"] ["rules", "sent", "got"] (defScope s_last_told) := ⟨rfl, rfl, rfl, by decide +kernel, rfl, by decide +kernel, by decide +kernel⟩
theorem d_last_told {f : Addr} {fd : FuncData} (F : Fun K "last_told" "last_told" s_last_told f fd) (T : Tx mg)  : FnOk P w K mg base (L2.CX P w) 1 f fd ["rules", "sent", "got"] (spM K G0 3 m_last_told) :=
  fn_ok (N := ["rules", "sent", "got"]) (ps := ["rules", "sent", "got"]) (k := 0) (n := 3) (np := 3) (body := b_last_told) rfl rfl F sc_last_told fun cdv A outer s H E c => by
    exact (ss_one (s_ret (se_tup (sa_cons (se_callB (call_max2 c.hc) im_max (by rfl) T.z_max bt_max (sa_cons (se_var 1) (sa_cons (se_sub (se_var 2) (se_ix (se_var 0) se_int)) sa_nil))) (sa_cons (se_callB (call_min2 c.hc) im_min (by rfl) T.z_min bt_min (sa_cons (se_add (se_var 1) (se_ix (se_var 0) se_int)) (sa_cons (se_var 2) sa_nil))) sa_nil)))))
theorem sc_window_of : FnScope ["rules", "sent", "got", "age", "hops", "low", "high"] ["rules", "sent", "got", "age", "hops"] (defScope s_window_of) := ⟨rfl, rfl, rfl, by decide +kernel, rfl, by decide +kernel, by decide +kernel⟩
theorem d_window_of {f : Addr} {fd : FuncData} (F : Fun K "window_of" "window_of" s_window_of f fd) (T : Tx mg) (O_check_line : Ok P w K mg base G0 3 "check_line" ["rules", "sent", "got", "age", "hops"] m_check_line) (O_last_told : Ok P w K mg base G0 1 "last_told" ["rules", "sent", "got"] m_last_told) : FnOk P w K mg base (L2.CX P w) 4 f fd ["rules", "sent", "got", "age", "hops"] (spM K G0 5 m_window_of) :=
  fn_ok (N := ["rules", "sent", "got", "age", "hops", "low", "high"]) (ps := ["rules", "sent", "got", "age", "hops"]) (k := 3) (n := 7) (np := 5) (body := b_window_of) rfl rfl F sc_window_of fun cdv A outer s H E c => by
    exact (ss_cons (s_expr (se_call c O_check_line (by decide) (by rfl) (sa_cons (se_var 0) (sa_cons (se_var 1) (sa_cons (se_var 2) (sa_cons (se_var 3) (sa_cons (se_var 4) sa_nil)))))))
    (ss_cons (s_unp (se_call c O_last_told (by decide) (by rfl) (sa_cons (se_var 0) (sa_cons (se_var 1) (sa_cons (se_var 2) sa_nil)))) (pgn_tup c.hc (pgn_cons (i := 5) c.nd (pgn_cons (i := 6) c.nd pgn_nil))) (tg_tup rfl))
    (ss_cons (s_if (st_w (sw_or (st_gt c.hu (se_var 5) (se_var 6)) (sw_or (st_w (sw_and (st_eq c.hu (se_var 4) se_int) (sw_and1 (st_gt c.hu (se_var 3) se_int)))) (sw_or1 (st_lt c.hu (se_sub (se_var 6) (se_var 3)) se_int))))) (ss_one (s_ret se_non)) ss_nil)
    (ss_one (s_ret (se_tup (sa_cons (se_callB (call_max2 c.hc) im_max (by rfl) T.z_max bt_max (sa_cons se_int (sa_cons (se_sub (se_sub (se_sub (se_var 5) (se_var 3)) (se_mul (se_sub (se_var 4) se_int) (se_ix (se_var 0) se_int))) (se_ix (se_var 0) se_int)) sa_nil))) (sa_cons (se_sub (se_var 6) (se_var 3)) sa_nil))))))))
theorem sc_story_of : FnScope ["rules", "sent", "got", "age", "hops", "moment", "window", "slack", "lag", "story", "k", "transit", "taken", "kept"] ["rules", "sent", "got", "age", "hops", "moment"] (defScope s_story_of) := ⟨rfl, rfl, rfl, by decide +kernel, rfl, by decide +kernel, by decide +kernel⟩
theorem d_story_of {f : Addr} {fd : FuncData} (F : Fun K "story_of" "story_of" s_story_of f fd) (T : Tx mg) (O_is_integer : Ok P w K mg base G0 1 "is_integer" ["value"] m_is_integer) (O_window_of : Ok P w K mg base G0 4 "window_of" ["rules", "sent", "got", "age", "hops"] m_window_of) : FnOk P w K mg base (L2.CX P w) 5 f fd ["rules", "sent", "got", "age", "hops", "moment"] (spM K G0 6 m_story_of) :=
  fn_ok (N := ["rules", "sent", "got", "age", "hops", "moment", "window", "slack", "lag", "story", "k", "transit", "taken", "kept"]) (ps := ["rules", "sent", "got", "age", "hops", "moment"]) (k := 4) (n := 14) (np := 6) (body := b_story_of) rfl rfl F sc_story_of fun cdv A outer s H E c => by
    exact (ss_cons (s_set 6 c.nd (se_call c O_window_of (by decide) (by rfl) (sa_cons (se_var 0) (sa_cons (se_var 1) (sa_cons (se_var 2) (sa_cons (se_var 3) (sa_cons (se_var 4) sa_nil)))))))
    (ss_cons (s_if (st_not (st_truth (se_call c O_is_integer (by decide) (by rfl) (sa_cons (se_var 5) sa_nil)))) (ss_one s_never) ss_nil)
    (ss_cons (s_if (st_w (sw_or (st_isN (se_var 6)) (sw_or (st_lt c.hu (se_var 5) (se_ix (se_var 6) se_int)) (sw_or1 (st_gt c.hu (se_var 5) (se_ix (se_var 6) se_int)))))) (ss_one (s_ret se_non)) ss_nil)
    (ss_cons (s_set 7 c.nd (se_sub (se_ix (se_var 6) se_int) (se_var 5)))
    (ss_cons (s_set 8 c.nd (se_callB (call_min2 c.hc) im_min (by rfl) T.z_min bt_min (sa_cons (se_var 7) (sa_cons (se_ix (se_var 0) se_int) sa_nil))))
    (ss_cons (s_aug 7 c.nd iop_sub im_sub (se_var 8))
    (ss_cons (s_set 9 c.nd (se_lst (sa_cons (se_var 5) (sa_cons (se_add (se_var 5) (se_var 8)) sa_nil))))
    (ss_cons (s_for c.po c.hc (pi_range2 (by rfl) T.z_range (sa_cons se_int (sa_cons (se_var 4) sa_nil))) io_rng2 (pg_name (i := 10) c.nd rfl (by first | exact Or.inl rfl | exact Or.inr rfl)) tg_name (ss_cons (s_set 11 c.nd (se_callB (call_min2 c.hc) im_min (by rfl) T.z_min bt_min (sa_cons (se_var 7) (sa_cons (se_ix (se_var 0) se_int) sa_nil))))
    (ss_cons (s_aug 7 c.nd iop_sub im_sub (se_var 11))
    (ss_cons (s_set 12 c.nd (se_add (se_ix (se_var 9) (se_neg se_int)) (se_var 11)))
    (ss_cons (s_set 13 c.nd (se_if (st_eq c.hu (se_var 10) (se_sub (se_var 4) se_int)) (se_var 3) se_int))
    (ss_one (s_expr (se_extend (se_var 9) (sa_cons (se_lst (sa_cons (se_var 12) (sa_cons (se_add (se_var 12) (se_var 13)) sa_nil))) sa_nil)))))))))
    (ss_one (s_ret (se_callTy call_tuple_of im_tuple (by rfl) T.z_tuple bt_tuple (sa_cons (se_var 9) sa_nil))))))))))))
theorem sc_is_story : FnScope ["rules", "sent", "got", "age", "hops", "moment", "paper", "kept", "k", "low", "high", "part"] ["rules", "sent", "got", "age", "hops", "moment", "paper"] (defScope s_is_story) := ⟨rfl, rfl, rfl, by decide +kernel, rfl, by decide +kernel, by decide +kernel⟩
theorem d_is_story {f : Addr} {fd : FuncData} (F : Fun K "is_story" "is_story" s_is_story f fd) (T : Tx mg) (O_is_integer : Ok P w K mg base G0 1 "is_integer" ["value"] m_is_integer) (O_is_between : Ok P w K mg base G0 2 "is_between" ["value", "low", "high"] m_is_between) (O_last_told : Ok P w K mg base G0 1 "last_told" ["rules", "sent", "got"] m_last_told) (O_window_of : Ok P w K mg base G0 4 "window_of" ["rules", "sent", "got", "age", "hops"] m_window_of) : FnOk P w K mg base (L2.CX P w) 5 f fd ["rules", "sent", "got", "age", "hops", "moment", "paper"] (spM K G0 7 m_is_story) :=
  fn_ok (N := ["rules", "sent", "got", "age", "hops", "moment", "paper", "kept", "k", "low", "high", "part"]) (ps := ["rules", "sent", "got", "age", "hops", "moment", "paper"]) (k := 4) (n := 12) (np := 7) (body := b_is_story) rfl rfl F sc_is_story fun cdv A outer s H E c => by
    exact (ss_cons (s_expr (se_call c O_window_of (by decide) (by rfl) (sa_cons (se_var 0) (sa_cons (se_var 1) (sa_cons (se_var 2) (sa_cons (se_var 3) (sa_cons (se_var 4) sa_nil)))))))
    (ss_cons (s_if (st_not (st_truth (se_call c O_is_integer (by decide) (by rfl) (sa_cons (se_var 5) sa_nil)))) (ss_one s_never) ss_nil)
    (ss_cons (s_if (st_w (sw_or (st_not (st_truth (se_isi .tuple (se_var 6) (se_ty (by rfl) T.z_tuple bt_tuple) (by rfl) T.z_isinstance))) (sw_or1 (st_ne c.hu (se_callB call_lenAll im_len (by rfl) T.z_len bt_len (sa_cons (se_var 6) sa_nil)) (se_mul se_int (se_var 4)))))) (ss_one (s_ret se_bl)) ss_nil)
    (ss_cons (s_if (st_w (sw_or (st_not (st_truth (se_callB (cr_all c.hc) im_all (by rfl) T.z_all bt_all (sa_cons (se_lc (own := [("part", 11)]) (s := (gtName 11)) c.hc c.nd (pi_seq (se_var 6)) io_seq (blkOk_by (N := ["rules", "sent", "got", "age", "hops", "moment", "paper", "kept", "k", "low", "high", "part"]) (sc := defScope s_is_story) (by decide +kernel)) (fun _ _ _ _ _ => (pg_name (i := 11) c.nd rfl (by first | exact Or.inl rfl | exact Or.inr rfl))) (tgw_name (by decide)) (fun _ _ _ _ _ => pts_nil) yes_imp (fun _ _ _ _ _ => inBlkE c fun c => (se_call c O_is_integer (by decide) (by rfl) (sa_cons (se_var 11) sa_nil)))) sa_nil)))) (sw_or (st_ne c.hu (se_ix (se_var 6) se_int) (se_var 5)) (sw_or1 (st_lt c.hu (se_var 5) se_int))))) (ss_one (s_ret se_bl)) ss_nil)
    (ss_cons (s_if (st_not (st_truth (se_call c O_is_between (by decide) (by rfl) (sa_cons (se_sub (se_ix (se_var 6) se_int) (se_var 5)) (sa_cons se_int (sa_cons (se_ix (se_var 0) se_int) sa_nil)))))) (ss_one (s_ret se_bl)) ss_nil)
    (ss_cons (s_set 7 c.nd se_int)
    (ss_cons (s_for c.po c.hc (pi_range3 (by rfl) T.z_range (sa_cons se_int (sa_cons (se_mul se_int (se_var 4)) (sa_cons se_int sa_nil)))) io_rng3 (pg_name (i := 8) c.nd rfl (by first | exact Or.inl rfl | exact Or.inr rfl)) tg_name (ss_cons (s_if (st_w (sw_or (st_not (st_truth (se_call c O_is_between (by decide) (by rfl) (sa_cons (se_sub (se_ix (se_var 6) (se_var 8)) (se_ix (se_var 6) (se_sub (se_var 8) se_int))) (sa_cons se_int (sa_cons (se_ix (se_var 0) se_int) sa_nil)))))) (sw_or1 (st_lt c.hu (se_ix (se_var 6) (se_add (se_var 8) se_int)) (se_ix (se_var 6) (se_var 8)))))) (ss_one (s_ret se_bl)) ss_nil)
    (ss_one (s_aug 7 c.nd iop_add im_iaddI (se_sub (se_ix (se_var 6) (se_add (se_var 8) se_int)) (se_ix (se_var 6) (se_var 8)))))))
    (ss_cons (s_unp (se_call c O_last_told (by decide) (by rfl) (sa_cons (se_var 0) (sa_cons (se_var 1) (sa_cons (se_var 2) sa_nil)))) (pgn_tup c.hc (pgn_cons (i := 9) c.nd (pgn_cons (i := 10) c.nd pgn_nil))) (tg_tup rfl))
    (ss_one (s_ret (se_and (se_eq c.hu (se_var 7) (se_var 3)) (se_and (se_le c.hu (se_var 9) (se_ix (se_var 6) (se_neg se_int))) (se_one (se_le c.hu (se_ix (se_var 6) (se_neg se_int)) (se_var 10)))))))))))))))
theorem sc__law_pool : FnScope ["script", "row", "seed", "cell", "number", "k"] ["script"] (defScope s__law_pool) := ⟨rfl, rfl, rfl, by decide +kernel, rfl, by decide +kernel, by decide +kernel⟩
theorem d__law_pool {f : Addr} {fd : FuncData} (F : Fun K "_law_pool" "_law_pool" s__law_pool f fd) (T : Tx mg)  : FnOk P w K mg base (L2.CX P w) 1 f fd ["script"] (spM K G0 1 m__law_pool) :=
  fn_ok (N := ["script", "row", "seed", "cell", "number", "k"]) (ps := ["script"]) (k := 0) (n := 6) (np := 1) (body := b__law_pool) rfl rfl F sc__law_pool fun cdv A outer s H E c => by
    exact (ss_cons (s_set 1 c.nd (se_lst sa_nil))
    (ss_cons (s_set 2 c.nd se_int)
    (ss_cons (s_for c.po c.hc (pi_seq (se_sl (se_var 0) so_none (so_some se_int))) io_seq (pg_name (i := 3) c.nd rfl (by first | exact Or.inl rfl | exact Or.inr rfl)) tg_name (ss_cons (s_set 4 c.nd (se_mod (se_callTy call_int1 im_int (by rfl) T.z_int bt_int (sa_cons (se_add (se_mul se_int (se_callB call_abs im_abs (by rfl) T.z_abs bt_abs (sa_cons (se_callTy call_int1 im_int (by rfl) T.z_int bt_int (sa_cons (se_var 3) sa_nil)) sa_nil))) (se_callTy call_int1 im_int (by rfl) T.z_int bt_int (sa_cons (se_lt c.hu (se_var 3) se_int) sa_nil))) sa_nil)) (se_pow se_int se_int)))
    (ss_cons (s_set 2 c.nd (se_mod (se_callTy call_int1 im_int (by rfl) T.z_int bt_int (sa_cons (se_add (se_add (se_mul (se_var 2) se_int) (se_var 4)) se_int) sa_nil)) se_int))
    (ss_cons (s_if (st_lt c.hu (se_var 4) (se_pow se_int se_int)) (ss_cons (s_expr (se_append (se_var 1) (sa_cons (se_fdiv (se_mod (se_callTy call_int1 im_int (by rfl) T.z_int bt_int (sa_cons (se_mul (se_var 2) se_int) sa_nil)) se_int) se_int) sa_nil)))
    (ss_one (s_set 4 c.nd se_int))) ss_nil)
    (ss_one (s_for c.po c.hc (pi_range1 (by rfl) T.z_range (sa_cons se_int sa_nil)) io_rng1 (pg_name (i := 5) c.nd rfl (by first | exact Or.inl rfl | exact Or.inr rfl)) tg_name (ss_one (s_if (st_gt c.hu (se_var 4) se_int) (ss_cons (s_expr (se_append (se_var 1) (sa_cons (se_mod (se_callTy call_int1 im_int (by rfl) T.z_int bt_int (sa_cons (se_var 4) sa_nil)) se_int) sa_nil)))
    (ss_one (s_set 4 c.nd (se_fdiv (se_var 4) se_int)))) ss_nil))))))))
    (ss_one (s_ret (se_add (se_lst (sa_cons (se_var 2) sa_nil)) (se_rev (se_var 1))))))))
theorem sc__law_take : FnScope ["pool", "many"] ["pool", "many"] (defScope s__law_take) := ⟨rfl, rfl, rfl, by decide +kernel, rfl, by decide +kernel, by decide +kernel⟩
theorem d__law_take {f : Addr} {fd : FuncData} (F : Fun K "_law_take" "_law_take" s__law_take f fd) (T : Tx mg)  : FnOk P w K mg base (L2.CX P w) 1 f fd ["pool", "many"] (spM K G0 2 m__law_take) :=
  fn_ok (N := ["pool", "many"]) (ps := ["pool", "many"]) (k := 0) (n := 2) (np := 2) (body := b__law_take) rfl rfl F sc__law_take fun cdv A outer s H E c => by
    exact (ss_cons (s_if (st_gt c.hu (se_callB call_lenAll im_len (by rfl) T.z_len bt_len (sa_cons (se_var 0) sa_nil)) se_int) (ss_one (s_ret (se_mod (se_callTy call_int1 im_int (by rfl) T.z_int bt_int (sa_cons (se_pop (se_var 0)) sa_nil)) (se_var 1)))) ss_nil)
    (ss_cons (s_setIx c.hu1 (se_var 0) se_int (se_mod (se_callTy call_int1 im_int (by rfl) T.z_int bt_int (sa_cons (se_add (se_mul (se_ix (se_var 0) se_int) se_int) se_int) sa_nil)) se_int))
    (ss_one (s_ret (se_mod (se_callTy call_int1 im_int (by rfl) T.z_int bt_int (sa_cons (se_fdiv (se_mod (se_callTy call_int1 im_int (by rfl) T.z_int bt_int (sa_cons (se_mul (se_ix (se_var 0) se_int) se_int) sa_nil)) se_int) se_int) sa_nil)) (se_var 1))))))
theorem sc__law_wide : FnScope ["pool", "many"] ["pool", "many"] (defScope s__law_wide) := ⟨rfl, rfl, rfl, by decide +kernel, rfl, by decide +kernel, by decide +kernel⟩
theorem d__law_wide {f : Addr} {fd : FuncData} (F : Fun K "_law_wide" "_law_wide" s__law_wide f fd) (T : Tx mg) (O__law_take : Ok P w K mg base G0 1 "_law_take" ["pool", "many"] m__law_take) : FnOk P w K mg base (L2.CX P w) 2 f fd ["pool", "many"] (spM K G0 2 m__law_wide) :=
  fn_ok (N := ["pool", "many"]) (ps := ["pool", "many"]) (k := 1) (n := 2) (np := 2) (body := b__law_wide) rfl rfl F sc__law_wide fun cdv A outer s H E c => by
    exact (ss_one (s_ret (se_mod (se_callTy call_int1 im_int (by rfl) T.z_int bt_int (sa_cons (se_add (se_mul (se_call c O__law_take (by decide) (by rfl) (sa_cons (se_var 0) (sa_cons se_int sa_nil))) se_int) (se_call c O__law_take (by decide) (by rfl) (sa_cons (se_var 0) (sa_cons se_int sa_nil)))) sa_nil)) (se_var 1))))
theorem sc__law_edge : FnScope ["pool", "most", "pick"] ["pool", "most"] (defScope s__law_edge) := ⟨rfl, rfl, rfl, by decide +kernel, rfl, by decide +kernel, by decide +kernel⟩
theorem d__law_edge {f : Addr} {fd : FuncData} (F : Fun K "_law_edge" "_law_edge" s__law_edge f fd) (T : Tx mg) (O__law_take : Ok P w K mg base G0 1 "_law_take" ["pool", "many"] m__law_take) (O__law_wide : Ok P w K mg base G0 2 "_law_wide" ["pool", "many"] m__law_wide) : FnOk P w K mg base (L2.CX P w) 3 f fd ["pool", "most"] (spM K G0 2 m__law_edge) :=
  fn_ok (N := ["pool", "most", "pick"]) (ps := ["pool", "most"]) (k := 2) (n := 3) (np := 2) (body := b__law_edge) rfl rfl F sc__law_edge fun cdv A outer s H E c => by
    exact (ss_cons (s_set 2 c.nd (se_call c O__law_take (by decide) (by rfl) (sa_cons (se_var 0) (sa_cons se_int sa_nil))))
    (ss_cons (s_if (st_eq c.hu (se_var 2) se_int) (ss_one (s_ret se_int)) ss_nil)
    (ss_cons (s_if (st_eq c.hu (se_var 2) se_int) (ss_one (s_ret (se_var 1))) ss_nil)
    (ss_cons (s_if (st_eq c.hu (se_var 2) se_int) (ss_one (s_ret (se_callB (call_max2 c.hc) im_max (by rfl) T.z_max bt_max (sa_cons se_int (sa_cons (se_sub (se_var 1) (se_call c O__law_take (by decide) (by rfl) (sa_cons (se_var 0) (sa_cons se_int sa_nil)))) sa_nil))))) ss_nil)
    (ss_cons (s_if (st_eq c.hu (se_var 2) se_int) (ss_one (s_ret (se_callB (call_min2 c.hc) im_min (by rfl) T.z_min bt_min (sa_cons (se_var 1) (sa_cons (se_call c O__law_take (by decide) (by rfl) (sa_cons (se_var 0) (sa_cons se_int sa_nil))) sa_nil))))) ss_nil)
    (ss_one (s_ret (se_call c O__law_wide (by decide) (by rfl) (sa_cons (se_var 0) (sa_cons (se_add (se_var 1) se_int) sa_nil))))))))))
theorem sc__law_formula : FnScope ["line", "first", "last", "delay", "expire", "sent", "got", "age", "hops"] ["line"] (defScope s__law_formula) := ⟨rfl, rfl, rfl, by decide +kernel, rfl, by decide +kernel, by decide +kernel⟩
theorem d__law_formula {f : Addr} {fd : FuncData} (F : Fun K "_law_formula" "_law_formula" s__law_formula f fd) (T : Tx mg)  : FnOk P w K mg base (L2.CX P w) 1 f fd ["line"] (spM K G0 1 m__law_formula) :=
  fn_ok (N := ["line", "first", "last", "delay", "expire", "sent", "got", "age", "hops"]) (ps := ["line"]) (k := 0) (n := 9) (np := 1) (body := b__law_formula) rfl rfl F sc__law_formula fun cdv A outer s H E c => by
    exact (ss_cons (s_unp (se_var 0) (pgn_tup c.hc (pgn_cons (i := 3) c.nd (pgn_cons (i := 4) c.nd (pgn_cons (i := 5) c.nd (pgn_cons (i := 6) c.nd (pgn_cons (i := 7) c.nd (pgn_cons (i := 8) c.nd pgn_nil))))))) (tg_tup rfl))
    (ss_cons (s_set 1 c.nd (se_callB (call_max2 c.hc) im_max (by rfl) T.z_max bt_max (sa_cons (se_var 5) (sa_cons (se_sub (se_var 6) (se_var 3)) sa_nil))))
    (ss_cons (s_set 2 c.nd (se_callB (call_min2 c.hc) im_min (by rfl) T.z_min bt_min (sa_cons (se_add (se_var 5) (se_var 3)) (sa_cons (se_var 6) sa_nil))))
    (ss_cons (s_if (st_w (sw_or (st_gt c.hu (se_var 1) (se_var 2)) (sw_or (st_w (sw_and (st_eq c.hu (se_var 8) se_int) (sw_and1 (st_gt c.hu (se_var 7) se_int)))) (sw_or1 (st_lt c.hu (se_sub (se_var 2) (se_var 7)) se_int))))) (ss_one (s_ret se_non)) ss_nil)
    (ss_one (s_ret (se_tup (sa_cons (se_callB (call_max2 c.hc) im_max (by rfl) T.z_max bt_max (sa_cons se_int (sa_cons (se_sub (se_sub (se_sub (se_var 1) (se_var 7)) (se_mul (se_sub (se_var 8) se_int) (se_var 3))) (se_var 4)) sa_nil))) (sa_cons (se_sub (se_var 2) (se_var 7)) sa_nil)))))))))
theorem sc__law_is_story : FnScope ["line", "moment", "paper", "part", "kept", "k", "delay", "expire", "sent", "got", "age", "hops"] ["line", "moment", "paper"] (defScope s__law_is_story) := ⟨rfl, rfl, rfl, by decide +kernel, rfl, by decide +kernel, by decide +kernel⟩
theorem d__law_is_story {f : Addr} {fd : FuncData} (F : Fun K "_law_is_story" "_law_is_story" s__law_is_story f fd) (T : Tx mg)  : FnOk P w K mg base (L2.CX P w) 1 f fd ["line", "moment", "paper"] (spM K G0 3 m__law_is_story) :=
  fn_ok (N := ["line", "moment", "paper", "part", "kept", "k", "delay", "expire", "sent", "got", "age", "hops"]) (ps := ["line", "moment", "paper"]) (k := 0) (n := 12) (np := 3) (body := b__law_is_story) rfl rfl F sc__law_is_story fun cdv A outer s H E c => by
    exact (ss_cons (s_unp (se_var 0) (pgn_tup c.hc (pgn_cons (i := 6) c.nd (pgn_cons (i := 7) c.nd (pgn_cons (i := 8) c.nd (pgn_cons (i := 9) c.nd (pgn_cons (i := 10) c.nd (pgn_cons (i := 11) c.nd pgn_nil))))))) (tg_tup rfl))
    (ss_cons (s_if (st_w (sw_or (st_not (st_truth (se_isi .tuple (se_var 2) (se_ty (by rfl) T.z_tuple bt_tuple) (by rfl) T.z_isinstance))) (sw_or1 (st_ne c.hu (se_callB call_lenAll im_len (by rfl) T.z_len bt_len (sa_cons (se_var 2) sa_nil)) (se_mul se_int (se_var 11)))))) (ss_one (s_ret se_bl)) ss_nil)
    (ss_cons (s_for c.po c.hc (pi_seq (se_var 2)) io_seq (pg_name (i := 3) c.nd rfl (by first | exact Or.inl rfl | exact Or.inr rfl)) tg_name (ss_one (s_if (st_w (sw_or (st_not (st_truth (se_isi .int (se_var 3) (se_ty (by rfl) T.z_int bt_int) (by rfl) T.z_isinstance))) (sw_or1 (st_truth (se_isi .bool (se_var 3) (se_ty (by rfl) T.z_bool bt_bool) (by rfl) T.z_isinstance))))) (ss_one (s_ret se_bl)) ss_nil)))
    (ss_cons (s_if (st_w (sw_or (st_ne c.hu (se_ix (se_var 2) se_int) (se_var 1)) (sw_or (st_lt c.hu (se_var 1) se_int) (sw_or1 (st_not (st_chain op_le op_le im_le im_le se_int (se_sub (se_ix (se_var 2) se_int) (se_var 1)) (se_var 7))))))) (ss_one (s_ret se_bl)) ss_nil)
    (ss_cons (s_set 4 c.nd se_int)
    (ss_cons (s_for c.po c.hc (pi_range3 (by rfl) T.z_range (sa_cons se_int (sa_cons (se_mul se_int (se_var 11)) (sa_cons se_int sa_nil)))) io_rng3 (pg_name (i := 5) c.nd rfl (by first | exact Or.inl rfl | exact Or.inr rfl)) tg_name (ss_cons (s_if (st_w (sw_or (st_not (st_chain op_le op_le im_le im_le se_int (se_sub (se_ix (se_var 2) (se_var 5)) (se_ix (se_var 2) (se_sub (se_var 5) se_int))) (se_var 6))) (sw_or1 (st_lt c.hu (se_ix (se_var 2) (se_add (se_var 5) se_int)) (se_ix (se_var 2) (se_var 5)))))) (ss_one (s_ret se_bl)) ss_nil)
    (ss_one (s_set 4 c.nd (se_sub (se_add (se_var 4) (se_ix (se_var 2) (se_add (se_var 5) se_int))) (se_ix (se_var 2) (se_var 5)))))))
    (ss_one (s_ret (se_and (se_eq c.hu (se_var 4) (se_var 10)) (se_and (se_chain op_le op_le im_le im_le se_int (se_sub (se_ix (se_var 2) (se_neg se_int)) (se_var 8)) (se_var 6)) (se_one (se_chain op_le op_le im_le im_le se_int (se_sub (se_var 9) (se_ix (se_var 2) (se_neg se_int))) (se_var 6)))))))))))))
theorem sc__law_amount : FnScope ["pool", "most", "pick"] ["pool", "most"] (defScope s__law_amount) := ⟨rfl, rfl, rfl, by decide +kernel, rfl, by decide +kernel, by decide +kernel⟩
theorem d__law_amount {f : Addr} {fd : FuncData} (F : Fun K "_law_amount" "_law_amount" s__law_amount f fd) (T : Tx mg) (O__law_take : Ok P w K mg base G0 1 "_law_take" ["pool", "many"] m__law_take) (O__law_wide : Ok P w K mg base G0 2 "_law_wide" ["pool", "many"] m__law_wide) : FnOk P w K mg base (L2.CX P w) 3 f fd ["pool", "most"] (spM K G0 2 m__law_amount) :=
  fn_ok (N := ["pool", "most", "pick"]) (ps := ["pool", "most"]) (k := 2) (n := 3) (np := 2) (body := b__law_amount) rfl rfl F sc__law_amount fun cdv A outer s H E c => by
    exact (ss_cons (s_set 2 c.nd (se_call c O__law_take (by decide) (by rfl) (sa_cons (se_var 0) (sa_cons se_int sa_nil))))
    (ss_cons (s_if (st_eq c.hu (se_var 2) se_int) (ss_one (s_ret se_int)) ss_nil)
    (ss_cons (s_if (st_eq c.hu (se_var 2) se_int) (ss_one (s_ret (se_var 1))) ss_nil)
    (ss_one (s_ret (se_call c O__law_wide (by decide) (by rfl) (sa_cons (se_var 0) (sa_cons (se_add (se_var 1) se_int) sa_nil))))))))
theorem sc__law_tale : FnScope ["pool", "delay", "expire", "moment", "lag", "before", "behind", "transits", "kepts", "k"] ["pool"] (defScope s__law_tale) := ⟨rfl, rfl, rfl, by decide +kernel, rfl, by decide +kernel, by decide +kernel⟩
theorem d__law_tale {f : Addr} {fd : FuncData} (F : Fun K "_law_tale" "_law_tale" s__law_tale f fd) (T : Tx mg) (O__law_take : Ok P w K mg base G0 1 "_law_take" ["pool", "many"] m__law_take) (O__law_wide : Ok P w K mg base G0 2 "_law_wide" ["pool", "many"] m__law_wide) (O__law_edge : Ok P w K mg base G0 3 "_law_edge" ["pool", "most"] m__law_edge) (O__law_amount : Ok P w K mg base G0 3 "_law_amount" ["pool", "most"] m__law_amount) : FnOk P w K mg base (L2.CX P w) 4 f fd ["pool"] (spM K G0 1 m__law_tale) :=
  fn_ok (N := ["pool", "delay", "expire", "moment", "lag", "before", "behind", "transits", "kepts", "k"]) (ps := ["pool"]) (k := 3) (n := 10) (np := 1) (body := b__law_tale) rfl rfl F sc__law_tale fun cdv A outer s H E c => by
    exact (ss_cons (s_set 1 c.nd (se_call c O__law_edge (by decide) (by rfl) (sa_cons (se_var 0) (sa_cons se_int sa_nil))))
    (ss_cons (s_if (st_eq c.hu (se_call c O__law_take (by decide) (by rfl) (sa_cons (se_var 0) (sa_cons se_int sa_nil))) se_int) (ss_one (s_set 1 c.nd (se_call c O__law_take (by decide) (by rfl) (sa_cons (se_var 0) (sa_cons se_int sa_nil))))) ss_nil)
    (ss_cons (s_set 2 c.nd (se_call c O__law_edge (by decide) (by rfl) (sa_cons (se_var 0) (sa_cons se_int sa_nil))))
    (ss_cons (s_if (st_eq c.hu (se_call c O__law_take (by decide) (by rfl) (sa_cons (se_var 0) (sa_cons se_int sa_nil))) se_int) (ss_one (s_set 2 c.nd (se_call c O__law_take (by decide) (by rfl) (sa_cons (se_var 0) (sa_cons se_int sa_nil))))) ss_nil)
    (ss_cons (s_set 3 c.nd (se_call c O__law_wide (by decide) (by rfl) (sa_cons (se_var 0) (sa_cons se_int sa_nil))))
    (ss_cons (s_if (st_eq c.hu (se_call c O__law_take (by decide) (by rfl) (sa_cons (se_var 0) (sa_cons se_int sa_nil))) se_int) (ss_one (s_set 3 c.nd (se_call c O__law_take (by decide) (by rfl) (sa_cons (se_var 0) (sa_cons se_int sa_nil))))) ss_nil)
    (ss_cons (s_set 4 c.nd (se_call c O__law_amount (by decide) (by rfl) (sa_cons (se_var 0) (sa_cons (se_var 2) sa_nil))))
    (ss_cons (s_set 5 c.nd (se_call c O__law_amount (by decide) (by rfl) (sa_cons (se_var 0) (sa_cons (se_var 1) sa_nil))))
    (ss_cons (s_set 6 c.nd (se_call c O__law_amount (by decide) (by rfl) (sa_cons (se_var 0) (sa_cons (se_var 1) sa_nil))))
    (ss_cons (s_set 7 c.nd (se_lst sa_nil))
    (ss_cons (s_set 8 c.nd (se_lst sa_nil))
    (ss_cons (s_for c.po c.hc (pi_range1 (by rfl) T.z_range (sa_cons (se_call c O__law_take (by decide) (by rfl) (sa_cons (se_var 0) (sa_cons se_int sa_nil))) sa_nil)) io_rng1 (pg_name (i := 9) c.nd rfl (by first | exact Or.inl rfl | exact Or.inr rfl)) tg_name (ss_cons (s_expr (se_append (se_var 7) (sa_cons (se_call c O__law_amount (by decide) (by rfl) (sa_cons (se_var 0) (sa_cons (se_var 1) sa_nil))) sa_nil)))
    (ss_one (s_expr (se_append (se_var 8) (sa_cons (se_call c O__law_amount (by decide) (by rfl) (sa_cons (se_var 0) (sa_cons (se_ix (se_lst (sa_cons se_int (sa_cons se_int sa_nil))) (se_call c O__law_take (by decide) (by rfl) (sa_cons (se_var 0) (sa_cons se_int sa_nil)))) sa_nil))) sa_nil))))))
    (ss_one (s_ret (se_lst (sa_cons (se_var 1) (sa_cons (se_var 2) (sa_cons (se_var 3) (sa_cons (se_var 4) (sa_cons (se_var 5) (sa_cons (se_var 6) (sa_cons (se_var 7) (sa_cons (se_var 8) sa_nil)))))))))))))))))))))))
theorem sc__law_paper : FnScope ["tale", "paper", "k"] ["tale"] (defScope s__law_paper) := ⟨rfl, rfl, rfl, by decide +kernel, rfl, by decide +kernel, by decide +kernel⟩
theorem d__law_paper {f : Addr} {fd : FuncData} (F : Fun K "_law_paper" "_law_paper" s__law_paper f fd) (T : Tx mg)  : FnOk P w K mg base (L2.CX P w) 1 f fd ["tale"] (spM K G0 1 m__law_paper) :=
  fn_ok (N := ["tale", "paper", "k"]) (ps := ["tale"]) (k := 0) (n := 3) (np := 1) (body := b__law_paper) rfl rfl F sc__law_paper fun cdv A outer s H E c => by
    exact (ss_cons (s_set 1 c.nd (se_lst (sa_cons (se_ix (se_var 0) se_int) (sa_cons (se_add (se_ix (se_var 0) se_int) (se_ix (se_var 0) se_int)) sa_nil))))
    (ss_cons (s_for c.po c.hc (pi_range1 (by rfl) T.z_range (sa_cons (se_callB call_lenAll im_len (by rfl) T.z_len bt_len (sa_cons (se_ix (se_var 0) se_int) sa_nil)) sa_nil)) io_rng1 (pg_name (i := 2) c.nd rfl (by first | exact Or.inl rfl | exact Or.inr rfl)) tg_name (ss_cons (s_expr (se_append (se_var 1) (sa_cons (se_add (se_ix (se_var 1) (se_neg se_int)) (se_ix (se_ix (se_var 0) se_int) (se_var 2))) sa_nil)))
    (ss_one (s_expr (se_append (se_var 1) (sa_cons (se_add (se_ix (se_var 1) (se_neg se_int)) (se_ix (se_ix (se_var 0) se_int) (se_var 2))) sa_nil))))))
    (ss_one (s_ret (se_var 1)))))
theorem sc__law_line : FnScope ["tale", "last", "sent", "got", "age"] ["tale"] (defScope s__law_line) := ⟨rfl, rfl, rfl, by decide +kernel, rfl, by decide +kernel, by decide +kernel⟩
theorem d__law_line {f : Addr} {fd : FuncData} (F : Fun K "_law_line" "_law_line" s__law_line f fd) (T : Tx mg) (O__law_paper : Ok P w K mg base G0 1 "_law_paper" ["tale"] m__law_paper) : FnOk P w K mg base (L2.CX P w) 2 f fd ["tale"] (spM K G0 1 m__law_line) :=
  fn_ok (N := ["tale", "last", "sent", "got", "age"]) (ps := ["tale"]) (k := 1) (n := 5) (np := 1) (body := b__law_line) rfl rfl F sc__law_line fun cdv A outer s H E c => by
    exact (ss_cons (s_set 1 c.nd (se_ix (se_call c O__law_paper (by decide) (by rfl) (sa_cons (se_var 0) sa_nil)) (se_neg se_int)))
    (ss_cons (s_set 2 c.nd (se_callB (call_min2 c.hc) im_min (by rfl) T.z_min bt_min (sa_cons (se_callB (call_max2 c.hc) im_max (by rfl) T.z_max bt_max (sa_cons (se_sub (se_var 1) (se_ix (se_var 0) se_int)) (sa_cons se_int sa_nil))) (sa_cons se_int sa_nil))))
    (ss_cons (s_set 3 c.nd (se_callB (call_min2 c.hc) im_min (by rfl) T.z_min bt_min (sa_cons (se_callB (call_max2 c.hc) im_max (by rfl) T.z_max bt_max (sa_cons (se_add (se_var 1) (se_ix (se_var 0) se_int)) (sa_cons se_int sa_nil))) (sa_cons se_int sa_nil))))
    (ss_cons (s_set 4 c.nd (se_callB (call_min2 c.hc) im_min (by rfl) T.z_min bt_min (sa_cons (se_callB (call_max2 c.hc) im_max (by rfl) T.z_max bt_max (sa_cons (se_callB (cr_sum c.hc) im_sum (by rfl) T.z_sum bt_sum (sa_cons (se_ix (se_var 0) se_int) sa_nil)) (sa_cons se_int sa_nil))) (sa_cons se_int sa_nil))))
    (ss_one (s_ret (se_lst (sa_cons (se_ix (se_var 0) se_int) (sa_cons (se_ix (se_var 0) se_int) (sa_cons (se_var 2) (sa_cons (se_var 3) (sa_cons (se_var 4) (sa_cons (se_add se_int (se_callB call_lenAll im_len (by rfl) T.z_len bt_len (sa_cons (se_ix (se_var 0) se_int) sa_nil))) sa_nil)))))))))))))
theorem sc__law_bent : FnScope ["pool", "tale", "kind", "bent", "many", "place", "other"] ["pool", "tale", "kind"] (defScope s__law_bent) := ⟨rfl, rfl, rfl, by decide +kernel, rfl, by decide +kernel, by decide +kernel⟩
theorem d__law_bent {f : Addr} {fd : FuncData} (F : Fun K "_law_bent" "_law_bent" s__law_bent f fd) (T : Tx mg) (O__law_take : Ok P w K mg base G0 1 "_law_take" ["pool", "many"] m__law_take) : FnOk P w K mg base (L2.CX P w) 2 f fd ["pool", "tale", "kind"] (spM K G0 3 m__law_bent) :=
  fn_ok (N := ["pool", "tale", "kind", "bent", "many", "place", "other"]) (ps := ["pool", "tale", "kind"]) (k := 1) (n := 7) (np := 3) (body := b__law_bent) rfl rfl F sc__law_bent fun cdv A outer s H E c => by
    exact (ss_cons (s_set 3 c.nd (se_add (se_callTy (call_listAll c.hc) im_list (by rfl) T.z_list bt_list (sa_cons (se_sl (se_var 1) so_none (so_some se_int)) sa_nil)) (se_lst (sa_cons (se_callTy (call_listAll c.hc) im_list (by rfl) T.z_list bt_list (sa_cons (se_ix (se_var 1) se_int) sa_nil)) (sa_cons (se_callTy (call_listAll c.hc) im_list (by rfl) T.z_list bt_list (sa_cons (se_ix (se_var 1) se_int) sa_nil)) sa_nil)))))
    (ss_cons (s_set 4 c.nd (se_callB call_lenAll im_len (by rfl) T.z_len bt_len (sa_cons (se_ix (se_var 1) se_int) sa_nil)))
    (ss_cons (s_set 5 c.nd (se_call c O__law_take (by decide) (by rfl) (sa_cons (se_var 0) (sa_cons (se_callB (call_max2 c.hc) im_max (by rfl) T.z_max bt_max (sa_cons se_int (sa_cons (se_var 4) sa_nil))) sa_nil))))
    (ss_cons (s_if (st_eq c.hu (se_var 2) se_int) (ss_one (s_setIx c.hu1 (se_var 3) se_int (se_add (se_ix (se_var 3) se_int) se_int))) ss_nil)
    (ss_cons (s_if (st_eq c.hu (se_var 2) se_int) (ss_one (s_setIx c.hu1 (se_var 3) se_int (se_neg se_int))) ss_nil)
    (ss_cons (s_if (st_w (sw_and (st_eq c.hu (se_var 2) se_int) (sw_and1 (st_gt c.hu (se_var 4) se_int)))) (ss_one (s_setIx c.hu1 (se_ix (se_var 3) se_int) (se_var 5) (se_add (se_ix (se_var 3) se_int) se_int))) ss_nil)
    (ss_cons (s_if (st_w (sw_and (st_eq c.hu (se_var 2) se_int) (sw_and1 (st_gt c.hu (se_var 4) se_int)))) (ss_one (s_setIx c.hu1 (se_ix (se_var 3) se_int) (se_var 5) (se_neg se_int))) ss_nil)
    (ss_cons (s_if (st_w (sw_and (st_eq c.hu (se_var 2) se_int) (sw_and1 (st_gt c.hu (se_var 4) se_int)))) (ss_cons (s_set 6 c.nd (se_mod (se_add (se_var 5) se_int) (se_var 4)))
    (ss_cons (s_setIx c.hu1 (se_ix (se_var 3) se_int) (se_var 6) (se_add (se_add (se_ix (se_ix (se_var 3) se_int) (se_var 6)) (se_ix (se_ix (se_var 3) se_int) (se_var 5))) se_int))
    (ss_one (s_setIx c.hu1 (se_ix (se_var 3) se_int) (se_var 5) (se_neg se_int))))) ss_nil)
    (ss_cons (s_if (st_eq c.hu (se_var 2) se_int) (ss_one (s_setIx c.hu1 (se_var 3) se_int (se_add (se_ix (se_var 3) se_int) se_int))) ss_nil)
    (ss_cons (s_if (st_eq c.hu (se_var 2) se_int) (ss_one (s_setIx c.hu1 (se_var 3) se_int (se_neg se_int))) ss_nil)
    (ss_cons (s_if (st_eq c.hu (se_var 2) se_int) (ss_one (s_setIx c.hu1 (se_var 3) se_int (se_add (se_ix (se_var 3) se_int) se_int))) ss_nil)
    (ss_cons (s_if (st_eq c.hu (se_var 2) se_int) (ss_one (s_setIx c.hu1 (se_var 3) se_int (se_neg se_int))) ss_nil)
    (ss_cons (s_if (st_eq c.hu (se_var 2) se_int) (ss_one (s_setIx c.hu1 (se_var 3) se_int (se_neg se_int))) ss_nil)
    (ss_one (s_ret (se_var 3))))))))))))))))
theorem sc__law_case : FnScope ["pool", "tale", "kind", "bent", "line", "paper", "moment", "step", "spot"] ["pool", "tale", "kind"] (defScope s__law_case) := ⟨rfl, rfl, rfl, by decide +kernel, rfl, by decide +kernel, by decide +kernel⟩
theorem d__law_case {f : Addr} {fd : FuncData} (F : Fun K "_law_case" "_law_case" s__law_case f fd) (T : Tx mg) (O__law_take : Ok P w K mg base G0 1 "_law_take" ["pool", "many"] m__law_take) (O__law_paper : Ok P w K mg base G0 1 "_law_paper" ["tale"] m__law_paper) (O__law_line : Ok P w K mg base G0 2 "_law_line" ["tale"] m__law_line) (O__law_bent : Ok P w K mg base G0 2 "_law_bent" ["pool", "tale", "kind"] m__law_bent) : FnOk P w K mg base (L2.CX P w) 3 f fd ["pool", "tale", "kind"] (spM K G0 3 m__law_case) :=
  fn_ok (N := ["pool", "tale", "kind", "bent", "line", "paper", "moment", "step", "spot"]) (ps := ["pool", "tale", "kind"]) (k := 2) (n := 9) (np := 3) (body := b__law_case) rfl rfl F sc__law_case fun cdv A outer s H E c => by
    exact (ss_cons (s_set 3 c.nd (se_call c O__law_bent (by decide) (by rfl) (sa_cons (se_var 0) (sa_cons (se_var 1) (sa_cons (se_var 2) sa_nil)))))
    (ss_cons (s_set 4 c.nd (se_call c O__law_line (by decide) (by rfl) (sa_cons (se_var 3) sa_nil)))
    (ss_cons (s_set 5 c.nd (se_call c O__law_paper (by decide) (by rfl) (sa_cons (se_var 3) sa_nil)))
    (ss_cons (s_set 6 c.nd (se_ix (se_var 3) se_int))
    (ss_cons (s_set 7 c.nd (se_sub (se_mul se_int (se_call c O__law_take (by decide) (by rfl) (sa_cons (se_var 0) (sa_cons se_int sa_nil)))) se_int))
    (ss_cons (s_set 8 c.nd (se_call c O__law_take (by decide) (by rfl) (sa_cons (se_var 0) (sa_cons (se_callB call_lenAll im_len (by rfl) T.z_len bt_len (sa_cons (se_var 5) sa_nil)) sa_nil))))
    (ss_cons (s_if (st_eq c.hu (se_var 2) se_int) (ss_one (s_setIx c.hu1 (se_var 4) se_int (se_callB (call_min2 c.hc) im_min (by rfl) T.z_min bt_min (sa_cons (se_callB (call_max2 c.hc) im_max (by rfl) T.z_max bt_max (sa_cons (se_add (se_ix (se_var 4) se_int) (se_var 7)) (sa_cons se_int sa_nil))) (sa_cons se_int sa_nil))))) ss_nil)
    (ss_cons (s_if (st_eq c.hu (se_var 2) se_int) (ss_one (s_set 6 c.nd (se_add (se_var 6) (se_var 7)))) ss_nil)
    (ss_cons (s_if (st_eq c.hu (se_var 2) se_int) (ss_one (s_setIx c.hu1 (se_var 5) (se_var 8) (se_add (se_ix (se_var 5) (se_var 8)) (se_var 7)))) ss_nil)
    (ss_cons (s_if (st_eq c.hu (se_var 2) se_int) (ss_one (s_ret (se_lst (sa_cons (se_var 4) (sa_cons (se_var 6) (sa_cons (se_var 5) sa_nil)))))) ss_nil)
    (ss_cons (s_if (st_w (sw_and (st_eq c.hu (se_var 2) se_int) (sw_and1 (st_lt c.hu (se_var 7) se_int)))) (ss_one (s_set 5 c.nd (se_sl (se_var 5) so_none (so_some (se_neg se_int))))) ss_nil)
    (ss_cons (s_if (st_w (sw_and (st_eq c.hu (se_var 2) se_int) (sw_and1 (st_gt c.hu (se_var 7) se_int)))) (ss_one (s_expr (se_append (se_var 5) (sa_cons (se_ix (se_var 5) (se_neg se_int)) sa_nil)))) ss_nil)
    (ss_cons (s_if (st_w (sw_and (st_eq c.hu (se_var 2) se_int) (sw_and1 (st_gt c.hu (se_ix (se_var 5) (se_var 8)) se_int)))) (ss_one (s_setIx c.hu1 (se_var 5) (se_var 8) (se_ix (se_lst (sa_cons se_non (sa_cons se_bl (sa_cons se_str (sa_cons (se_tup (sa_cons se_int sa_nil)) sa_nil))))) (se_call c O__law_take (by decide) (by rfl) (sa_cons (se_var 0) (sa_cons se_int sa_nil)))))) (ss_one (s_if (st_eq c.hu (se_var 2) se_int) (ss_one (s_setIx c.hu1 (se_var 5) (se_var 8) (se_eq c.hu (se_ix (se_var 5) (se_var 8)) se_int))) ss_nil)))
    (ss_cons (s_if (st_eq c.hu (se_var 2) se_int) (ss_one (s_ret (se_lst (sa_cons (se_var 4) (sa_cons (se_var 6) (sa_cons (se_ix (se_lst (sa_cons se_non (sa_cons (se_tup sa_nil) (sa_cons se_str (sa_cons se_int sa_nil))))) (se_call c O__law_take (by decide) (by rfl) (sa_cons (se_var 0) (sa_cons se_int sa_nil)))) sa_nil)))))) ss_nil)
    (ss_one (s_ret (se_lst (sa_cons (se_var 4) (sa_cons (se_var 6) (sa_cons (se_callTy call_tuple_of im_tuple (by rfl) T.z_tuple bt_tuple (sa_cons (se_var 5) sa_nil)) sa_nil))))))))))))))))))))
theorem sc__law_told_right : FnScope ["line", "moment", "window", "actual"] ["line", "moment"] (defScope s__law_told_right) := ⟨rfl, rfl, rfl, by decide +kernel, rfl, by decide +kernel, by decide +kernel⟩
theorem d__law_told_right {f : Addr} {fd : FuncData} (F : Fun K "_law_told_right" "_law_told_right" s__law_told_right f fd) (T : Tx mg) (O_story_of : Ok P w K mg base G0 5 "story_of" ["rules", "sent", "got", "age", "hops", "moment"] m_story_of) (O_is_story : Ok P w K mg base G0 5 "is_story" ["rules", "sent", "got", "age", "hops", "moment", "paper"] m_is_story) (O__law_formula : Ok P w K mg base G0 1 "_law_formula" ["line"] m__law_formula) (O__law_is_story : Ok P w K mg base G0 1 "_law_is_story" ["line", "moment", "paper"] m__law_is_story) : FnOk P w K mg base (L2.CX P w) 6 f fd ["line", "moment"] (spM K G0 2 m__law_told_right) :=
  fn_ok (N := ["line", "moment", "window", "actual"]) (ps := ["line", "moment"]) (k := 5) (n := 4) (np := 2) (body := b__law_told_right) rfl rfl F sc__law_told_right fun cdv A outer s H E c => by
    exact (ss_cons (s_set 2 c.nd (se_call c O__law_formula (by decide) (by rfl) (sa_cons (se_var 0) sa_nil)))
    (ss_cons (s_set 3 c.nd (se_call c O_story_of (by decide) (by rfl) (sa_cons (se_tup (sa_cons (se_ix (se_var 0) se_int) (sa_cons (se_ix (se_var 0) se_int) sa_nil))) (sa_cons (se_ix (se_var 0) se_int) (sa_cons (se_ix (se_var 0) se_int) (sa_cons (se_ix (se_var 0) se_int) (sa_cons (se_ix (se_var 0) se_int) (sa_cons (se_var 1) sa_nil))))))))
    (ss_cons (s_if (st_w (sw_or (st_isN (se_var 2)) (sw_or (st_lt c.hu (se_var 1) (se_ix (se_var 2) se_int)) (sw_or1 (st_gt c.hu (se_var 1) (se_ix (se_var 2) se_int)))))) (ss_one (s_ret (se_isN (se_var 3)))) ss_nil)
    (ss_cons (s_if (st_not (st_truth (se_call c O__law_is_story (by decide) (by rfl) (sa_cons (se_var 0) (sa_cons (se_var 1) (sa_cons (se_var 3) sa_nil)))))) (ss_one (s_ret se_bl)) ss_nil)
    (ss_one (s_ret (se_isB c.hu (se_call c O_is_story (by decide) (by rfl) (sa_cons (se_tup (sa_cons (se_ix (se_var 0) se_int) (sa_cons (se_ix (se_var 0) se_int) sa_nil))) (sa_cons (se_ix (se_var 0) se_int) (sa_cons (se_ix (se_var 0) se_int) (sa_cons (se_ix (se_var 0) se_int) (sa_cons (se_ix (se_var 0) se_int) (sa_cons (se_var 1) (sa_cons (se_var 3) sa_nil)))))))) se_bl)))))))
theorem sc_law : FnScope ["script", "pool", "tale", "line", "window", "asked", "moment", "kind", "due", "told", "paper"] ["script"] (defScope s_law) := ⟨rfl, rfl, rfl, by decide +kernel, rfl, by decide +kernel, by decide +kernel⟩
theorem d_law {f : Addr} {fd : FuncData} (F : Fun K "law" "law" s_law f fd) (T : Tx mg) (O_is_story : Ok P w K mg base G0 5 "is_story" ["rules", "sent", "got", "age", "hops", "moment", "paper"] m_is_story) (O__law_pool : Ok P w K mg base G0 1 "_law_pool" ["script"] m__law_pool) (O__law_wide : Ok P w K mg base G0 2 "_law_wide" ["pool", "many"] m__law_wide) (O__law_formula : Ok P w K mg base G0 1 "_law_formula" ["line"] m__law_formula) (O__law_is_story : Ok P w K mg base G0 1 "_law_is_story" ["line", "moment", "paper"] m__law_is_story) (O__law_tale : Ok P w K mg base G0 4 "_law_tale" ["pool"] m__law_tale) (O__law_line : Ok P w K mg base G0 2 "_law_line" ["tale"] m__law_line) (O__law_case : Ok P w K mg base G0 3 "_law_case" ["pool", "tale", "kind"] m__law_case) (O__law_told_right : Ok P w K mg base G0 6 "_law_told_right" ["line", "moment"] m__law_told_right) : FnOk P w K mg base (L2.CX P w) 7 f fd ["script"] (spM K G0 1 m_law) :=
  fn_ok (N := ["script", "pool", "tale", "line", "window", "asked", "moment", "kind", "due", "told", "paper"]) (ps := ["script"]) (k := 6) (n := 11) (np := 1) (body := b_law) rfl rfl F sc_law fun cdv A outer s H E c => by
    exact (ss_cons (s_set 1 c.nd (se_call c O__law_pool (by decide) (by rfl) (sa_cons (se_var 0) sa_nil)))
    (ss_cons (s_set 2 c.nd (se_call c O__law_tale (by decide) (by rfl) (sa_cons (se_var 1) sa_nil)))
    (ss_cons (s_set 3 c.nd (se_call c O__law_line (by decide) (by rfl) (sa_cons (se_var 2) sa_nil)))
    (ss_cons (s_set 4 c.nd (se_call c O__law_formula (by decide) (by rfl) (sa_cons (se_var 3) sa_nil)))
    (ss_cons (s_set 5 c.nd (se_lst (sa_cons (se_ix (se_var 2) se_int) (sa_cons (se_sub (se_neg se_int) (se_call c O__law_wide (by decide) (by rfl) (sa_cons (se_var 1) (sa_cons se_int sa_nil)))) (sa_cons (se_add se_int (se_call c O__law_wide (by decide) (by rfl) (sa_cons (se_var 1) (sa_cons se_int sa_nil)))) sa_nil)))))
    (ss_cons (s_if (st_notN (se_var 4)) (ss_cons (s_expr (se_extend (se_var 5) (sa_cons (se_lst (sa_cons (se_ix (se_var 4) se_int) (sa_cons (se_ix (se_var 4) se_int) (sa_cons (se_sub (se_ix (se_var 4) se_int) se_int) (sa_cons (se_add (se_ix (se_var 4) se_int) se_int) sa_nil))))) sa_nil)))
    (ss_one (s_expr (se_append (se_var 5) (sa_cons (se_add (se_ix (se_var 4) se_int) (se_call c O__law_wide (by decide) (by rfl) (sa_cons (se_var 1) (sa_cons (se_add (se_sub (se_ix (se_var 4) se_int) (se_ix (se_var 4) se_int)) se_int) sa_nil)))) sa_nil))))) ss_nil)
    (ss_cons (s_for c.po c.hc (pi_seq (se_var 5)) io_seq (pg_name (i := 6) c.nd rfl (by first | exact Or.inl rfl | exact Or.inr rfl)) tg_name (ss_one (s_if (st_not (st_truth (se_call c O__law_told_right (by decide) (by rfl) (sa_cons (se_var 3) (sa_cons (se_var 6) sa_nil))))) (ss_one (s_ret se_bl)) ss_nil)))
    (ss_cons (s_for c.po c.hc (pi_range1 (by rfl) T.z_range (sa_cons se_int sa_nil)) io_rng1 (pg_name (i := 7) c.nd rfl (by first | exact Or.inl rfl | exact Or.inr rfl)) tg_name (ss_cons (s_unp (se_call c O__law_case (by decide) (by rfl) (sa_cons (se_var 1) (sa_cons (se_var 2) (sa_cons (se_var 7) sa_nil)))) (pgn_tup c.hc (pgn_cons (i := 3) c.nd (pgn_cons (i := 6) c.nd (pgn_cons (i := 10) c.nd pgn_nil)))) (tg_tup rfl))
    (ss_cons (s_set 8 c.nd (se_call c O__law_is_story (by decide) (by rfl) (sa_cons (se_var 3) (sa_cons (se_var 6) (sa_cons (se_var 10) sa_nil)))))
    (ss_cons (s_set 9 c.nd (se_call c O_is_story (by decide) (by rfl) (sa_cons (se_tup (sa_cons (se_ix (se_var 3) se_int) (sa_cons (se_ix (se_var 3) se_int) sa_nil))) (sa_cons (se_ix (se_var 3) se_int) (sa_cons (se_ix (se_var 3) se_int) (sa_cons (se_ix (se_var 3) se_int) (sa_cons (se_ix (se_var 3) se_int) (sa_cons (se_var 6) (sa_cons (se_var 10) sa_nil)))))))))
    (ss_cons (s_if (st_w (sw_or (st_not (st_truth (se_isi .bool (se_var 9) (se_ty (by rfl) T.z_bool bt_bool) (by rfl) T.z_isinstance))) (sw_or1 (st_ne c.hu (se_var 9) (se_var 8))))) (ss_one (s_ret se_bl)) ss_nil)
    (ss_one (s_if (st_not (st_truth (se_call c O__law_told_right (by decide) (by rfl) (sa_cons (se_var 3) (sa_cons (se_var 6) sa_nil))))) (ss_one (s_ret se_bl)) ss_nil)))))))
    (ss_one (s_ret se_bl))))))))))
end
end Lk26
namespace Lk26
open PySem L2 PyProof.Rows Sm SmPool
/-- the numbers of a line -/
structure Line where
  (delay expire sent got age hops : Int)
def Line.ds (l : Line) : List D := [.int l.delay, .int l.expire, .int l.sent, .int l.got, .int l.age, .int l.hops]
structure Line.Ok (l : Line) : Prop where
  d0 : 0 ≤ l.delay
  d1 : l.delay ≤ 1000
  e0 : 0 ≤ l.expire
  e1 : l.expire ≤ 100000
  s0 : 0 ≤ l.sent
  s1 : l.sent ≤ 1000000
  g0 : 0 ≤ l.got
  g1 : l.got ≤ 1000000
  a0 : 0 ≤ l.age
  a1 : l.age ≤ 100000
  h0 : 1 ≤ l.hops
  h1 : l.hops ≤ 4
/-! what the program answers -/
def win (L : Line) : Option (Int × Int) :=
  if (if L.got - L.delay > L.sent then L.got - L.delay else L.sent) > (if L.got < L.sent + L.delay then L.got else L.sent + L.delay) ∨ (L.hops = 1 ∧ L.age > 0) ∨ (if L.got < L.sent + L.delay then L.got else L.sent + L.delay) - L.age < 0 then none
  else some (if (if L.got - L.delay > L.sent then L.got - L.delay else L.sent) - L.age - (L.hops - 1) * L.delay - L.expire > 0 then (if L.got - L.delay > L.sent then L.got - L.delay else L.sent) - L.age - (L.hops - 1) * L.delay - L.expire else 0, (if L.got < L.sent + L.delay then L.got else L.sent + L.delay) - L.age)
def wd : Option (Int × Int) → D
  | none => .non
  | some (a, b) => .tup [.int a, .int b]
theorem isint_spec (i : Int) (h : Hh) : m_is_integer [.int i] h = .ok (.bl true) h := by simp [m_is_integer, b_is_integer]
theorem between_spec (i a b : Int) (h : Hh) (h1 : a ≤ i) (h2 : i ≤ b) : m_is_between [.int i, .int a, .int b] h = .ok (.bl true) h := by simp [m_is_between, b_is_between, isint_spec, h1, h2]
theorem check_spec (L : Line) (ok : L.Ok) (h : Hh) : m_check_line [.tup [.int L.delay, .int L.expire], .int L.sent, .int L.got, .int L.age, .int L.hops] h = .ok .non h := by
  obtain ⟨d0, d1, e0, e1', s0, s1, g0, g1, a0, a1', h0, h1⟩ := ok
  simp [m_check_line, b_check_line, atI, ixN, between_spec, *]
theorem told_spec (d x s g : Int) (h : Hh) : m_last_told [.tup [.int d, .int x], .int s, .int g] h = .ok (.tup [.int (if g - d > s then g - d else s), .int (if g < s + d then g else s + d)]) h := by
  simp [m_last_told, b_last_told, atI, ixN]
theorem window_spec (L : Line) (ok : L.Ok) (h : Hh) : m_window_of [.tup [.int L.delay, .int L.expire], .int L.sent, .int L.got, .int L.age, .int L.hops] h = .ok (wd (win L)) h := by
  have hm : mulOk (L.hops - 1) L.delay = true := mulOk_r (by have := ok.d0; omega) (by have := ok.d1; omega)
  have c := check_spec L ok h
  unfold win
  generalize hA : (if L.got - L.delay > L.sent then L.got - L.delay else L.sent) = A
  generalize hB : (if L.got < L.sent + L.delay then L.got else L.sent + L.delay) = B
  have gt : ∀ {i j : Int}, i > j ↔ j < i := Iff.rfl
  simp only [gt] at hA hB ⊢
  by_cases h1 : B < A
  · simp [m_window_of, b_window_of, c, told_spec, hA, hB, h1, wd]
  by_cases h2 : L.hops = 1
  · rw [h2] at c
    by_cases h3 : 0 < L.age
    · simp [m_window_of, b_window_of, c, told_spec, hA, hB, h1, h2, h3, wd]
    · by_cases h4 : B - L.age < 0
      · simp [m_window_of, b_window_of, c, told_spec, hA, hB, h1, h2, h3, h4, wd]
      · simp [m_window_of, b_window_of, c, told_spec, hA, hB, h1, h2, h3, h4, wd, atI, ixN, mulOk_l]
  · by_cases h4 : B - L.age < 0
    · simp [m_window_of, b_window_of, c, told_spec, hA, hB, h1, h2, h4, wd]
    · simp [m_window_of, b_window_of, c, told_spec, hA, hB, h1, h2, h4, wd, atI, ixN, hm]
theorem formula_spec (L : Line) (ok : L.Ok) (h : Hh) (l : Nat) (e : h[l]? = some (.lst L.ds)) : m__law_formula [.ref l] h = .ok (wd (win L)) h := by
  have hm : mulOk (L.hops - 1) L.delay = true := mulOk_r (by have := ok.d0; omega) (by have := ok.d1; omega)
  unfold win
  generalize hA : (if L.got - L.delay > L.sent then L.got - L.delay else L.sent) = A
  generalize hB : (if L.got < L.sent + L.delay then L.got else L.sent + L.delay) = B
  have gt : ∀ {i j : Int}, i > j ↔ j < i := Iff.rfl
  simp only [gt] at hA hB ⊢
  by_cases h1 : B < A
  · simp [m__law_formula, b__law_formula, e, Line.ds, hA, hB, h1, wd]
  by_cases h2 : L.hops = 1
  · by_cases h3 : 0 < L.age
    · simp [m__law_formula, b__law_formula, e, Line.ds, hA, hB, h1, h2, h3, wd]
    · by_cases h4 : B - L.age < 0
      · simp [m__law_formula, b__law_formula, e, Line.ds, hA, hB, h1, h2, h3, h4, wd]
      · simp [m__law_formula, b__law_formula, e, Line.ds, hA, hB, h1, h2, h3, h4, wd, mulOk_l]
  · by_cases h4 : B - L.age < 0
    · simp [m__law_formula, b__law_formula, e, Line.ds, hA, hB, h1, h2, h4, wd]
    · simp [m__law_formula, b__law_formula, e, Line.ds, hA, hB, h1, h2, h4, wd, hm]
end Lk26
namespace Lk26
open PySem L2 PyProof.Rows Sm SmPool
theorem between_bl (i a b : Int) (h : Hh) : m_is_between [.int i, .int a, .int b] h = .ok (.bl (decide (a ≤ i) && decide (i ≤ b))) h := by
  by_cases h1 : a ≤ i
  · simp [m_is_between, b_is_between, isint_spec, h1]
  · simp [m_is_between, b_is_between, isint_spec, h1]
/-! ### story_of -/
def stL (d age : Int) : Nat → Int → Int → List Int
  | 0, _, _ => []
  | n + 1, last, s => [last + (if d < s then d else s), last + (if d < s then d else s) + (if n = 0 then age else 0)] ++ stL d age n (last + (if d < s then d else s) + (if n = 0 then age else 0)) (s - (if d < s then d else s))
theorem st_turn {H : Hh} {i : Nat} {ys : List Int} {last : Int} (e : H[i]? = some (.lst ((ys ++ [last]).map D.int))) (hl : ys.length ≤ 1000) (d x age hops s k : Int) (e1 e2 e5 e6 e8 e11 e12 e13 : Option D) :
    b_story_of_1 [some (.tup [.int d, .int x]), e1, e2, some (.int age), some (.int hops), e5, e6, some (.int s), e8, some (.ref i), some (.int k), e11, e12, e13] H =
      .nx [some (.tup [.int d, .int x]), e1, e2, some (.int age), some (.int hops), e5, e6, some (.int (s - (if d < s then d else s))), e8, some (.ref i), some (.int k), some (.int (if d < s then d else s)), some (.int (last + (if d < s then d else s))), some (.int (if k = hops - 1 then age else 0))]
        ((H ++ [O.lst [D.int (last + (if d < s then d else s)), D.int (last + (if d < s then d else s) + (if k = hops - 1 then age else 0))]]).set i (O.lst ((ys ++ [last, last + (if d < s then d else s), last + (if d < s then d else s) + (if k = hops - 1 then age else 0)]).map D.int))) := by
  have hi : i < H.length := (List.getElem?_eq_some_iff.mp e).1
  have e' : ∀ g : Hh, (H ++ g)[i]? = some (.lst ((ys ++ [last]).map D.int)) := fun g => get_app e
  have hlast : atI (ys.map D.int ++ [D.int last]) (-1) = some (.int last) := by
    simp [atI, ixN]
    rw [if_pos (by omega)]
    simp
    have h2 : (-1 + ((ys.length : Int) + 1)).toNat = ys.length := by omega
    rw [h2]
    simp
  have ha : atI [D.int d, D.int x] 0 = some (.int d) := rfl
  have e0 : H[i]? = some (.lst (ys.map D.int ++ [D.int last])) := by rw [e]; simp
  have e1' : ∀ g : Hh, (H ++ g)[i]? = some (.lst (ys.map D.int ++ [D.int last])) := fun g => get_app e0
  have hz : ∀ k : Nat, k ≤ 1000 → k + 1 + 2 ≤ sizeLine := fun k hk => by rw [sizeLine_eq]; omega
  generalize htr : (if d < s then d else s) = tr
  by_cases hk : k = hops - 1
  · simp [b_story_of_1, e0, hlast, ha, htr, hk, e1', hz _ hl]
  · simp [b_story_of_1, e0, hlast, ha, htr, hk, e1', hz _ hl]
theorem st_loop {d x age hops : Int} {e1 e2 e5 e6 e8 : Option D} {i : Nat} : ∀ (n : Nat) (k : Int) (H : Hh) (ys : List Int) (last s : Int) (e10 e11 e12 e13 : Option D), k + n = hops → H[i]? = some (.lst ((ys ++ [last]).map D.int)) → ys.length + 2 * n ≤ 1000 →
    ∃ (s' : Int) (f10 f11 f12 f13 : Option D) (H' : Hh), forL (gtName 10) b_story_of_1 none (rngD k n) [some (.tup [.int d, .int x]), e1, e2, some (.int age), some (.int hops), e5, e6, some (.int s), e8, some (.ref i), e10, e11, e12, e13] H =
      .nx [some (.tup [.int d, .int x]), e1, e2, some (.int age), some (.int hops), e5, e6, some (.int s'), e8, some (.ref i), f10, f11, f12, f13] H' ∧ Xt i H H' ∧ H'[i]? = some (.lst ((ys ++ [last] ++ stL d age n last s).map D.int))
  | 0, k, H, ys, last, s, e10, e11, e12, e13, hk, e, hl => ⟨s, e10, e11, e12, e13, H, by rw [rngD_nil, forL_nil (gd := none) trivial], Xt.refl, by rw [e]; simp [stL]⟩
  | n + 1, k, H, ys, last, s, e10, e11, e12, e13, hk, e, hl => by
    have t := st_turn (x := x) (e1 := e1) (e2 := e2) (e5 := e5) (e6 := e6) (e8 := e8) (e11 := e11) (e12 := e12) (e13 := e13) e (by omega) d age hops s k
    have hi : i < H.length := (List.getElem?_eq_some_iff.mp e).1
    have hk' : (k = hops - 1) ↔ n = 0 := by constructor <;> intro z <;> omega
    simp only [hk'] at t
    obtain ⟨s', f10, f11, f12, f13, H', eq, xt, e'⟩ := st_loop (d := d) (x := x) (age := age) (hops := hops) (e1 := e1) (e2 := e2) (e5 := e5) (e6 := e6) (e8 := e8) (i := i) n (k + 1) _ (ys ++ [last, last + (if d < s then d else s)]) (last + (if d < s then d else s) + (if n = 0 then age else 0)) (s - (if d < s then d else s)) (some (.int k)) (some (.int (if d < s then d else s))) (some (.int (last + (if d < s then d else s)))) (some (.int (if n = 0 then age else 0))) (by omega)
      (List.getElem?_set_self (a := O.lst ((ys ++ [last, last + (if d < s then d else s), last + (if d < s then d else s) + (if n = 0 then age else 0)]).map D.int)) (l := H ++ [O.lst [D.int (last + (if d < s then d else s)), D.int (last + (if d < s then d else s) + (if n = 0 then age else 0))]]) (i := i) (by simp; omega) |>.trans (by simp)) (by simp; omega)
    refine ⟨s', f10, f11, f12, f13, H', ?_, (Xt.app.trans Xt.set).trans xt, ?_⟩
    · rw [rngD_succ, forL_nx (g := gtName 10) (gd := none) trivial rfl t]
      exact eq
    · rw [e']
      simp [stL]
def inW (L : Line) (m : Int) : Prop := ∃ a b, win L = some (a, b) ∧ a ≤ m ∧ m ≤ b
def stD (L : Line) (m : Int) : List Int := match win L with
  | none => []
  | some (_, b) => [m, m + (if L.expire < b - m then L.expire else b - m)] ++ stL L.delay L.age (L.hops - 1).toNat (m + (if L.expire < b - m then L.expire else b - m)) (b - m - (if L.expire < b - m then L.expire else b - m))
theorem story_out (L : Line) (ok : L.Ok) (m : Int) (h : Hh) (hn : ¬ inW L m) : m_story_of [.tup [.int L.delay, .int L.expire], .int L.sent, .int L.got, .int L.age, .int L.hops, .int m] h = .ok .non h := by
  have w := window_spec L ok h
  cases e : win L with
  | none =>
    rw [e] at w
    simp [m_story_of, b_story_of, w, isint_spec, wd]
  | some ab =>
    obtain ⟨a, b⟩ := ab
    rw [e] at w
    by_cases h1 : m < a
    · simp [m_story_of, b_story_of, w, isint_spec, wd, atI, ixN, h1]
    · have h2 : b < m := by
        refine Int.lt_of_not_ge fun z => hn ⟨a, b, e, by omega, z⟩
      simp [m_story_of, b_story_of, w, isint_spec, wd, atI, ixN, h1, h2]
theorem story_in (L : Line) (ok : L.Ok) (m : Int) (h : Hh) (hi : inW L m) : ∃ H', m_story_of [.tup [.int L.delay, .int L.expire], .int L.sent, .int L.got, .int L.age, .int L.hops, .int m] h = .ok (.tup ((stD L m).map D.int)) H' ∧ Kp h H' := by
  obtain ⟨a, b, e, h1, h2⟩ := hi
  have w := window_spec L ok h
  rw [e] at w
  unfold stD
  rw [e]
  have h1' : ¬ m < a := by omega
  have h2' : ¬ b < m := by omega
  have n0 := ok.h0
  have n1 := ok.h1
  have hr : Sm.inR L.hops = true := by unfold Sm.inR; simp; omega
  have hr1 : Sm.inR 1 = true := rfl
  generalize hlag : (if L.expire < b - m then L.expire else b - m) = lag
  obtain ⟨s', f10, f11, f12, f13, H', eq, xt, e'⟩ := st_loop (d := L.delay) (x := L.expire) (age := L.age) (hops := L.hops) (e1 := some (.int L.sent)) (e2 := some (.int L.got)) (e5 := some (.int m)) (e6 := some (wd (some (a, b)))) (e8 := some (.int lag)) (i := h.length) (L.hops - 1).toNat 1 (h ++ [.lst [.int m, .int (m + lag)]]) [m] (m + lag) (b - m - lag) none none none none (by omega) (by simp) (by simp; omega)
  refine ⟨H', ?_, Kp.of_xt xt⟩
  have e'' : H'[h.length]? = some (.lst (([m, m + lag] ++ stL L.delay L.age (L.hops - 1).toNat (m + lag) (b - m - lag)).map D.int)) := by rw [e']; simp
  simp only [wd] at eq w
  have hq : (L.hops - 1).toNat = L.hops.toNat - 1 := by omega
  rw [hq] at eq e'' ⊢
  simp [m_story_of, b_story_of, w, isint_spec, atI, ixN, h1', h2', hlag, hr, hr1, eq, e'']
/-! ### is_story -/
def goB (d : Int) : Int → List Int → Option Int
  | _, [] => some 0
  | p, a :: b :: r => if (0 ≤ a - p ∧ a - p ≤ d) ∧ a ≤ b then (goB d b r).map fun t => b - a + t else none
  | _, [_] => none
def lo (L : Line) : Int := if L.got - L.delay > L.sent then L.got - L.delay else L.sent
def hi (L : Line) : Int := if L.got < L.sent + L.delay then L.got else L.sent + L.delay
def lastI : Int → List Int → Int
  | b, [] => b
  | _, c :: r => lastI c r
def stB (L : Line) (m : Int) : List Int → Bool
  | a :: b :: r => decide (a = m) && decide (0 ≤ m) && decide (0 ≤ b - m ∧ b - m ≤ L.expire) && (match goB L.delay b r with
    | none => false
    | some t => decide (t = L.age) && decide (lo L ≤ lastI b r) && decide (lastI b r ≤ hi L))
  | _ => false
theorem at_mid {pre r : List Int} {p a b : Int} : (pre ++ p :: a :: b :: r)[pre.length]? = some p ∧ (pre ++ p :: a :: b :: r)[pre.length + 1]? = some a ∧ (pre ++ p :: a :: b :: r)[pre.length + 2]? = some b := by
  refine ⟨by simp, ?_, ?_⟩
  · rw [List.getElem?_append_right (by omega)]; simp
  · rw [List.getElem?_append_right (by omega)]; simp
theorem atI_get {xs : List Int} {j : Nat} {i : Int} {a : Int} (hi : i = (j : Int)) (e : xs[j]? = some a) : atI (xs.map D.int) i = some (.int a) := by
  subst hi
  have hj := (List.getElem?_eq_some_iff.mp e).1
  simp [atI, ixN, hj, e]
  obtain ⟨_, h⟩ := List.getElem?_eq_some_iff.mp e
  exact h
theorem is_loop {h : Hh} {d x : Int} {ns : List Int} {e1 e2 e3 e4 e5 : Option D} {e9 e10 e11 : Option D} : ∀ (n : Nat) (pre r : List Int) (p kept : Int) (e8 : Option D), ns = pre ++ p :: r → r.length = 2 * n →
    match goB d p r with
    | none => forL (gtName 8) b_is_story_1 none (rngS ((pre.length : Int) + 1) 2 n) [some (.tup [.int d, .int x]), e1, e2, e3, e4, e5, some (.tup (ns.map D.int)), some (.int kept), e8, e9, e10, e11] h = .rt (.bl false) h
    | some t => ∃ e8', forL (gtName 8) b_is_story_1 none (rngS ((pre.length : Int) + 1) 2 n) [some (.tup [.int d, .int x]), e1, e2, e3, e4, e5, some (.tup (ns.map D.int)), some (.int kept), e8, e9, e10, e11] h =
      .nx [some (.tup [.int d, .int x]), e1, e2, e3, e4, e5, some (.tup (ns.map D.int)), some (.int (kept + t)), e8', e9, e10, e11] h
  | 0, pre, r, p, kept, e8, hns, hr => by
    have : r = [] := List.length_eq_zero_iff.mp (by omega)
    subst this
    exact ⟨e8, by rw [rngS_zero, forL_nil (gd := none) trivial]; simp⟩
  | n + 1, pre, r, p, kept, e8, hns, hr => by
    match r, hr with
    | a :: b :: r, hr =>
      obtain ⟨m1, m2, m3⟩ := at_mid (pre := pre) (p := p) (a := a) (b := b) (r := r)
      rw [← hns] at m1 m2 m3
      have a1 : atI (ns.map D.int) ((pre.length : Int) + 1) = some (.int a) := atI_get (by omega) m2
      have a2 : atI (ns.map D.int) ((pre.length : Int) + 1 - 1) = some (.int p) := atI_get (j := pre.length) (by omega) m1
      have a2' : atI (ns.map D.int) (pre.length : Int) = some (.int p) := atI_get (j := pre.length) (by omega) m1
      have a3 : atI (ns.map D.int) ((pre.length : Int) + 1 + 1) = some (.int b) := atI_get (j := pre.length + 2) (by omega) m3
      have a4 : atI [D.int d, D.int x] 0 = some (.int d) := rfl
      have hz : (pre.length : Int) + 1 - 1 = pre.length := by omega
      unfold goB
      rw [rngS_succ]
      by_cases c : (0 ≤ a - p ∧ a - p ≤ d) ∧ a ≤ b
      · have hb : b_is_story_1 [some (.tup [.int d, .int x]), e1, e2, e3, e4, e5, some (.tup (ns.map D.int)), some (.int kept), some (.int ((pre.length : Int) + 1)), e9, e10, e11] h =
            .nx [some (.tup [.int d, .int x]), e1, e2, e3, e4, e5, some (.tup (ns.map D.int)), some (.int (kept + (b - a))), some (.int ((pre.length : Int) + 1)), e9, e10, e11] h := by
          have c1 : p ≤ a := by omega
          have c2 : ¬ b < a := by omega
          simp [b_is_story_1, between_bl, a1, a2, a2', a3, a4, hz, c1, c.1.2, c2]
        rw [if_pos c]
        have ih := is_loop (h := h) (d := d) (x := x) (ns := ns) (e1 := e1) (e2 := e2) (e3 := e3) (e4 := e4) (e5 := e5) (e9 := e9) (e10 := e10) (e11 := e11) n (pre ++ [p, a]) r b (kept + (b - a)) (some (.int ((pre.length : Int) + 1))) (by rw [hns]; simp) (by simp at hr; omega)
        have hp : (((pre ++ [p, a]).length : Nat) : Int) + 1 = (pre.length : Int) + 1 + 2 := by simp; omega
        rw [hp] at ih
        rw [forL_nx (g := gtName 8) (gd := none) trivial rfl hb]
        cases q : goB d b r with
        | none => rw [q] at ih; simpa using ih
        | some t =>
          rw [q] at ih
          obtain ⟨e8', ih⟩ := ih
          exact ⟨e8', by rw [ih, Int.add_assoc]⟩
      · rw [if_neg c]
        have hb : b_is_story_1 [some (.tup [.int d, .int x]), e1, e2, e3, e4, e5, some (.tup (ns.map D.int)), some (.int kept), some (.int ((pre.length : Int) + 1)), e9, e10, e11] h = .rt (.bl false) h := by
          by_cases c1 : p ≤ a
          · by_cases c2 : a - p ≤ d
            · have c3 : b < a := by omega
              simp [b_is_story_1, between_bl, a1, a2, a2', a3, a4, hz, c1, c2, c3]
            · simp [b_is_story_1, between_bl, a1, a2, a2', a3, a4, hz, c1, c2]
          · simp [b_is_story_1, between_bl, a1, a2, a2', a3, a4, hz, c1]
        exact forL_rt trivial rfl hb
end Lk26
namespace Lk26
open PySem L2 PyProof.Rows Sm SmPool
def isI : D → Bool
  | .int _ => true
  | _ => false
def flat : D → Bool
  | .ref _ => false
  | .fls _ => false
  | _ => true
theorem int_spec {d : D} (f : flat d = true) (h : Hh) : m_is_integer [d] h = .ok (.bl (isI d)) h := by
  cases d <;> simp [flat] at f <;> simp [m_is_integer, b_is_integer, isI, isT]
theorem bools_map (g : D → Bool) : ∀ ds : List D, bools (ds.map fun x => D.bl (g x)) = some (ds.map g)
  | [] => rfl
  | d :: ds => by simp [bools, bools_map g ds]
theorem all_ints : ∀ ds : List D, ds.all isI = true → ∃ ns : List Int, ds = ns.map D.int
  | [], _ => ⟨[], rfl⟩
  | d :: ds, h => by
    simp only [List.all_cons, Bool.and_eq_true] at h
    obtain ⟨ns, rfl⟩ := all_ints ds h.2
    cases d with
    | int i => exact ⟨i :: ns, rfl⟩
    | _ => simp [isI] at h
theorem ints_all : ∀ ns : List Int, (ns.map D.int).all isI = true
  | [] => rfl
  | n :: ns => by simp [isI]
theorem intsOf_map : ∀ ns : List Int, intsOf (ns.map D.int) = some ns
  | [] => rfl
  | n :: ns => by simp [intsOf, intsOf_map ns]
/-- what both walks answer -/
def stP (L : Line) (m : Int) : D → Bool
  | .tup ds => decide ((ds.length : Int) = 2 * L.hops) && (match intsOf ds with
    | some ns => stB L m ns
    | none => false)
  | _ => false
def PaperOk (h : Hh) : D → Prop
  | .tup ds => ds.all flat = true ∧ ds.length ≤ 1000
  | .ref n => ∃ xs, h[n]? = some (.lst xs)
  | .fls _ => False
  | _ => True
theorem intsOf_none : ∀ ds : List D, ds.all isI = false → intsOf ds = none
  | [], h => by simp at h
  | d :: ds, h => by
    cases d with
    | int i =>
      have h' : (true && ds.all isI) = false := by rw [List.all_cons] at h; exact h
      rw [Bool.true_and] at h'
      simp [intsOf, intsOf_none ds h']
    | _ => rfl
theorem lastI_get : ∀ (a b : Int) (r : List Int), (a :: b :: r)[r.length + 1]? = some (lastI b r)
  | a, b, [] => rfl
  | a, b, c :: r => by
    have := lastI_get b c r
    simpa [lastI] using this
theorem last_at (a b : Int) (r : List Int) : atI ((a :: b :: r).map D.int) (-1) = some (.int (lastI b r)) := by
  have h : (a :: b :: r)[r.length + 1]? = some (lastI b r) := by
    exact lastI_get a b r
  have h1 : (-1 + ((r.length : Int) + 1 + 1)).toNat = r.length + 1 := by omega
  have h2 : (1 : Int) ≤ (r.length : Int) + 1 + 1 := by omega
  have h3 : ((a :: b :: r).map D.int)[r.length + 1]? = some (.int (lastI b r)) := by
    rw [List.getElem?_map, h]; rfl
  unfold atI ixN
  have hl : ((a :: b :: r).map D.int).length = r.length + 2 := by simp
  rw [hl, if_neg (by decide), if_pos (by omega)]
  simp only [Option.bind_some]
  rw [show (-1 + ((r.length + 2 : Nat) : Int)).toNat = r.length + 1 from by omega]
  exact h3
theorem isst_spec (L : Line) (ok : L.Ok) (m : Int) (paper : D) (h : Hh) (hp : PaperOk h paper) : ∃ H', m_is_story [.tup [.int L.delay, .int L.expire], .int L.sent, .int L.got, .int L.age, .int L.hops, .int m, paper] h = .ok (.bl (stP L m paper)) H' ∧ Kp h H' := by
  have w := window_spec L ok h
  have n0 := ok.h0
  have n1 := ok.h1
  have hm : mulOk 2 L.hops = true := mulOk_l (by omega) (by omega)
  cases paper with
  | non => exact ⟨h, by simp [m_is_story, b_is_story, w, isint_spec, stP], Kp.refl⟩
  | bl b => exact ⟨h, by simp [m_is_story, b_is_story, w, isint_spec, stP, isT], Kp.refl⟩
  | int i => exact ⟨h, by simp [m_is_story, b_is_story, w, isint_spec, stP, isT], Kp.refl⟩
  | str i => exact ⟨h, by simp [m_is_story, b_is_story, w, isint_spec, stP, isT], Kp.refl⟩
  | fls ds => exact hp.elim
  | ref n =>
    obtain ⟨xs, e⟩ := hp
    exact ⟨h, by simp [m_is_story, b_is_story, w, isint_spec, stP, isT, e], Kp.refl⟩
  | tup ds =>
    obtain ⟨fl, hl⟩ := hp
    by_cases hlen : (ds.length : Int) = 2 * L.hops
    · have lc := lcL_pure (g := gtName 11) (t := tYesM) (m := eCall m_is_integer [eV 11]) (vs := [11]) (gd := none) (env := [some (.tup [.int L.delay, .int L.expire]), some (.int L.sent), some (.int L.got), some (.int L.age), some (.int L.hops), some (.int m), some (.tup ds), none, none, none, none, none]) h (fun x => .bl (isI x)) (fun _ => trivial) ds [] (fun x hx acc => by
        have := List.all_eq_true.mp fl x hx
        refine ⟨_, rfl, rfl, ?_⟩
        simp [int_spec this]) (by rw [sizeLine_eq]; simp; omega)
      simp only [List.nil_append] at lc
      cases hall : ds.all isI with
      | false =>
        refine ⟨h ++ [.lst (ds.map fun x => .bl (isI x))], ?_, Kp.app⟩
        have hb : (ds.map isI).all id = false := by rw [List.all_map]; exact hall
        have hb' : (ds.all (id ∘ isI)) = false := hall
        have hi := intsOf_none ds hall
        have hlc : ∀ f : D → D, opAll [.ref h.length] (h ++ [.lst (ds.map f)]) = (bools (ds.map f)).map fun bs => (.bl (bs.all id), h ++ [.lst (ds.map f)]) := fun f => by simp
        have hall2 : opAll [.ref h.length] (h ++ [.lst (ds.map fun x => .bl (isI x))]) = some (.bl false, h ++ [.lst (ds.map fun x => .bl (isI x))]) := by rw [hlc, bools_map, Option.map_some, hb]
        simp [m_is_story, b_is_story, w, isint_spec, stP, isT, hlen, hm, lc, hi, hall2, -opAll_r]
      | true =>
        obtain ⟨ns, rfl⟩ := all_ints ds hall
        refine ⟨h ++ [.lst ((ns.map D.int).map fun x => .bl (isI x))], ?_, Kp.app⟩
        have hb : ((ns.map D.int).map isI).all id = true := by rw [List.all_map]; exact hall
        have hlc : ∀ f : D → D, opAll [.ref h.length] (h ++ [.lst ((ns.map D.int).map f)]) = (bools ((ns.map D.int).map f)).map fun bs => (.bl (bs.all id), h ++ [.lst ((ns.map D.int).map f)]) := fun f => by simp
        have hall2 : opAll [.ref h.length] (h ++ [.lst ((ns.map D.int).map fun x => .bl (isI x))]) = some (.bl true, h ++ [.lst ((ns.map D.int).map fun x => .bl (isI x))]) := by rw [hlc, bools_map, Option.map_some, hb]
        rw [List.length_map] at hlen
        rcases ns with _ | ⟨a, _ | ⟨b, r⟩⟩
        · simp at hlen; omega
        · simp at hlen; omega
        · skip
          have hn : r.length = 2 * (L.hops.toNat - 1) := by simp at hlen; omega
          have hst : stP L m (.tup ((a :: b :: r).map D.int)) = stB L m (a :: b :: r) := by
            have h1 : intsOf ((a :: b :: r).map D.int) = some (a :: b :: r) := intsOf_map _
            have h2 : (((a :: b :: r).map D.int).length : Int) = 2 * L.hops := by rw [List.length_map]; exact hlen
            show (decide ((((a :: b :: r).map D.int).length : Int) = 2 * L.hops) && (match intsOf ((a :: b :: r).map D.int) with
              | some ns => stB L m ns
              | none => false)) = _
            rw [h1, decide_eq_true h2]
            rfl
          rw [hst]
          have a0 : atI ((a :: b :: r).map D.int) 0 = some (.int a) := atI_get (j := 0) rfl rfl
          have a1 : atI ((a :: b :: r).map D.int) 1 = some (.int b) := atI_get (j := 1) rfl rfl
          have al := last_at a b r
          have d0 : atI [D.int L.delay, D.int L.expire] 0 = some (.int L.delay) := rfl
          have d1 : atI [D.int L.delay, D.int L.expire] 1 = some (.int L.expire) := rfl
          have hlen' : (((a :: b :: r).map D.int).length : Int) = 2 * L.hops := by rw [List.length_map]; exact hlen
          have hr3 : okR3 2 (2 * L.hops) 2 = true := by
            have : L.hops = 1 ∨ L.hops = 2 ∨ L.hops = 3 ∨ L.hops = 4 := by omega
            rcases this with z | z | z | z <;> rw [z] <;> decide
          have hc3 : cntR3 2 (2 * L.hops) 2 = L.hops.toNat - 1 := by
            have : L.hops = 1 ∨ L.hops = 2 ∨ L.hops = 3 ∨ L.hops = 4 := by omega
            rcases this with z | z | z | z <;> rw [z] <;> decide
          have lp := is_loop (h := h ++ [.lst (((a :: b :: r).map D.int).map fun x => .bl (isI x))]) (d := L.delay) (x := L.expire) (ns := a :: b :: r) (e1 := some (.int L.sent)) (e2 := some (.int L.got)) (e3 := some (.int L.age)) (e4 := some (.int L.hops)) (e5 := some (.int m)) (e9 := none) (e10 := none) (e11 := none) (L.hops.toNat - 1) [a] r b 0 none rfl hn
          have h12 : (([a] : List Int).length : Int) + 1 = 2 := rfl
          rw [h12] at lp
          have hd : 2 * L.hops = 2 * L.hops := rfl
          generalize hds : (a :: b :: r).map D.int = ds at *
          unfold stB
          by_cases c0 : a = m
          · by_cases c1 : 0 ≤ m
            · have c1' : ¬ m < 0 := by omega
              by_cases c2 : m ≤ b
              · by_cases c3 : b - m ≤ L.expire
                · cases hg : goB L.delay b r with
                  | none =>
                    rw [hg] at lp
                    dsimp only at lp
                    simp [m_is_story, b_is_story, w, isint_spec, isT, hlen', hm, lc, hall2, -opAll_r, a0, a1, d0, d1, between_bl, c0, c1, c1', c2, c3, hr3, hc3, lp, hg]
                  | some t =>
                    rw [hg] at lp
                    obtain ⟨e8', lp⟩ := lp
                    have tl : ∀ H, m_last_told [.tup [.int L.delay, .int L.expire], .int L.sent, .int L.got] H = .ok (.tup [.int (lo L), .int (hi L)]) H := fun H => told_spec _ _ _ _ _
                    rw [Int.zero_add] at lp
                    by_cases k1 : t = L.age
                    · by_cases k2 : lo L ≤ lastI b r
                      · simp [m_is_story, b_is_story, w, isint_spec, isT, hlen', hm, lc, hall2, -opAll_r, a0, a1, d0, d1, between_bl, c0, c1, c1', c2, c3, hr3, hc3, lp, hg, tl, k1, al, k2]
                      · simp [m_is_story, b_is_story, w, isint_spec, isT, hlen', hm, lc, hall2, -opAll_r, a0, a1, d0, d1, between_bl, c0, c1, c1', c2, c3, hr3, hc3, lp, hg, tl, k1, al, k2]
                    · simp [m_is_story, b_is_story, w, isint_spec, isT, hlen', hm, lc, hall2, -opAll_r, a0, a1, d0, d1, between_bl, c0, c1, c1', c2, c3, hr3, hc3, lp, hg, tl, k1, al]
                · simp [m_is_story, b_is_story, w, isint_spec, isT, hlen', hm, lc, hall2, -opAll_r, a0, a1, d0, d1, between_bl, c0, c1, c1', c2, c3]
              · simp [m_is_story, b_is_story, w, isint_spec, isT, hlen', hm, lc, hall2, -opAll_r, a0, a1, d0, d1, between_bl, c0, c1, c1', c2]
            · have c1' : m < 0 := by omega
              simp [m_is_story, b_is_story, w, isint_spec, isT, hlen', hm, lc, hall2, -opAll_r, a0, a1, d0, d1, between_bl, c0, c1, c1']
          · simp [m_is_story, b_is_story, w, isint_spec, isT, hlen', hm, lc, hall2, -opAll_r, a0, a1, d0, d1, between_bl, c0]
    · exact ⟨h, by simp [m_is_story, b_is_story, w, isint_spec, stP, isT, hlen, hm], Kp.refl⟩
end Lk26
namespace Lk26
open PySem L2 PyProof.Rows Sm SmPool
theorem lw_one {x : D} (fx : flat x = true) (h : Hh) (e0 e1 e2 e4 e5 e6 e7 e8 e9 e10 e11 : Option D) :
    b__law_is_story_1 [e0, e1, e2, some x, e4, e5, e6, e7, e8, e9, e10, e11] h = if isI x = true then .nx [e0, e1, e2, some x, e4, e5, e6, e7, e8, e9, e10, e11] h else .rt (.bl false) h := by
  cases x <;> simp [flat] at fx <;> simp [b__law_is_story_1, isI, isT]
theorem lw_loop1 (h : Hh) (e0 e1 e2 e4 e5 e6 e7 e8 e9 e10 e11 : Option D) : ∀ (ds : List D) (e3 : Option D), ds.all flat = true →
    (ds.all isI = true → ∃ e3', forL (gtName 3) b__law_is_story_1 none ds [e0, e1, e2, e3, e4, e5, e6, e7, e8, e9, e10, e11] h = .nx [e0, e1, e2, e3', e4, e5, e6, e7, e8, e9, e10, e11] h) ∧
    (ds.all isI = false → forL (gtName 3) b__law_is_story_1 none ds [e0, e1, e2, e3, e4, e5, e6, e7, e8, e9, e10, e11] h = .rt (.bl false) h)
  | [], e3, _ => ⟨fun _ => ⟨e3, by rw [forL_nil (gd := none) trivial]⟩, fun z => by simp at z⟩
  | x :: ds, e3, hf => by
    simp only [List.all_cons, Bool.and_eq_true] at hf
    have hb := lw_one hf.1 h e0 e1 e2 e4 e5 e6 e7 e8 e9 e10 e11
    obtain ⟨i1, i2⟩ := lw_loop1 h e0 e1 e2 e4 e5 e6 e7 e8 e9 e10 e11 ds (some x) hf.2
    rw [List.all_cons]
    cases hx : isI x with
    | true =>
      rw [hx, if_pos rfl] at hb
      rw [Bool.true_and]
      rw [forL_nx (g := gtName 3) (gd := none) trivial rfl hb]
      exact ⟨i1, i2⟩
    | false =>
      rw [hx, if_neg (by decide)] at hb
      exact ⟨fun z => by simp at z, fun _ => forL_rt (g := gtName 3) (gd := none) trivial rfl hb⟩
theorem lw_loop2 {h : Hh} {l d : Int} {ns : List Int} {e0 e1 e3 e7 e8 e9 e10 e11 : Option D} : ∀ (n : Nat) (pre r : List Int) (p kept : Int) (e5 : Option D), ns = pre ++ p :: r → r.length = 2 * n →
    match goB d p r with
    | none => forL (gtName 5) b__law_is_story_2 none (rngS ((pre.length : Int) + 1) 2 n) [e0, e1, some (.tup (ns.map D.int)), e3, some (.int kept), e5, some (.int d), e7, e8, e9, e10, e11] h = .rt (.bl false) h
    | some t => ∃ e5', forL (gtName 5) b__law_is_story_2 none (rngS ((pre.length : Int) + 1) 2 n) [e0, e1, some (.tup (ns.map D.int)), e3, some (.int kept), e5, some (.int d), e7, e8, e9, e10, e11] h =
      .nx [e0, e1, some (.tup (ns.map D.int)), e3, some (.int (kept + t)), e5', some (.int d), e7, e8, e9, e10, e11] h
  | 0, pre, r, p, kept, e5, hns, hr => by
    have : r = [] := List.length_eq_zero_iff.mp (by omega)
    subst this
    exact ⟨e5, by rw [rngS_zero, forL_nil (gd := none) trivial]; simp⟩
  | n + 1, pre, r, p, kept, e5, hns, hr => by
    match r, hr with
    | a :: b :: r, hr =>
      obtain ⟨m1, m2, m3⟩ := at_mid (pre := pre) (p := p) (a := a) (b := b) (r := r)
      rw [← hns] at m1 m2 m3
      have a1 : atI (ns.map D.int) ((pre.length : Int) + 1) = some (.int a) := atI_get (by omega) m2
      have a2 : atI (ns.map D.int) ((pre.length : Int) + 1 - 1) = some (.int p) := atI_get (j := pre.length) (by omega) m1
      have a2' : atI (ns.map D.int) (pre.length : Int) = some (.int p) := atI_get (j := pre.length) (by omega) m1
      have a3 : atI (ns.map D.int) ((pre.length : Int) + 1 + 1) = some (.int b) := atI_get (j := pre.length + 2) (by omega) m3
      have hz : (pre.length : Int) + 1 - 1 = pre.length := by omega
      unfold goB
      rw [rngS_succ]
      by_cases c : (0 ≤ a - p ∧ a - p ≤ d) ∧ a ≤ b
      · have hb : b__law_is_story_2 [e0, e1, some (.tup (ns.map D.int)), e3, some (.int kept), some (.int ((pre.length : Int) + 1)), some (.int d), e7, e8, e9, e10, e11] h =
            .nx [e0, e1, some (.tup (ns.map D.int)), e3, some (.int (kept + b - a)), some (.int ((pre.length : Int) + 1)), some (.int d), e7, e8, e9, e10, e11] h := by
          have c1 : p ≤ a := by omega
          have c2 : ¬ b < a := by omega
          simp [b__law_is_story_2, a1, a2, a2', a3, hz, c1, c.1.2, c2]
        rw [if_pos c]
        have ih := lw_loop2 (l := l) (h := h) (d := d) (ns := ns) (e0 := e0) (e1 := e1) (e3 := e3) (e7 := e7) (e8 := e8) (e9 := e9) (e10 := e10) (e11 := e11) n (pre ++ [p, a]) r b (kept + b - a) (some (.int ((pre.length : Int) + 1))) (by rw [hns]; simp) (by simp at hr; omega)
        have hp : (((pre ++ [p, a]).length : Nat) : Int) + 1 = (pre.length : Int) + 1 + 2 := by simp; omega
        rw [hp] at ih
        rw [forL_nx (g := gtName 5) (gd := none) trivial rfl hb]
        cases q : goB d b r with
        | none => rw [q] at ih; simpa using ih
        | some t =>
          rw [q] at ih
          obtain ⟨e8', ih⟩ := ih
          exact ⟨e8', by rw [ih, show kept + b - a + t = kept + (b - a + t) from by omega]⟩
      · rw [if_neg c]
        have hb : b__law_is_story_2 [e0, e1, some (.tup (ns.map D.int)), e3, some (.int kept), some (.int ((pre.length : Int) + 1)), some (.int d), e7, e8, e9, e10, e11] h = .rt (.bl false) h := by
          by_cases c1 : p ≤ a
          · by_cases c2 : a - p ≤ d
            · have c3 : b < a := by omega
              simp [b__law_is_story_2, a1, a2, a2', a3, hz, c1, c2, c3]
            · simp [b__law_is_story_2, a1, a2, a2', a3, hz, c1, c2]
          · simp [b__law_is_story_2, a1, a2, a2', a3, hz, c1]
        exact forL_rt (g := gtName 5) (gd := none) trivial rfl hb
theorem lo_hi (L : Line) (p : Int) : (lo L ≤ p ∧ p ≤ hi L) ↔ (L.sent ≤ p ∧ p - L.sent ≤ L.delay ∧ p ≤ L.got ∧ L.got - p ≤ L.delay) := by
  unfold lo hi
  constructor
  · rintro ⟨a, b⟩
    split at a <;> split at b <;> omega
  · rintro ⟨a, b, c, d⟩
    constructor <;> split <;> omega
theorem lw_spec (L : Line) (ok : L.Ok) (m : Int) (paper : D) {h : Hh} {l : Nat} (el : h[l]? = some (.lst L.ds)) (hp : PaperOk h paper) : m__law_is_story [.ref l, .int m, paper] h = .ok (.bl (stP L m paper)) h := by
  have n0 := ok.h0
  have n1 := ok.h1
  have hm : mulOk 2 L.hops = true := mulOk_l (by omega) (by omega)
  simp only [Line.ds] at el
  cases paper with
  | non => simp [m__law_is_story, b__law_is_story, el, stP, isT]
  | bl b => simp [m__law_is_story, b__law_is_story, el, stP, isT]
  | int i => simp [m__law_is_story, b__law_is_story, el, stP, isT]
  | str i => simp [m__law_is_story, b__law_is_story, el, stP, isT]
  | fls ds => exact hp.elim
  | ref n =>
    obtain ⟨xs, e⟩ := hp
    simp [m__law_is_story, b__law_is_story, el, stP, isT, e]
  | tup ds =>
    obtain ⟨fl, hl⟩ := hp
    by_cases hlen : (ds.length : Int) = 2 * L.hops
    · have l1 := lw_loop1 h (some (.ref l)) (some (.int m)) (some (.tup ds)) none none (some (.int L.delay)) (some (.int L.expire)) (some (.int L.sent)) (some (.int L.got)) (some (.int L.age)) (some (.int L.hops)) ds none fl
      cases hall : ds.all isI with
      | false =>
        have l1 := l1.2 hall
        have hi := intsOf_none ds hall
        simp [m__law_is_story, b__law_is_story, el, stP, isT, hlen, hm, l1, hi]
      | true =>
        obtain ⟨e3', l1⟩ := l1.1 hall
        obtain ⟨ns, rfl⟩ := all_ints ds hall
        rw [List.length_map] at hlen
        rcases ns with _ | ⟨a, _ | ⟨b, r⟩⟩
        · simp at hlen; omega
        · simp at hlen; omega
        · have hn : r.length = 2 * (L.hops.toNat - 1) := by simp at hlen; omega
          have hst : stP L m (.tup ((a :: b :: r).map D.int)) = stB L m (a :: b :: r) := by
            have h1 : intsOf ((a :: b :: r).map D.int) = some (a :: b :: r) := intsOf_map _
            have h2 : (((a :: b :: r).map D.int).length : Int) = 2 * L.hops := by rw [List.length_map]; exact hlen
            show (decide ((((a :: b :: r).map D.int).length : Int) = 2 * L.hops) && (match intsOf ((a :: b :: r).map D.int) with
              | some ns => stB L m ns
              | none => false)) = _
            rw [h1, decide_eq_true h2]
            rfl
          rw [hst]
          have a0 : atI ((a :: b :: r).map D.int) 0 = some (.int a) := atI_get (j := 0) rfl rfl
          have a1 : atI ((a :: b :: r).map D.int) 1 = some (.int b) := atI_get (j := 1) rfl rfl
          have al := last_at a b r
          have hlen' : (((a :: b :: r).map D.int).length : Int) = 2 * L.hops := by rw [List.length_map]; exact hlen
          have hr3 : okR3 2 (2 * L.hops) 2 = true := by
            have : L.hops = 1 ∨ L.hops = 2 ∨ L.hops = 3 ∨ L.hops = 4 := by omega
            rcases this with z | z | z | z <;> rw [z] <;> decide
          have hc3 : cntR3 2 (2 * L.hops) 2 = L.hops.toNat - 1 := by
            have : L.hops = 1 ∨ L.hops = 2 ∨ L.hops = 3 ∨ L.hops = 4 := by omega
            rcases this with z | z | z | z <;> rw [z] <;> decide
          have lp := lw_loop2 (l := 0) (h := h) (d := L.delay) (ns := a :: b :: r) (e0 := some (.ref l)) (e1 := some (.int m)) (e3 := e3') (e7 := some (.int L.expire)) (e8 := some (.int L.sent)) (e9 := some (.int L.got)) (e10 := some (.int L.age)) (e11 := some (.int L.hops)) (L.hops.toNat - 1) [a] r b 0 none rfl hn
          have h12 : (([a] : List Int).length : Int) + 1 = 2 := rfl
          rw [h12] at lp
          have lh := lo_hi L (lastI b r)
          generalize hds : (a :: b :: r).map D.int = ds at *
          unfold stB
          by_cases c0 : a = m
          · by_cases c1 : 0 ≤ m
            · have c1' : ¬ m < 0 := by omega
              by_cases c2 : m ≤ b
              · by_cases c3 : b - m ≤ L.expire
                · cases hg : goB L.delay b r with
                  | none =>
                    rw [hg] at lp
                    dsimp only at lp
                    simp [m__law_is_story, b__law_is_story, el, isT, hlen', hm, l1, a0, a1, c0, c1, c1', c2, c3, hr3, hc3, lp, hg]
                  | some t =>
                    rw [hg] at lp
                    obtain ⟨e8', lp⟩ := lp
                    rw [Int.zero_add] at lp
                    by_cases k1 : t = L.age
                    · by_cases k2 : L.sent ≤ lastI b r
                      · by_cases k3 : lastI b r - L.sent ≤ L.delay
                        · by_cases k4 : lastI b r ≤ L.got
                          · by_cases k5 : L.got - lastI b r ≤ L.delay
                            · obtain ⟨q1, q2⟩ := lh.mpr ⟨k2, k3, k4, k5⟩
                              simp [m__law_is_story, b__law_is_story, el, isT, hlen', hm, l1, a0, a1, c0, c1, c1', c2, c3, hr3, hc3, lp, hg, k1, al, k2, k3, k4, k5, q1, q2]
                            · have q : lo L ≤ lastI b r → ¬ lastI b r ≤ hi L := fun z1 z2 => k5 (lh.mp ⟨z1, z2⟩).2.2.2
                              simp [m__law_is_story, b__law_is_story, el, isT, hlen', hm, l1, a0, a1, c0, c1, c1', c2, c3, hr3, hc3, lp, hg, k1, al, k2, k3, k4, k5]
                              intro z; have := q z; omega
                          · have q : lo L ≤ lastI b r → ¬ lastI b r ≤ hi L := fun z1 z2 => k4 (lh.mp ⟨z1, z2⟩).2.2.1
                            simp [m__law_is_story, b__law_is_story, el, isT, hlen', hm, l1, a0, a1, c0, c1, c1', c2, c3, hr3, hc3, lp, hg, k1, al, k2, k3, k4]
                            intro z; have := q z; omega
                        · have q : lo L ≤ lastI b r → ¬ lastI b r ≤ hi L := fun z1 z2 => k3 (lh.mp ⟨z1, z2⟩).2.1
                          simp [m__law_is_story, b__law_is_story, el, isT, hlen', hm, l1, a0, a1, c0, c1, c1', c2, c3, hr3, hc3, lp, hg, k1, al, k2, k3]
                          intro z; have := q z; omega
                      · have q : lo L ≤ lastI b r → ¬ lastI b r ≤ hi L := fun z1 z2 => k2 (lh.mp ⟨z1, z2⟩).1
                        simp [m__law_is_story, b__law_is_story, el, isT, hlen', hm, l1, a0, a1, c0, c1, c1', c2, c3, hr3, hc3, lp, hg, k1, al, k2]
                        intro z; have := q z; omega
                    · simp [m__law_is_story, b__law_is_story, el, isT, hlen', hm, l1, a0, a1, c0, c1, c1', c2, c3, hr3, hc3, lp, hg, k1, al]
                · simp [m__law_is_story, b__law_is_story, el, isT, hlen', hm, l1, a0, a1, c0, c1, c1', c2, c3]
              · simp [m__law_is_story, b__law_is_story, el, isT, hlen', hm, l1, a0, a1, c0, c1, c1', c2]
            · have c1' : m < 0 := by omega
              simp [m__law_is_story, b__law_is_story, el, isT, hlen', hm, l1, a0, a1, c0, c1, c1']
          · simp [m__law_is_story, b__law_is_story, el, isT, hlen', hm, l1, a0, a1, c0]
    · simp [m__law_is_story, b__law_is_story, el, stP, isT, hlen, hm]
end Lk26
namespace Lk26
open PySem L2 PyProof.Rows Sm SmPool
theorem stL_len (d age : Int) : ∀ (n : Nat) (last s : Int), (stL d age n last s).length = 2 * n
  | 0, _, _ => rfl
  | n + 1, last, s => by
    unfold stL
    rw [List.length_append, stL_len d age n]
    simp; omega
theorem stL_go {d age : Int} (hd : 0 ≤ d) (ha : 0 ≤ age) : ∀ (n : Nat) (last s : Int), 0 ≤ s → goB d last (stL d age n last s) = some (if n = 0 then 0 else age)
  | 0, _, _, _ => rfl
  | n + 1, last, s, hs => by
    unfold stL
    have ih := stL_go hd ha n (last + (if d < s then d else s) + (if n = 0 then age else 0)) (s - (if d < s then d else s)) (by split <;> omega)
    simp only [List.cons_append, List.nil_append]
    rw [goB, ih, if_pos ?_]
    · simp only [Option.map_some, Nat.add_eq_zero_iff]
      congr 1
      by_cases z : n = 0
      · simp [z]; omega
      · simp [z]
    · refine ⟨⟨?_, ?_⟩, ?_⟩ <;> split <;> (try split) <;> omega
theorem stL_last {d age : Int} (hd : 0 ≤ d) : ∀ (n : Nat) (last s : Int), 0 ≤ s → lastI last (stL d age n last s) = last + (if (n : Int) * d < s then (n : Int) * d else s) + (if n = 0 then 0 else age)
  | 0, last, s, hs => by
    simp [stL, lastI]
    omega
  | n + 1, last, s, hs => by
    unfold stL
    have ih := stL_last (age := age) hd n (last + (if d < s then d else s) + (if n = 0 then age else 0)) (s - (if d < s then d else s)) (by split <;> omega)
    simp only [List.cons_append, List.nil_append, lastI]
    rw [ih]
    have h1 : ((n + 1 : Nat) : Int) * d = (n : Int) * d + d := by
      have : ((n + 1 : Nat) : Int) = (n : Int) + 1 := by omega
      rw [this, Int.add_mul, Int.one_mul]
    have h2 : 0 ≤ (n : Int) * d := Int.mul_nonneg (by omega) hd
    rw [h1]
    generalize (n : Int) * d = nd at h2 ⊢
    by_cases z : n = 0
    · simp only [z, if_true, Nat.zero_add, Nat.one_ne_zero, if_false]
      split <;> split <;> split <;> omega
    · have z' : ¬ n + 1 = 0 := by omega
      simp only [z, z', if_false]
      split <;> split <;> split <;> omega
theorem win_inv {L : Line} (ok : L.Ok) {a b : Int} (e : win L = some (a, b)) : lo L ≤ hi L ∧ (L.hops = 1 → L.age = 0) ∧ 0 ≤ b ∧ b = hi L - L.age ∧ 0 ≤ a ∧ lo L - L.age - (L.hops - 1) * L.delay - L.expire ≤ a := by
  have a0 := ok.a0
  unfold win at e
  have e' : (if lo L > hi L ∨ (L.hops = 1 ∧ L.age > 0) ∨ hi L - L.age < 0 then none else some ((if lo L - L.age - (L.hops - 1) * L.delay - L.expire > 0 then lo L - L.age - (L.hops - 1) * L.delay - L.expire else 0), hi L - L.age)) = some (a, b) := e
  split at e'
  · cases e'
  · rename_i n
    simp only [Option.some.injEq, Prod.mk.injEq] at e'
    obtain ⟨e1, e2⟩ := e'
    generalize lo L - L.age - (L.hops - 1) * L.delay - L.expire = z at *
    refine ⟨by omega, by omega, by omega, e2.symm, ?_, ?_⟩
    · rw [← e1]; split <;> omega
    · rw [← e1]; split <;> omega
theorem story_fits {L : Line} (ok : L.Ok) {m : Int} (hi' : inW L m) : stP L m (.tup ((stD L m).map D.int)) = true := by
  obtain ⟨a, b, e, h1, h2⟩ := hi'
  obtain ⟨w1, w2, w3, w4, w5, w6⟩ := win_inv ok e
  have n0 := ok.h0
  have d0 := ok.d0
  have x0 := ok.e0
  have a0 := ok.a0
  unfold stP stD
  rw [e]
  dsimp only
  generalize hlag : (if L.expire < b - m then L.expire else b - m) = lag
  have hl0 : 0 ≤ lag ∧ lag ≤ L.expire ∧ lag ≤ b - m := by rw [← hlag]; split <;> omega
  have hlen : (([m, m + lag] ++ stL L.delay L.age (L.hops - 1).toNat (m + lag) (b - m - lag)).map D.int).length = 2 * (L.hops - 1).toNat + 2 := by
    rw [List.length_map, List.length_append, stL_len]; simp; omega
  rw [intsOf_map, hlen]
  have : (((2 * (L.hops - 1).toNat + 2 : Nat)) : Int) = 2 * L.hops := by omega
  rw [this, decide_eq_true rfl, Bool.true_and]
  show stB L m (m :: (m + lag) :: stL L.delay L.age (L.hops - 1).toNat (m + lag) (b - m - lag)) = true
  have stB_eq : ∀ (a b : Int) (r : List Int), stB L m (a :: b :: r) = (decide (a = m) && decide (0 ≤ m) && decide (0 ≤ b - m ∧ b - m ≤ L.expire) && (match goB L.delay b r with
    | none => false
    | some t => decide (t = L.age) && decide (lo L ≤ lastI b r) && decide (lastI b r ≤ hi L))) := fun _ _ _ => rfl
  rw [stB_eq]
  rw [stL_go d0 a0 _ _ _ (by omega), stL_last d0 _ _ _ (by omega)]
  have hn : (((L.hops - 1).toNat : Nat) : Int) = L.hops - 1 := by omega
  rw [hn]
  have hJ : 0 ≤ (L.hops - 1) * L.delay := Int.mul_nonneg (by omega) d0
  have hz : (L.hops - 1).toNat = 0 ↔ L.hops = 1 := by omega
  simp only [hz]
  generalize (L.hops - 1) * L.delay = J at *
  have k1 : (if L.hops = 1 then 0 else L.age) = L.age := by
    split
    · rename_i z; exact (w2 z).symm
    · rfl
  rw [k1]
  simp only [Bool.and_eq_true, decide_eq_true_eq]
  refine ⟨⟨⟨trivial, by omega⟩, by omega, by omega⟩, ⟨trivial, ?_⟩, ?_⟩
  · rw [← hlag] at hl0 ⊢
    split <;> split <;> omega
  · split <;> omega
theorem flat_ints (ns : List Int) : (ns.map D.int).all flat = true := by
  rw [List.all_map]
  simp [flat]
theorem stD_len (L : Line) (ok : L.Ok) (m : Int) : (stD L m).length ≤ 8 := by
  have := ok.h1
  unfold stD
  split
  · simp
  · rw [List.length_append, stL_len]; simp; omega
theorem right_spec {L : Line} (ok : L.Ok) (m : Int) {h : Hh} {l : Nat} (el : h[l]? = some (.lst L.ds)) : ∃ H', m__law_told_right [.ref l, .int m] h = .ok (.bl true) H' ∧ Kp h H' := by
  have f := formula_spec L ok h l el
  have el0 := el
  simp only [Line.ds] at el
  by_cases hw : inW L m
  · obtain ⟨H1, s, k1⟩ := story_in L ok m h hw
    have el1 := k1 _ _ el0
    have pk : ∀ H, PaperOk H (.tup ((stD L m).map D.int)) := fun H => ⟨flat_ints _, by rw [List.length_map]; have := stD_len L ok m; omega⟩
    have lw := lw_spec L ok m (.tup ((stD L m).map D.int)) el1 (pk _)
    obtain ⟨H2, is, k2⟩ := isst_spec L ok m (.tup ((stD L m).map D.int)) H1 (pk _)
    rw [story_fits ok hw] at lw is
    simp only [Line.ds] at el1
    refine ⟨H2, ?_, k1.trans k2⟩
    obtain ⟨a, b, e, h1, h2⟩ := hw
    rw [e] at f
    have h1' : ¬ m < a := by omega
    have h2' : ¬ b < m := by omega
    simp [m__law_told_right, b__law_told_right, f, wd, el, el1, atI, ixN, s, lw, is, h1', h2']
  · have s := story_out L ok m h hw
    refine ⟨h, ?_, Kp.refl⟩
    cases e : win L with
    | none =>
      rw [e] at f
      simp [m__law_told_right, b__law_told_right, f, wd, el, atI, ixN, s]
    | some ab =>
      obtain ⟨a, b⟩ := ab
      rw [e] at f
      by_cases h1 : m < a
      · simp [m__law_told_right, b__law_told_right, f, wd, el, atI, ixN, s, h1]
      · have h2 : b < m := Int.lt_of_not_ge fun z => hw ⟨a, b, e, by omega, z⟩
        simp [m__law_told_right, b__law_told_right, f, wd, el, atI, ixN, s, h1, h2]
end Lk26
namespace Lk26
open PySem L2 PyProof.Rows Sm SmPool
theorem take_y {h : Hh} {p : Nat} {m : Int} (a : Pl h p) (hm : 0 < m) : ∃ r h', 0 ≤ r ∧ r < m ∧ Pl h' p ∧ Xt p h h' ∧ h'.length = h.length ∧ m__law_take [.ref p, .int m] h = .ok (.int r) h' := take_x a hm
theorem wide_y {h : Hh} {p : Nat} {m : Int} (a : Pl h p) (hm : 0 < m) : ∃ r h', 0 ≤ r ∧ r < m ∧ Pl h' p ∧ Xt p h h' ∧ h'.length = h.length ∧ m__law_wide [.ref p, .int m] h = .ok (.int r) h' := wide_x a hm
theorem edge_y {h : Hh} {p : Nat} {m : Int} (a : Pl h p) (hm : 0 ≤ m) : ∃ r h', 0 ≤ r ∧ r ≤ m ∧ Pl h' p ∧ Xt p h h' ∧ h'.length = h.length ∧ m__law_edge [.ref p, .int m] h = .ok (.int r) h' := edge_x a hm
theorem pool_y (ns : List Int) (hl : ns.length ≤ 63) : ∃ p h, Pl h p ∧ m__law_pool [.fls (ns.map D.int)] [] = .ok (.ref p) h := pool_x ns hl
theorem amount_y {h : Hh} {p : Nat} {m : Int} (a : Pl h p) (hm : 0 ≤ m) : ∃ r h', 0 ≤ r ∧ r ≤ m ∧ Pl h' p ∧ Xt p h h' ∧ h'.length = h.length ∧ m__law_amount [.ref p, .int m] h = .ok (.int r) h' := by
  obtain ⟨k, h1, k0, k1, a1, x1, l1, e1⟩ := take_y (m := 3) a (by decide)
  by_cases c0 : k = 0
  · subst c0
    exact ⟨0, h1, by omega, by omega, a1, x1, l1, by simp [m__law_amount, b__law_amount, e1]⟩
  by_cases c1 : k = 1
  · subst c1
    exact ⟨m, h1, by omega, by omega, a1, x1, l1, by simp [m__law_amount, b__law_amount, e1]⟩
  obtain ⟨r, h2, r0, r1, a2, x2, l2, e2⟩ := wide_y (m := m + 1) a1 (by omega)
  exact ⟨r, h2, r0, by omega, a2, x1.trans x2, by rw [l2, l1], by simp [m__law_amount, b__law_amount, e1, e2, c0, c1]⟩
/-- a tale stands at t -/
def Tl (p n0 : Nat) (h : Hh) (t : Nat) (d x : Int) (k : Nat) : Prop := ∃ (m lag be bh : Int) (a b : Nat) (trs kps : List Int),
  h[t]? = some (.lst [.int d, .int x, .int m, .int lag, .int be, .int bh, .ref a, .ref b]) ∧ h[a]? = some (.lst (trs.map D.int)) ∧ h[b]? = some (.lst (kps.map D.int)) ∧ trs.length = k ∧ kps.length = k ∧ (n0 ≤ t ∧ n0 ≤ a ∧ n0 ≤ b) ∧ (t ≠ a ∧ t ≠ b ∧ a ≠ b) ∧ p < n0
theorem Tl.xt {p n0 : Nat} {h h' : Hh} {t : Nat} {d x : Int} {k : Nat} (T : Tl p n0 h t d x k) (e : Xt p h h') : Tl p n0 h' t d x k := by
  obtain ⟨m, lag, be, bh, a, b, trs, kps, h1, h2, h3, h4, h5, ⟨g1, g2, g3⟩, h7, h8⟩ := T
  exact ⟨m, lag, be, bh, a, b, trs, kps, e _ _ (by omega) h1, e _ _ (by omega) h2, e _ _ (by omega) h3, h4, h5, ⟨g1, g2, g3⟩, h7, h8⟩
theorem tale_turn {H : Hh} {p a b : Nat} {trs kps : List Int} (P : Pl H p) (ha : H[a]? = some (.lst (trs.map D.int))) (hb : H[b]? = some (.lst (kps.map D.int))) (ne : p ≠ a ∧ p ≠ b ∧ a ≠ b) (hl : trs.length ≤ 100) (hl2 : kps.length ≤ 100) {d : Int} (hd : 0 ≤ d) (e2 e3 e4 e5 e6 e9 : Option D) :
    ∃ u v H', b__law_tale_1 [some (.ref p), some (.int d), e2, e3, e4, e5, e6, some (.ref a), some (.ref b), e9] H = .nx [some (.ref p), some (.int d), e2, e3, e4, e5, e6, some (.ref a), some (.ref b), e9] H' ∧ Pl H' p ∧ H'[a]? = some (.lst ((trs ++ [u]).map D.int)) ∧ H'[b]? = some (.lst ((kps ++ [v]).map D.int)) ∧ H.length ≤ H'.length := by
  obtain ⟨np, nq, nr⟩ := ne
  obtain ⟨u, H1, _, _, P1, x1, l1, e1⟩ := amount_y P hd
  have ha1 := x1 _ _ (fun z => np z.symm) ha
  have hb1 := x1 _ _ (fun z => nq z.symm) hb
  have hz : trs.length < sizeLine := by rw [sizeLine_eq]; omega
  have hz2 : kps.length < sizeLine := by rw [sizeLine_eq]; omega
  have P2 : Pl (H1.set a (.lst (trs.map D.int ++ [D.int u])) ++ [.lst [.int 3, .int 20000]]) p := by
    obtain ⟨q, q1, q2, q3⟩ := P1
    exact ⟨q, q1, q2, get_app (by rw [List.getElem?_set_ne (fun z => np z.symm)]; exact q3)⟩
  obtain ⟨r, H2, r0, r1, P3, x2, l2, e2'⟩ := take_y (m := 2) P2 (by decide)
  have hla : a < H1.length := (List.getElem?_eq_some_iff.mp ha1).1
  have hlist : H2[H1.length]? = some (.lst [.int 3, .int 20000]) := by
    refine x2 _ _ (by have := P1.lt; omega) ?_
    have : (H1.set a (.lst (trs.map D.int ++ [D.int u]))).length = H1.length := by simp
    rw [← this]
    simp
  obtain ⟨w, hw0, hw⟩ : ∃ w : Int, 0 ≤ w ∧ atI [D.int 3, D.int 20000] r = some (.int w) := by
    have : r = 0 ∨ r = 1 := by omega
    rcases this with rfl | rfl
    · exact ⟨3, by decide, rfl⟩
    · exact ⟨20000, by decide, rfl⟩
  obtain ⟨v, H3, _, _, P4, x3, l3, e3'⟩ := amount_y P3 hw0
  have a2 : (H1.set a (.lst (trs.map D.int ++ [D.int u])))[a]? = some (.lst (trs.map D.int ++ [D.int u])) := set_at ha1
  have a3 := x3 _ _ (fun z => np z.symm) (x2 _ _ (fun z => np z.symm) (get_app (g := [.lst [.int 3, .int 20000]]) a2))
  have b2 : (H1.set a (.lst (trs.map D.int ++ [D.int u])))[b]? = some (.lst (kps.map D.int)) := by rw [List.getElem?_set_ne nr]; exact hb1
  have b3 := x3 _ _ (fun z => nq z.symm) (x2 _ _ (fun z => nq z.symm) (get_app (g := [.lst [.int 3, .int 20000]]) b2))
  refine ⟨u, v, H3.set b (.lst (kps.map D.int ++ [D.int v])), ?_, ?_, ?_, ?_, ?_⟩
  · simp [b__law_tale_1, e1, ha, hb, ha1, hb1, hz, hz2, e2', e3', hlist, hw, b2, b3]
  · obtain ⟨q, q1, q2, q3⟩ := P4
    exact ⟨q, q1, q2, by rw [List.getElem?_set_ne (fun z => nq z.symm)]; exact q3⟩
  · rw [List.getElem?_set_ne (fun z => nr z.symm), a3]; simp
  · rw [set_at b3]; simp
  · rw [List.length_set, l3, l2, List.length_append, List.length_set]; omega
theorem tale_loop {p a b : Nat} (ne : p ≠ a ∧ p ≠ b ∧ a ≠ b) {d : Int} (hd : 0 ≤ d) (e2 e3 e4 e5 e6 : Option D) : ∀ (n : Nat) (k : Int) (H : Hh) (trs kps : List Int) (e9 : Option D), Pl H p → H[a]? = some (.lst (trs.map D.int)) → H[b]? = some (.lst (kps.map D.int)) → trs.length + n ≤ 100 → kps.length = trs.length →
    ∃ (trs' kps' : List Int) (H' : Hh) (e9' : Option D), forL (gtName 9) b__law_tale_1 none (rngD k n) [some (.ref p), some (.int d), e2, e3, e4, e5, e6, some (.ref a), some (.ref b), e9] H = .nx [some (.ref p), some (.int d), e2, e3, e4, e5, e6, some (.ref a), some (.ref b), e9'] H' ∧ Pl H' p ∧ H'[a]? = some (.lst (trs'.map D.int)) ∧ H'[b]? = some (.lst (kps'.map D.int)) ∧ trs'.length = trs.length + n ∧ kps'.length = trs.length + n ∧ H.length ≤ H'.length
  | 0, k, H, trs, kps, e9, P, ha, hb, hl, hk => ⟨trs, kps, H, e9, by rw [rngD_nil, forL_nil (gd := none) trivial], P, ha, hb, rfl, by rw [hk]; rfl, Nat.le_refl _⟩
  | n + 1, k, H, trs, kps, e9, P, ha, hb, hl, hk => by
    obtain ⟨u, v, H1, t, P1, ha1, hb1, l1⟩ := tale_turn P ha hb ne (by omega) (by omega) hd e2 e3 e4 e5 e6 (some (.int k))
    obtain ⟨trs', kps', H', e9', eq, P', a', b', q1, q2, l'⟩ := tale_loop ne hd e2 e3 e4 e5 e6 n (k + 1) H1 _ _ (some (.int k)) P1 ha1 hb1 (by simp; omega) (by simp; omega)
    refine ⟨trs', kps', H', e9', ?_, P', a', b', by rw [q1]; simp; omega, by rw [q2]; simp; omega, by omega⟩
    rw [rngD_succ, forL_nx (g := gtName 9) (gd := none) trivial rfl t]
    exact eq
theorem or_blk {H : Hh} {p : Nat} (P : Pl H p) {c m : Int} (hc : 0 < c) (hm : 0 < m) (i : Nat) (env : Ev) (v : Int) (he : env[0]? = some (some (.ref p))) (B : Int) (hv : 0 ≤ v ∧ v ≤ B) (hB : m ≤ B + 1) (hi : env[i]? = some (some (.int v))) :
    ∃ v' H', 0 ≤ v' ∧ v' ≤ B ∧ Pl H' p ∧ Xt p H H' ∧ H'.length = H.length ∧ sIf (tBl (eB opEq (eCall m__law_take [(eV 0), (eC (.int c))]) (eC (.int 0)))) (sSet i (eCall m__law_take [(eV 0), (eC (.int m))])) sSkip env H = .nx (env.set i (some (.int v'))) H' := by
  obtain ⟨r, H1, _, _, P1, x1, l1, e1⟩ := take_y P hc
  by_cases h0 : r = 0
  · obtain ⟨r2, H2, s0, s1, P2, x2, l2, e2⟩ := take_y P1 hm
    exact ⟨r2, H2, s0, by omega, P2, x1.trans x2, by omega, by simp [he, e1, h0, e2]⟩
  · refine ⟨v, H1, hv.1, hv.2, P1, x1, l1, ?_⟩
    have : env.set i (some (.int v)) = env := by
      apply List.ext_getElem?
      intro j
      by_cases q : i = j
      · subst q
        rw [hi, List.getElem?_set_self (List.getElem?_eq_some_iff.mp hi).1]
      · rw [List.getElem?_set_ne q]
    rw [this]
    simp [he, e1, h0]
theorem tale_y {h : Hh} {p : Nat} (P : Pl h p) : ∃ t h' d x k, 0 ≤ d ∧ d ≤ 1000 ∧ 0 ≤ x ∧ x ≤ 100000 ∧ k ≤ 3 ∧ Pl h' p ∧ Tl p (p + 1) h' t d x k ∧ m__law_tale [.ref p] h = .ok (.ref t) h' := by
  obtain ⟨d, h1, d0, d1, P1, x1, l1, e1⟩ := edge_y (m := 1000) P (by decide)
  obtain ⟨d', h2, d0', d1', P2, x2, l2, e2⟩ := or_blk P1 (c := 2) (m := 5) (by decide) (by decide) 1 [some (.ref p), some (.int d), none, none, none, none, none, none, none, none] d rfl 1000 ⟨d0, d1⟩ (by decide) rfl
  obtain ⟨x, h3, xp0, xp1, P3, x3, l3, e3⟩ := edge_y (m := 100000) P2 (by decide)
  obtain ⟨x', h4, xp0', xp1', P4, x4, l4, e4⟩ := or_blk P3 (c := 2) (m := 7) (by decide) (by decide) 2 [some (.ref p), some (.int d'), some (.int x), none, none, none, none, none, none, none] x rfl 100000 ⟨xp0, xp1⟩ (by decide) rfl
  obtain ⟨m, h5, m0, m1, P5, x5, l5, e5⟩ := wide_y (m := 700000) P4 (by decide)
  obtain ⟨m', h6, m0', m1', P6, x6, l6, e6⟩ := or_blk P5 (c := 3) (m := 3) (by decide) (by decide) 3 [some (.ref p), some (.int d'), some (.int x'), some (.int m), none, none, none, none, none, none] m rfl 700000 ⟨m0, by omega⟩ (by decide) rfl
  obtain ⟨lag, h7, _, _, P7, x7, l7, e7⟩ := amount_y P6 xp0'
  obtain ⟨be, h8, _, _, P8, x8, l8, e8⟩ := amount_y P7 d0'
  obtain ⟨bh, h9, _, _, P9, x9, l9, e9⟩ := amount_y P8 d0'
  have P10 : Pl (h9 ++ [.lst [], .lst []]) p := P9.app
  obtain ⟨k, h10, k0, k1, P11, x10, l10, e10⟩ := take_y (m := 4) P10 (by decide)
  have lt := P9.lt
  have a1 : h10[h9.length]? = some (.lst (([] : List Int).map D.int)) := x10 _ _ (by omega) (by simp)
  have b1 : h10[h9.length + 1]? = some (.lst (([] : List Int).map D.int)) := x10 _ _ (by omega) (by simp)
  obtain ⟨trs, kps, H, f9, eq, PH, aH, bH, q1, q2, lH⟩ := tale_loop (p := p) (a := h9.length) (b := h9.length + 1) ⟨by omega, by omega, by omega⟩ d0' (some (.int x')) (some (.int m')) (some (.int lag)) (some (.int be)) (some (.int bh)) k.toNat 0 h10 [] [] none P11 a1 b1 (by simp; omega) rfl
  have ltH : h9.length + 2 ≤ H.length := by rw [← show (h9 ++ [O.lst [], O.lst []]).length = h9.length + 2 from by simp, ← l10]; exact lH
  refine ⟨H.length, H ++ [.lst [.int d', .int x', .int m', .int lag, .int be, .int bh, .ref h9.length, .ref (h9.length + 1)]], d', x', k.toNat, d0', d1', xp0', xp1', by omega, PH.app, ⟨m', lag, be, bh, h9.length, h9.length + 1, trs, kps, by simp, get_app aH, get_app bH, by simpa using q1, by simpa using q2, ⟨by omega, by omega, by omega⟩, ⟨by omega, by omega, by omega⟩, by omega⟩, ?_⟩
  have hr : Sm.inR k = true := by unfold Sm.inR; simp; omega
  have hq : ∀ (s s2 : S) (env : Ev) (H0 : Hh), sSeq s s2 env H0 = sSeq1 s2 (s env H0) := fun s s2 env H0 => sSeq_eq env H0 s s2
  simp only [List.set_cons_succ, List.set_cons_zero] at e2 e4 e6
  simp [m__law_tale, b__law_tale, e1, -sIf_eq, e2, e3, e4, e5, e6, e7, e8, e9, e10, hr, eq]
end Lk26
namespace Lk26
open PySem L2 PyProof.Rows Sm SmPool
theorem snoc {ns : List Int} (h : 0 < ns.length) : ∃ (ys : List Int) (v : Int), ns = ys ++ [v] := by
  rcases List.eq_nil_or_concat ns with rfl | ⟨ys, v, rfl⟩
  · simp at h
  · exact ⟨ys, v, by simp⟩
theorem atI_mem {xs : List Int} {j : Nat} (h : j < xs.length) : ∃ v, atI (xs.map D.int) (j : Int) = some (.int v) := ⟨xs[j], atI_get rfl (by simp [h])⟩
theorem paper_loop {h : Hh} {t a b : Nat} {d x m lag be bh : Int} {trs kps : List Int} (ht : h[t]? = some (.lst [.int d, .int x, .int m, .int lag, .int be, .int bh, .ref a, .ref b])) (ha : h[a]? = some (.lst (trs.map D.int))) (hb : h[b]? = some (.lst (kps.map D.int))) (hl : trs.length ≤ 3) (hk : kps.length = trs.length) :
    ∀ (n j : Nat) (ns : List Int) (e2 : Option D), j + n = trs.length → ns.length = 2 + 2 * j → ∃ (ns' : List Int) (e2' : Option D), ns'.length = 2 + 2 * trs.length ∧
      forL (gtName 2) b__law_paper_1 none (rngD (j : Int) n) [some (.ref t), some (.ref h.length), e2] (h ++ [.lst (ns.map D.int)]) = .nx [some (.ref t), some (.ref h.length), e2'] (h ++ [.lst (ns'.map D.int)])
  | 0, j, ns, e2, hj, hn => ⟨ns, e2, by rw [hn]; omega, by rw [rngD_nil, forL_nil (gd := none) trivial]⟩
  | n + 1, j, ns, e2, hj, hn => by
    obtain ⟨ys, v, rfl⟩ := snoc (ns := ns) (by omega)
    obtain ⟨u, hu⟩ := atI_mem (xs := trs) (j := j) (by omega)
    obtain ⟨w, hw⟩ := atI_mem (xs := kps) (j := j) (by omega)
    have t6 : atI [D.int d, D.int x, D.int m, D.int lag, D.int be, D.int bh, D.ref a, D.ref b] 6 = some (.ref a) := rfl
    have t7 : atI [D.int d, D.int x, D.int m, D.int lag, D.int be, D.int bh, D.ref a, D.ref b] 7 = some (.ref b) := rfl
    have g1 : ∀ k : Hh, (h ++ k)[t]? = some (.lst [.int d, .int x, .int m, .int lag, .int be, .int bh, .ref a, .ref b]) := fun k => get_app ht
    have g2 : ∀ k : Hh, (h ++ k)[a]? = some (.lst (trs.map D.int)) := fun k => get_app ha
    have g3 : ∀ k : Hh, (h ++ k)[b]? = some (.lst (kps.map D.int)) := fun k => get_app hb
    have al : ∀ (zs : List D) (z : D), atI (zs ++ [z]) (-1) = some z := fun zs z => atI_last zs z
    have al2 : ∀ (zs : List D) (y z : D), atI (zs ++ [y, z]) (-1) = some z := fun zs y z => by
      have := atI_last (zs ++ [y]) z
      simpa using this
    have hs1 : ys.length + 1 < sizeLine := by rw [sizeLine_eq]; simp at hn; omega
    have hs2 : ys.length + 1 + 1 < sizeLine := by rw [sizeLine_eq]; simp at hn; omega
    have bd : b__law_paper_1 [some (.ref t), some (.ref h.length), some (.int (j : Int))] (h ++ [.lst ((ys ++ [v]).map D.int)]) = .nx [some (.ref t), some (.ref h.length), some (.int (j : Int))] (h ++ [.lst ((ys ++ [v, v + u, v + u + w]).map D.int)]) := by
      simp [b__law_paper_1, g1, g2, g3, t6, t7, al, al2, hu, hw, hs1, hs2]
    obtain ⟨ns', e2', hl', eq⟩ := paper_loop ht ha hb hl hk n (j + 1) (ys ++ [v, v + u, v + u + w]) (some (.int (j : Int))) (by omega) (by simp at hn ⊢; omega)
    refine ⟨ns', e2', hl', ?_⟩
    rw [rngD_succ, forL_nx (g := gtName 2) (gd := none) trivial rfl bd]
    exact eq
theorem paper_y {p n0 : Nat} {h : Hh} {t : Nat} {d x : Int} {k : Nat} (T : Tl p n0 h t d x k) (hk : k ≤ 3) : ∃ ns : List Int, ns.length = 2 + 2 * k ∧ m__law_paper [.ref t] h = .ok (.ref h.length) (h ++ [.lst (ns.map D.int)]) := by
  obtain ⟨m, lag, be, bh, a, b, trs, kps, h1, h2, h3, h4, h5, g, g', g''⟩ := T
  obtain ⟨ns, e2, hl, eq⟩ := paper_loop h1 h2 h3 (by omega) (by omega) k 0 [m, m + lag] none (by omega) rfl
  refine ⟨ns, by omega, ?_⟩
  have g1 : ∀ k : Hh, (h ++ k)[t]? = some (.lst [.int d, .int x, .int m, .int lag, .int be, .int bh, .ref a, .ref b]) := fun k => get_app h1
  have g2 : ∀ k : Hh, (h ++ k)[a]? = some (.lst (trs.map D.int)) := fun k => get_app h2
  have t2 : atI [D.int d, D.int x, D.int m, D.int lag, D.int be, D.int bh, D.ref a, D.ref b] 2 = some (.int m) := rfl
  have t3 : atI [D.int d, D.int x, D.int m, D.int lag, D.int be, D.int bh, D.ref a, D.ref b] 3 = some (.int lag) := rfl
  have t6 : atI [D.int d, D.int x, D.int m, D.int lag, D.int be, D.int bh, D.ref a, D.ref b] 6 = some (.ref a) := rfl
  have hr : Sm.inR (k : Int) = true := inR_ok (by omega) (by omega)
  simp only [List.map_cons, List.map_nil, Int.natCast_zero] at eq
  simp [m__law_paper, b__law_paper, h1, h2, g1, g2, t2, t3, t6, h4, hr, eq]
theorem line_y {p n0 : Nat} {h : Hh} {t : Nat} {d x : Int} {k : Nat} (T : Tl p n0 h t d x k) (hk : k ≤ 3) (hd : 0 ≤ d ∧ d ≤ 1000) (hx : 0 ≤ x ∧ x ≤ 100000) : ∃ (ns : List Int) (L : Line), L.Ok ∧ m__law_line [.ref t] h = .ok (.ref (h.length + 1)) (h ++ [.lst (ns.map D.int), .lst L.ds]) := by
  obtain ⟨ns, hl, e⟩ := paper_y T hk
  obtain ⟨m, lag, be, bh, a, b, trs, kps, h1, h2, h3, h4, h5, g, g', g''⟩ := T
  obtain ⟨ys, v, rfl⟩ := snoc (ns := ns) (by omega)
  refine ⟨ys ++ [v], ⟨d, x, if 1000000 < (if 0 > v - be then 0 else v - be) then 1000000 else (if 0 > v - be then 0 else v - be), if 1000000 < (if 0 > v + bh then 0 else v + bh) then 1000000 else (if 0 > v + bh then 0 else v + bh), if 100000 < (if 0 > kps.sum then 0 else kps.sum) then 100000 else (if 0 > kps.sum then 0 else kps.sum), 1 + k⟩, ?_, ?_⟩
  · constructor <;> dsimp only <;> first | omega | (split <;> split <;> omega)
  · have g1 : ∀ k : Hh, (h ++ k)[t]? = some (.lst [.int d, .int x, .int m, .int lag, .int be, .int bh, .ref a, .ref b]) := fun k => get_app h1
    have g2 : ∀ k : Hh, (h ++ k)[a]? = some (.lst (trs.map D.int)) := fun k => get_app h2
    have g3 : ∀ k : Hh, (h ++ k)[b]? = some (.lst (kps.map D.int)) := fun k => get_app h3
    have tt : ∀ i : Int, atI [D.int d, D.int x, D.int m, D.int lag, D.int be, D.int bh, D.ref a, D.ref b] i = atI [D.int d, D.int x, D.int m, D.int lag, D.int be, D.int bh, D.ref a, D.ref b] i := fun _ => rfl
    have al : ∀ (zs : List D) (z : D), atI (zs ++ [z]) (-1) = some z := fun zs z => atI_last zs z
    have t0 : atI [D.int d, D.int x, D.int m, D.int lag, D.int be, D.int bh, D.ref a, D.ref b] 0 = some (.int d) := rfl
    have t1 : atI [D.int d, D.int x, D.int m, D.int lag, D.int be, D.int bh, D.ref a, D.ref b] 1 = some (.int x) := rfl
    have t4 : atI [D.int d, D.int x, D.int m, D.int lag, D.int be, D.int bh, D.ref a, D.ref b] 4 = some (.int be) := rfl
    have t5 : atI [D.int d, D.int x, D.int m, D.int lag, D.int be, D.int bh, D.ref a, D.ref b] 5 = some (.int bh) := rfl
    have t6 : atI [D.int d, D.int x, D.int m, D.int lag, D.int be, D.int bh, D.ref a, D.ref b] 6 = some (.ref a) := rfl
    have t7 : atI [D.int d, D.int x, D.int m, D.int lag, D.int be, D.int bh, D.ref a, D.ref b] 7 = some (.ref b) := rfl
    simp [m__law_line, b__law_line, e, g1, g2, g3, al, t0, t1, t4, t5, t6, t7, intsOf_map, h4, Line.ds]
end Lk26
namespace Lk26
open PySem L2 PyProof.Rows Sm SmPool
theorem bent_pre {h : Hh} {p n0 t : Nat} {d x m lag be bh : Int} {a b : Nat} {trs kps : List Int} {k : Nat} (P : Pl h p) (h1 : h[t]? = some (.lst [.int d, .int x, .int m, .int lag, .int be, .int bh, .ref a, .ref b])) (h2 : h[a]? = some (.lst (trs.map D.int))) (h3 : h[b]? = some (.lst (kps.map D.int))) (h4 : trs.length = k) (hk : k ≤ 3) (kind : Int) :
    ∃ place H1, 0 ≤ place ∧ place < (if (k : Int) > 1 then (k : Int) else 1) ∧ Pl H1 p ∧ Xt p h H1 ∧ H1[h.length + 5]? = some (.lst [.int d, .int x, .int m, .int lag, .int be, .int bh, .ref (h.length + 2), .ref (h.length + 3)]) ∧ H1[h.length + 2]? = some (.lst (trs.map D.int)) ∧ H1[h.length + 3]? = some (.lst (kps.map D.int)) ∧
      ∀ rest : S, sSeq (sSet 3 (eB opAdd (eN opList [(eSl (eV 1) none (some (eC (.int 6))))]) (eLst [(eN opList [(eB opIx (eV 1) (eC (.int 6)))]), (eN opList [(eB opIx (eV 1) (eC (.int 7)))])])))
    (sSeq (sSet 4 (eN opLen [(eB opIx (eV 1) (eC (.int 6)))]))
    (sSeq (sSet 5 (eCall m__law_take [(eV 0), (eN opMax [(eC (.int 1)), (eV 4)])])) rest)) [some (.ref p), some (.ref t), some (.int kind), none, none, none, none] h = rest [some (.ref p), some (.ref t), some (.int kind), some (.ref (h.length + 5)), some (.int (k : Int)), some (.int place), none] H1 := by
  have lt := P.lt
  have P0 : Pl (h ++ [.lst [.int d, .int x, .int m, .int lag, .int be, .int bh], .lst [.int d, .int x, .int m, .int lag, .int be, .int bh], .lst (trs.map D.int), .lst (kps.map D.int), .lst [.ref (h.length + 2), .ref (h.length + 3)], .lst [.int d, .int x, .int m, .int lag, .int be, .int bh, .ref (h.length + 2), .ref (h.length + 3)]]) p := P.app
  obtain ⟨place, H1, q0, q1, P1, x1, l1, e1⟩ := take_y (m := if (k : Int) > 1 then (k : Int) else 1) P0 (by split <;> omega)
  refine ⟨place, H1, q0, q1, P1, Xt.app.trans x1, x1 _ _ (by omega) (by simp), x1 _ _ (by omega) (by simp), x1 _ _ (by omega) (by simp), fun rest => ?_⟩
  have g1 : ∀ k : Hh, (h ++ k)[t]? = some (.lst [.int d, .int x, .int m, .int lag, .int be, .int bh, .ref a, .ref b]) := fun k => get_app h1
  have g2 : ∀ k : Hh, (h ++ k)[a]? = some (.lst (trs.map D.int)) := fun k => get_app h2
  have g3 : ∀ k : Hh, (h ++ k)[b]? = some (.lst (kps.map D.int)) := fun k => get_app h3
  have t6 : atI [D.int d, D.int x, D.int m, D.int lag, D.int be, D.int bh, D.ref a, D.ref b] 6 = some (.ref a) := rfl
  have t7 : atI [D.int d, D.int x, D.int m, D.int lag, D.int be, D.int bh, D.ref a, D.ref b] 7 = some (.ref b) := rfl
  have c6 : cutD [D.int d, D.int x, D.int m, D.int lag, D.int be, D.int bh, D.ref a, D.ref b] none (some 6) = [D.int d, D.int x, D.int m, D.int lag, D.int be, D.int bh] := rfl
  have s8 : 8 ≤ sizeLine := by rw [sizeLine_eq]; omega
  simp only [gt_iff_lt] at e1
  simp [h1, g1, g2, g3, t6, t7, c6, s8, h4, e1]
theorem bent_y {h : Hh} {p n0 t : Nat} {d x : Int} {k : Nat} (P : Pl h p) (T : Tl p n0 h t d x k) (hk : k ≤ 3) (kind : Int) : ∃ b H, Pl H p ∧ Xt p h H ∧ Tl p h.length H b d x k ∧ m__law_bent [.ref p, .ref t, .int kind] h = .ok (.ref b) H := by
  obtain ⟨m, lag, be, bh, a, b, trs, kps, h1, h2, h3, h4, h5, g, g', g''⟩ := T
  have lt := P.lt
  obtain ⟨place, H1, q0, q1, P1, x1, f1, f2, f3, pre⟩ := bent_pre (n0 := 0) P h1 h2 h3 h4 hk kind
  have ebent : ∀ kd : Int, m__law_bent [.ref p, .ref t, .int kd] h = fnEnd (b__law_bent [some (.ref p), some (.ref t), some (.int kd), none, none, none, none] h) := fun kd => by simp only [m__law_bent, fnM_eq]; rfl
  have t0 : atI [D.int d, D.int x, D.int m, D.int lag, D.int be, D.int bh, D.ref (h.length + 2), D.ref (h.length + 3)] 0 = some (.int d) := rfl
  have t1 : atI [D.int d, D.int x, D.int m, D.int lag, D.int be, D.int bh, D.ref (h.length + 2), D.ref (h.length + 3)] 1 = some (.int x) := rfl
  have t6 : atI [D.int d, D.int x, D.int m, D.int lag, D.int be, D.int bh, D.ref (h.length + 2), D.ref (h.length + 3)] 6 = some (.ref (h.length + 2)) := rfl
  have t7 : atI [D.int d, D.int x, D.int m, D.int lag, D.int be, D.int bh, D.ref (h.length + 2), D.ref (h.length + 3)] 7 = some (.ref (h.length + 3)) := rfl
  have i2 : ixN 8 2 = some 2 := rfl
  have i3 : ixN 8 3 = some 3 := rfl
  have i4 : ixN 8 4 = some 4 := rfl
  have i5 : ixN 8 5 = some 5 := rfl
  have i8 : ∀ j : Int, ixN (0 + 1 + 1 + 1 + 1 + 1 + 1 + 1 + 1) j = ixN 8 j := fun _ => rfl
  have fin : ∀ (H : Hh) (m' lag' be' bh' : Int) (trs' kps' : List Int), H[h.length + 5]? = some (.lst [.int d, .int x, .int m', .int lag', .int be', .int bh', .ref (h.length + 2), .ref (h.length + 3)]) → H[h.length + 2]? = some (.lst (trs'.map D.int)) → H[h.length + 3]? = some (.lst (kps'.map D.int)) → trs'.length = k → kps'.length = k → Tl p h.length H (h.length + 5) d x k :=
    fun H m' lag' be' bh' trs' kps' a1 a2 a3 a4 a5 => ⟨m', lag', be', bh', _, _, trs', kps', a1, a2, a3, a4, a5, ⟨by omega, by omega, by omega⟩, ⟨by omega, by omega, by omega⟩, lt⟩
  have top : ∀ (m' lag' be' bh' : Int), m__law_bent [.ref p, .ref t, .int kind] h = .ok (.ref (h.length + 5)) (H1.set (h.length + 5) (.lst [.int d, .int x, .int m', .int lag', .int be', .int bh', .ref (h.length + 2), .ref (h.length + 3)])) → ∃ b H, Pl H p ∧ Xt p h H ∧ Tl p h.length H b d x k ∧ m__law_bent [.ref p, .ref t, .int kind] h = .ok (.ref b) H :=
    fun m' lag' be' bh' e => ⟨_, _, Pl.set_ne P1 (by omega), Xt.set_new x1 (by omega), fin _ m' lag' be' bh' trs kps (set_at f1) (by rw [List.getElem?_set_ne (by omega)]; exact f2) (by rw [List.getElem?_set_ne (by omega)]; exact f3) h4 h5, e⟩
  by_cases k1 : kind = 1
  · subst k1
    exact top m (x + 1) be bh (by rw [ebent]; simp [b__law_bent, ↓pre, f1, t0, t1, i3, i8])
  by_cases k2 : kind = 2
  · subst k2
    exact top m (-1) be bh (by rw [ebent]; simp [b__law_bent, ↓pre, f1, t0, t1, i3, i8])
  by_cases k6 : kind = 6
  · subst k6
    exact top m lag (d + 1) bh (by rw [ebent]; simp [b__law_bent, ↓pre, f1, t0, t1, i4, i8])
  by_cases k7 : kind = 7
  · subst k7
    exact top m lag (-1) bh (by rw [ebent]; simp [b__law_bent, ↓pre, f1, t0, t1, i4, i8])
  by_cases k8 : kind = 8
  · subst k8
    exact top m lag be (d + 1) (by rw [ebent]; simp [b__law_bent, ↓pre, f1, t0, t1, i5, i8])
  by_cases k9 : kind = 9
  · subst k9
    exact top m lag be (-1) (by rw [ebent]; simp [b__law_bent, ↓pre, f1, t0, t1, i5, i8])
  by_cases k10 : kind = 10
  · subst k10
    exact top (-1) lag be bh (by rw [ebent]; simp [b__law_bent, ↓pre, f1, t0, t1, i2, i8])
  have same : m__law_bent [.ref p, .ref t, .int kind] h = .ok (.ref (h.length + 5)) H1 → ∃ b H, Pl H p ∧ Xt p h H ∧ Tl p h.length H b d x k ∧ m__law_bent [.ref p, .ref t, .int kind] h = .ok (.ref b) H :=
    fun e => ⟨_, _, P1, x1, fin _ m lag be bh trs kps f1 f2 f3 h4 h5, e⟩
  have top2 : ∀ (trs' : List Int), trs'.length = k → m__law_bent [.ref p, .ref t, .int kind] h = .ok (.ref (h.length + 5)) (H1.set (h.length + 2) (.lst (trs'.map D.int))) → ∃ b H, Pl H p ∧ Xt p h H ∧ Tl p h.length H b d x k ∧ m__law_bent [.ref p, .ref t, .int kind] h = .ok (.ref b) H :=
    fun trs' hl e => ⟨_, _, Pl.set_ne P1 (by omega), Xt.set_new x1 (by omega), fin _ m lag be bh trs' kps (by rw [List.getElem?_set_ne (by omega)]; exact f1) (set_at f2) (by rw [List.getElem?_set_ne (by omega)]; exact f3) hl h5, e⟩
  by_cases hk0 : 0 < k
  · have hk0' : (0 : Int) < (k : Int) := by omega
    have pk : place < (k : Int) := by split at q1 <;> omega
    have ip : ∀ j : Int, 0 ≤ j → j < (k : Int) → ixN k j = some j.toNat := fun j a b => by unfold ixN; rw [if_pos a, if_pos b]
    have ipp := ip place q0 pk
    by_cases k3 : kind = 3
    · subst k3
      refine top2 (trs.set place.toNat (d + 1)) (by simp [h4]) ?_
      rw [ebent]; simp [b__law_bent, ↓pre, f1, f2, t0, t1, t6, h4, hk0, ipp, List.map_set]
    by_cases k4 : kind = 4
    · subst k4
      refine top2 (trs.set place.toNat (-1)) (by simp [h4]) ?_
      rw [ebent]; simp [b__law_bent, ↓pre, f1, f2, t0, t1, t6, h4, hk0, ipp, List.map_set]
    by_cases k5 : kind = 5
    · subst k5
      by_cases hk1 : (1 : Int) < (k : Int)
      · have o0 : 0 ≤ (place + 1) % (k : Int) := Int.emod_nonneg _ (by omega)
        have o1 : (place + 1) % (k : Int) < (k : Int) := Int.emod_lt_of_pos _ hk0'
        generalize ho : (place + 1) % (k : Int) = other at o0 o1
        have ipo := ip other o0 o1
        obtain ⟨u, hu⟩ := atI_mem (xs := kps) (j := other.toNat) (by omega)
        obtain ⟨w, hw⟩ := atI_mem (xs := kps) (j := place.toNat) (by omega)
        rw [Int.toNat_of_nonneg o0] at hu
        rw [Int.toNat_of_nonneg q0] at hw
        refine ⟨_, (H1.set (h.length + 3) (.lst (((kps.set other.toNat (u + w + 1)).set place.toNat (-1)).map D.int))), Pl.set_ne P1 (by omega), Xt.set_new x1 (by omega), fin _ m lag be bh trs ((kps.set other.toNat (u + w + 1)).set place.toNat (-1)) (by rw [List.getElem?_set_ne (by omega)]; exact f1) (by rw [List.getElem?_set_ne (by omega)]; exact f2) (set_at f3) h4 (by simp [h5]), ?_⟩
        have f1' : ∀ o : O, (H1.set (h.length + 3) o)[h.length + 5]? = some (.lst [.int d, .int x, .int m, .int lag, .int be, .int bh, .ref (h.length + 2), .ref (h.length + 3)]) := fun o => by rw [List.getElem?_set_ne (by omega)]; exact f1
        have f3' : ∀ o : O, (H1.set (h.length + 3) o)[h.length + 3]? = some o := fun o => set_at f3
        rw [ebent]; simp [b__law_bent, ↓pre, f1, f3, f1', f3', t0, t1, t6, t7, h5, hk0, hk0', hk1, ipp, ipo, ho, hu, hw, List.map_set]
      · refine same ?_
        rw [ebent]; simp [b__law_bent, ↓pre, hk1]
    · exact same (by rw [ebent]; simp [b__law_bent, ↓pre, k1, k2, k3, k4, k5, k6, k7, k8, k9, k10])
  · have hz : k = 0 := by omega
    have hk1 : ¬ (1 : Int) < (k : Int) := by omega
    refine same ?_
    by_cases k3 : kind = 3
    · subst k3; rw [ebent]; simp [b__law_bent, ↓pre, hk0]
    by_cases k4 : kind = 4
    · subst k4; rw [ebent]; simp [b__law_bent, ↓pre, hk0]
    by_cases k5 : kind = 5
    · subst k5; rw [ebent]; simp [b__law_bent, ↓pre, hk1]
    rw [ebent]; simp [b__law_bent, ↓pre, k1, k2, k3, k4, k5, k6, k7, k8, k9, k10]
end Lk26
namespace Lk26
open PySem L2 PyProof.Rows Sm SmPool
theorem case_pre {h : Hh} {p n0 t : Nat} {d x : Int} {k : Nat} (P : Pl h p) (T : Tl p n0 h t d x k) (hk : k ≤ 3) (hd : 0 ≤ d ∧ d ≤ 1000) (hx : 0 ≤ x ∧ x ≤ 100000) (kind : Int) :
    ∃ (bn l pp : Nat) (mom step spot : Int) (H : Hh) (L : Line) (ns : List Int), Pl H p ∧ Xt p h H ∧ H[l]? = some (.lst L.ds) ∧ L.Ok ∧ H[pp]? = some (.lst (ns.map D.int)) ∧ ns.length = 2 + 2 * k ∧ 0 ≤ spot ∧ spot < ns.length ∧ h.length ≤ l ∧ h.length ≤ pp ∧ l ≠ pp ∧ (step = -1 ∨ step = 1) ∧
      ∀ rest : S, sSeq (sSet 3 (eCall m__law_bent [(eV 0), (eV 1), (eV 2)]))
    (sSeq (sSet 4 (eCall m__law_line [(eV 3)]))
    (sSeq (sSet 5 (eCall m__law_paper [(eV 3)]))
    (sSeq (sSet 6 (eB opIx (eV 3) (eC (.int 2))))
    (sSeq (sSet 7 (eB opSub (eB opMul (eC (.int 2)) (eCall m__law_take [(eV 0), (eC (.int 2))])) (eC (.int 1))))
    (sSeq (sSet 8 (eCall m__law_take [(eV 0), (eN opLen [(eV 5)])])) rest))))) [some (.ref p), some (.ref t), some (.int kind), none, none, none, none, none, none] h =
      rest [some (.ref p), some (.ref t), some (.int kind), some (.ref bn), some (.ref l), some (.ref pp), some (.int mom), some (.int step), some (.int spot)] H := by
  obtain ⟨bn, H1, P1, x1, T1, e1⟩ := bent_y P T hk kind
  obtain ⟨zs, L, ok, e2⟩ := line_y T1 hk hd hx
  have T2 := T1.xt (Xt.app (g := [.lst (zs.map D.int), .lst L.ds]))
  obtain ⟨ns, hl, e3⟩ := paper_y T2 hk
  have T3 := T2.xt (Xt.app (g := [.lst (ns.map D.int)]))
  obtain ⟨mom, lag, be, bh, a, b, trs, kps, f1, _⟩ := T3
  have hle : h.length ≤ H1.length := by
    by_cases q : h.length ≤ H1.length
    · exact q
    · have hpos : 0 < h.length := by omega
      by_cases q2 : h.length - 1 = p
      · have := P1.lt; omega
      · obtain ⟨o, ho⟩ : ∃ o, h[h.length - 1]? = some o := ⟨h[h.length - 1], by simp [hpos]⟩
        have := (List.getElem?_eq_some_iff.mp (x1 _ _ q2 ho)).1
        omega
  have P3 : Pl (H1 ++ [.lst (zs.map D.int), .lst L.ds] ++ [.lst (ns.map D.int)]) p := P1.app.app
  have lt1 := P1.lt
  have lt := P.lt
  obtain ⟨r, H4, r0, r1, P4, x4, l4, e4⟩ := take_y (m := 2) P3 (by decide)
  obtain ⟨spot, H5, s0, s1, P5, x5, l5, e5⟩ := take_y (m := (ns.length : Int)) P4 (by omega)
  have gl : (H1 ++ [.lst (zs.map D.int), .lst L.ds] ++ [.lst (ns.map D.int)])[H1.length + 1]? = some (.lst L.ds) := by simp
  have gp : (H1 ++ [.lst (zs.map D.int), .lst L.ds] ++ [.lst (ns.map D.int)])[H1.length + 2]? = some (.lst (ns.map D.int)) := by simp
  have gp4 := x4 _ _ (by omega) gp
  refine ⟨bn, H1.length + 1, H1.length + 2, mom, 2 * r - 1, spot, H5, L, ns, P5, (((x1.trans Xt.app).trans Xt.app).trans x4).trans x5, x5 _ _ (by omega) (x4 _ _ (by omega) gl), ok, x5 _ _ (by omega) gp4, hl, s0, s1, by omega, by omega, by omega, by omega, fun rest => ?_⟩
  have t2 : atI [D.int d, D.int x, D.int mom, D.int lag, D.int be, D.int bh, D.ref a, D.ref b] 2 = some (.int mom) := rfl
  have hlen : (H1 ++ [O.lst (zs.map D.int), .lst L.ds]).length = H1.length + 2 := by simp
  rw [hlen] at e3
  have ea : H1 ++ [O.lst (zs.map D.int), .lst L.ds] ++ [.lst (ns.map D.int)] = H1 ++ [O.lst (zs.map D.int), .lst L.ds, .lst (ns.map D.int)] := by simp
  rw [ea] at e3 e4 f1
  have hm : mulOk 2 r = true := mulOk_l (by omega) (by omega)
  simp [e1, e2, e3, f1, t2, e4, gp4, e5, hm]
theorem case_y {h : Hh} {p n0 t : Nat} {d x : Int} {k : Nat} (P : Pl h p) (T : Tl p n0 h t d x k) (hk : k ≤ 3) (hd : 0 ≤ d ∧ d ≤ 1000) (hx : 0 ≤ x ∧ x ≤ 100000) (kind : Int) :
    ∃ (c l : Nat) (m : Int) (paper : D) (L : Line) (H : Hh), Pl H p ∧ Xt p h H ∧ H[c]? = some (.lst [.ref l, .int m, paper]) ∧ H[l]? = some (.lst L.ds) ∧ L.Ok ∧ PaperOk H paper ∧ m__law_case [.ref p, .ref t, .int kind] h = .ok (.ref c) H := by
  obtain ⟨bn, l, pp, mom, step, spot, H, L, ns, P1, x1, fl, ok, fp, hl, s0, s1, nl, np, ne, hst, pre⟩ := case_pre P T hk hd hx kind
  have ecase : ∀ kd : Int, m__law_case [.ref p, .ref t, .int kd] h = fnEnd (b__law_case [some (.ref p), some (.ref t), some (.int kd), none, none, none, none, none, none] h) := fun kd => by simp only [m__law_case, fnM_eq]; rfl
  have lt := P.lt
  have lt1 := P1.lt
  have isp : ixN ns.length spot = some spot.toNat := by unfold ixN; rw [if_pos s0, if_pos s1]
  obtain ⟨v, hv⟩ := atI_mem (xs := ns) (j := spot.toNat) (by omega)
  rw [Int.toNat_of_nonneg s0] at hv
  have pok : ∀ (H : Hh) (zs : List Int), zs.length ≤ 100 → PaperOk H (.tup (zs.map D.int)) := fun H zs hz => ⟨flat_ints zs, by rw [List.length_map]; omega⟩
  have pset : ∀ (H : Hh) (w : D), flat w = true → PaperOk H (.tup ((ns.map D.int).set spot.toNat w)) := fun H w hw => ⟨by
    rw [List.all_eq_true]
    intro y hy
    rcases List.mem_or_eq_of_mem_set hy with z | z
    · exact List.all_eq_true.mp (flat_ints ns) y z
    · rw [z]; exact hw, by rw [List.length_set, List.length_map]; omega⟩
  have fp' : ∀ g : Hh, (H ++ g)[pp]? = some (.lst (ns.map D.int)) := fun g => get_app fp
  by_cases k11 : kind = 11
  · subst k11
    refine ⟨H.length, l, mom, .tup (ns.map D.int), ⟨L.delay, L.expire, L.sent, L.got, if 100000 < (if 0 > L.age + step then 0 else L.age + step) then 100000 else (if 0 > L.age + step then 0 else L.age + step), L.hops⟩, H.set l (.lst [.int L.delay, .int L.expire, .int L.sent, .int L.got, .int (if 100000 < (if 0 > L.age + step then 0 else L.age + step) then 100000 else (if 0 > L.age + step then 0 else L.age + step)), .int L.hops]) ++ [.lst [.ref l, .int mom, .tup (ns.map D.int)]], (P1.set_ne (by omega)).app, (x1.set_new nl).trans Xt.app, by simp, get_app (set_at fl), ?_, pok _ _ (by omega), ?_⟩
    · obtain ⟨d0, d1, e0, e1, s0, s1, g0, g1, a0, a1, h0, h1⟩ := ok
      constructor <;> dsimp only <;> first | omega | (split <;> split <;> omega)
    · rw [ecase]
      simp only [Line.ds] at fl
      have t4 : atI [D.int L.delay, D.int L.expire, D.int L.sent, D.int L.got, D.int L.age, D.int L.hops] 4 = some (.int L.age) := rfl
      have i4 : ixN 6 4 = some 4 := rfl
      have fpl : ∀ o : O, (H.set l o)[pp]? = some (.lst (ns.map D.int)) := fun o => by rw [List.getElem?_set_ne ne]; exact fp
      simp [b__law_case, ↓pre, fl, fpl, t4, i4]
  by_cases k12 : kind = 12
  · subst k12
    refine ⟨H.length, l, mom + step, .tup (ns.map D.int), L, H ++ [.lst [.ref l, .int (mom + step), .tup (ns.map D.int)]], P1.app, x1.trans Xt.app, by simp, get_app fl, ok, pok _ _ (by omega), ?_⟩
    rw [ecase]
    simp [b__law_case, ↓pre, fp]
  by_cases k13 : kind = 13
  · subst k13
    refine ⟨H.length, l, mom, .tup ((ns.map D.int).set spot.toNat (.int (v + step))), L, H.set pp (.lst ((ns.map D.int).set spot.toNat (.int (v + step)))) ++ [.lst [.ref l, .int mom, .tup ((ns.map D.int).set spot.toNat (.int (v + step)))]], (P1.set_ne (by omega)).app, (x1.set_new np).trans Xt.app, by simp, get_app (by rw [List.getElem?_set_ne (fun z => ne z.symm)]; exact fl), ok, pset _ _ rfl, ?_⟩
    rw [ecase]
    have fps : ∀ o : O, (H.set pp o)[pp]? = some o := fun o => set_at fp
    simp [b__law_case, ↓pre, fp, hv, isp, fps]
  by_cases k14 : kind = 14
  · subst k14
    refine ⟨H.length, l, mom, .ref pp, L, H ++ [.lst [.ref l, .int mom, .ref pp]], P1.app, x1.trans Xt.app, by simp, get_app fl, ok, ⟨_, get_app fp⟩, ?_⟩
    rw [ecase]
    simp [b__law_case, ↓pre]
  by_cases k15 : kind = 15
  · subst k15
    rcases hst with rfl | rfl
    · obtain ⟨zs, hz, hzl⟩ : ∃ zs : List Int, cutD (ns.map D.int) none (some (-1)) = zs.map D.int ∧ zs.length ≤ ns.length := by
        refine ⟨(ns.drop (HT.sIx (ns.map D.int).length 0 none)).take (HT.sIx (ns.map D.int).length (ns.map D.int).length (some (-1)) - HT.sIx (ns.map D.int).length 0 none), ?_, ?_⟩
        · unfold Sm.cutD; rw [List.map_take, List.map_drop]
        · rw [List.length_take, List.length_drop]; omega
      refine ⟨H.length + 1, l, mom, .tup (zs.map D.int), L, H ++ [.lst (zs.map D.int), .lst [.ref l, .int mom, .tup (zs.map D.int)]], P1.app, x1.trans Xt.app, by simp, get_app fl, ok, pok _ _ (by omega), ?_⟩
      rw [ecase]
      simp [b__law_case, ↓pre, fp, hz]
    · obtain ⟨ys, w, rfl⟩ := snoc (ns := ns) (by omega)
      refine ⟨H.length, l, mom, .tup ((ys ++ [w, w]).map D.int), L, H.set pp (.lst ((ys ++ [w, w]).map D.int)) ++ [.lst [.ref l, .int mom, .tup ((ys ++ [w, w]).map D.int)]], (P1.set_ne (by omega)).app, (x1.set_new np).trans Xt.app, by simp, get_app (by rw [List.getElem?_set_ne (fun z => ne z.symm)]; exact fl), ok, pok _ _ (by simp at hl ⊢; omega), ?_⟩
      rw [ecase]
      have fps : ∀ o : O, (H.set pp o)[pp]? = some o := fun o => set_at fp
      have al : ∀ (zs : List D) (z : D), atI (zs ++ [z]) (-1) = some z := fun zs z => atI_last zs z
      have hs1 : ys.length + 1 < sizeLine := by rw [sizeLine_eq]; simp at hl; omega
      simp [b__law_case, ↓pre, fp, al, fps, hs1]
  by_cases k16 : kind = 16
  · subst k16
    by_cases hv1 : 1 < v
    · have P2 : Pl (H ++ [.lst [.non, .bl true, .str "1", .tup [.int 1]]]) p := P1.app
      obtain ⟨r, H2, r0, r1, P3, x3, l3, e3⟩ := take_y (m := 4) P2 (by decide)
      have fp2 := x3 _ _ (by omega) (fp' [.lst [.non, .bl true, .str "1", .tup [.int 1]]])
      have fl2 := x3 _ _ (by omega) (get_app (g := [.lst [.non, .bl true, .str "1", .tup [.int 1]]]) fl)
      have lHH : H.length ≠ p := by omega
      have fr := x3 H.length (.lst [.non, .bl true, .str "1", .tup [.int 1]]) lHH (by simp)
      obtain ⟨w, fw, hw⟩ : ∃ w, flat w = true ∧ atI [D.non, D.bl true, D.str "1", D.tup [D.int 1]] r = some w := by
        have : r = 0 ∨ r = 1 ∨ r = 2 ∨ r = 3 := by omega
        rcases this with rfl | rfl | rfl | rfl
        · exact ⟨_, rfl, rfl⟩
        · exact ⟨_, rfl, rfl⟩
        · exact ⟨_, rfl, rfl⟩
        · exact ⟨.tup [D.int 1], rfl, rfl⟩
      have fps : ∀ o : O, (H2.set pp o)[pp]? = some o := fun o => set_at fp2
      refine ⟨H2.length, l, mom, .tup ((ns.map D.int).set spot.toNat w), L, H2.set pp (.lst ((ns.map D.int).set spot.toNat w)) ++ [.lst [.ref l, .int mom, .tup ((ns.map D.int).set spot.toNat w)]], (P3.set_ne (by omega)).app, (((x1.trans Xt.app).trans x3).set_new np).trans Xt.app, by simp, get_app (by rw [List.getElem?_set_ne (fun z => ne z.symm)]; exact fl2), ok, pset _ _ fw, ?_⟩
      rw [ecase]
      simp [b__law_case, ↓pre, fp, fp', hv, hv1, e3, fr, hw, fp2, isp, fps]
    · refine ⟨H.length, l, mom, .tup ((ns.map D.int).set spot.toNat (.bl (decide (v = 1)))), L, H.set pp (.lst ((ns.map D.int).set spot.toNat (.bl (decide (v = 1))))) ++ [.lst [.ref l, .int mom, .tup ((ns.map D.int).set spot.toNat (.bl (decide (v = 1))))]], (P1.set_ne (by omega)).app, (x1.set_new np).trans Xt.app, by simp, get_app (by rw [List.getElem?_set_ne (fun z => ne z.symm)]; exact fl), ok, pset _ _ rfl, ?_⟩
      rw [ecase]
      have fps : ∀ o : O, (H.set pp o)[pp]? = some o := fun o => set_at fp
      simp [b__law_case, ↓pre, fp, hv, hv1, isp, fps]
  by_cases k17 : kind = 17
  · subst k17
    have P2 : Pl (H ++ [.lst [.non, .tup [], .str "story", .int 5]]) p := P1.app
    obtain ⟨r, H2, r0, r1, P3, x3, l3, e3⟩ := take_y (m := 4) P2 (by decide)
    have fl2 := x3 _ _ (by omega) (get_app (g := [.lst [.non, .tup [], .str "story", .int 5]]) fl)
    have lHH : H.length ≠ p := by omega
    have fr := x3 H.length (.lst [.non, .tup [], .str "story", .int 5]) lHH (by simp)
    obtain ⟨w, fw, hw⟩ : ∃ w, (∀ H, PaperOk H w) ∧ atI [D.non, D.tup [], D.str "story", D.int 5] r = some w := by
      have : r = 0 ∨ r = 1 ∨ r = 2 ∨ r = 3 := by omega
      rcases this with rfl | rfl | rfl | rfl
      · exact ⟨.non, fun _ => trivial, rfl⟩
      · exact ⟨.tup [], fun _ => ⟨rfl, by decide⟩, rfl⟩
      · exact ⟨.str "story", fun _ => trivial, rfl⟩
      · exact ⟨.int 5, fun _ => trivial, rfl⟩
    refine ⟨H2.length, l, mom, w, L, H2 ++ [.lst [.ref l, .int mom, w]], P3.app, ((x1.trans Xt.app).trans x3).trans Xt.app, by simp, get_app fl2, ok, fw _, ?_⟩
    rw [ecase]
    simp [b__law_case, ↓pre, e3, fr, hw]
  refine ⟨H.length, l, mom, .tup (ns.map D.int), L, H ++ [.lst [.ref l, .int mom, .tup (ns.map D.int)]], P1.app, x1.trans Xt.app, by simp, get_app fl, ok, pok _ _ (by omega), ?_⟩
  rw [ecase]
  simp [b__law_case, ↓pre, fp, k11, k12, k13, k14, k15, k16, k17]
end Lk26
namespace Lk26
open PySem L2 PyProof.Rows Sm SmPool
/-- one of the eighteen papers -/
theorem kind_turn {h : Hh} {p n0 t : Nat} {d x : Int} {k : Nat} (P : Pl h p) (T : Tl p n0 h t d x k) (hk : k ≤ 3) (hd : 0 ≤ d ∧ d ≤ 1000) (hx : 0 ≤ x ∧ x ≤ 100000) (kind : Int) (e0 e3 e4 e5 e6 e8 e9 e10 : Option D) :
    ∃ (f3 f6 f8 f9 f10 : Option D) (H : Hh), b_law_2 [e0, some (.ref p), some (.ref t), e3, e4, e5, e6, some (.int kind), e8, e9, e10] h = .nx [e0, some (.ref p), some (.ref t), f3, e4, e5, f6, some (.int kind), f8, f9, f10] H ∧ Pl H p ∧ Tl p n0 H t d x k := by
  obtain ⟨c, l, m, paper, L, H1, P1, x1, fc, fl, ok, pk, e1⟩ := case_y P T hk hd hx kind
  have lw := lw_spec L ok m paper fl pk
  obtain ⟨H2, is, k2⟩ := isst_spec L ok m paper H1 pk
  obtain ⟨H3, tr, k3⟩ := right_spec ok m (k2 _ _ fl)
  simp only [Line.ds] at fl
  refine ⟨some (.ref l), some (.int m), some (.bl (stP L m paper)), some (.bl (stP L m paper)), some paper, H3, ?_, k3.pl (k2.pl P1), ((T.xt x1).xt k2.xt).xt k3.xt⟩
  simp [b_law_2, e1, fc, lw, fl, atI, ixN, is, tr]
theorem kind_loop {p n0 t : Nat} {d x : Int} {k : Nat} (hk : k ≤ 3) (hd : 0 ≤ d ∧ d ≤ 1000) (hx : 0 ≤ x ∧ x ≤ 100000) (e0 e4 e5 : Option D) : ∀ (n : Nat) (j : Int) (h : Hh) (e3 e6 e7 e8 e9 e10 : Option D), Pl h p → Tl p n0 h t d x k →
    ∃ (env : Ev) (H : Hh), forL (gtName 7) b_law_2 none (rngD j n) [e0, some (.ref p), some (.ref t), e3, e4, e5, e6, e7, e8, e9, e10] h = .nx env H
  | 0, j, h, e3, e6, e7, e8, e9, e10, P, T => ⟨_, _, by rw [rngD_nil, forL_nil (gd := none) trivial]⟩
  | n + 1, j, h, e3, e6, e7, e8, e9, e10, P, T => by
    obtain ⟨f3, f6, f8, f9, f10, H, b, P1, T1⟩ := kind_turn P T hk hd hx j e0 e3 e4 e5 e6 e8 e9 e10
    obtain ⟨env, H', eq⟩ := kind_loop hk hd hx e0 e4 e5 n (j + 1) H f3 f6 (some (.int j)) f8 f9 f10 P1 T1
    refine ⟨env, H', ?_⟩
    rw [rngD_succ, forL_nx (g := gtName 7) (gd := none) trivial rfl b]
    exact eq
theorem asked_loop {p n0 t l a : Nat} {d x : Int} {k : Nat} {L : Line} (ok : L.Ok) (as : List Int) (e0 e1 e2 e4 e5 e7 e8 e9 e10 : Option D) : ∀ (xs : List Int) (h : Hh) (e6 : Option D), h[l]? = some (.lst L.ds) → h[a]? = some (.lst (as.map D.int)) → Pl h p → Tl p n0 h t d x k →
    ∃ (e6' : Option D) (H : Hh), forL (gtName 6) b_law_1 (some (a, .lst (as.map D.int))) (xs.map D.int) [e0, e1, e2, some (.ref l), e4, e5, e6, e7, e8, e9, e10] h = .nx [e0, e1, e2, some (.ref l), e4, e5, e6', e7, e8, e9, e10] H ∧ Pl H p ∧ Tl p n0 H t d x k
  | [], h, e6, el, ea, P, T => ⟨e6, h, by rw [List.map_nil, forL_nil (gd := some (a, .lst (as.map D.int))) ea], P, T⟩
  | y :: xs, h, e6, el, ea, P, T => by
    obtain ⟨H1, tr, k1⟩ := right_spec ok y el
    have b : b_law_1 [e0, e1, e2, some (.ref l), e4, e5, some (.int y), e7, e8, e9, e10] h = .nx [e0, e1, e2, some (.ref l), e4, e5, some (.int y), e7, e8, e9, e10] H1 := by simp [b_law_1, tr]
    obtain ⟨e6', H, eq, P', T'⟩ := asked_loop ok as e0 e1 e2 e4 e5 e7 e8 e9 e10 xs H1 (some (.int y)) (k1 _ _ el) (k1 _ _ ea) (k1.pl P) (T.xt k1.xt)
    refine ⟨e6', H, ?_, P', T'⟩
    rw [List.map_cons, forL_nx (g := gtName 6) (gd := some (a, .lst (as.map D.int))) ea rfl b]
    exact eq
theorem win_le {L : Line} (ok : L.Ok) {a b : Int} (e : win L = some (a, b)) : a ≤ b := by
  obtain ⟨w1, w2, w3, w4, w5, w6⟩ := win_inv ok e
  have h1 := ok.h0
  have hJ : 0 ≤ (L.hops - 1) * L.delay := Int.mul_nonneg (by omega) ok.d0
  have x0 := ok.e0
  unfold win at e
  have e' : (if lo L > hi L ∨ (L.hops = 1 ∧ L.age > 0) ∨ hi L - L.age < 0 then none else some ((if lo L - L.age - (L.hops - 1) * L.delay - L.expire > 0 then lo L - L.age - (L.hops - 1) * L.delay - L.expire else 0), hi L - L.age)) = some (a, b) := e
  split at e'
  · cases e'
  · simp only [Option.some.injEq, Prod.mk.injEq] at e'
    obtain ⟨e1, e2⟩ := e'
    generalize (L.hops - 1) * L.delay = J at *
    split at e1 <;> omega
theorem main (ns : List Int) (hl : ns.length ≤ 63) : ∃ h', m_law [.fls (ns.map D.int)] [] = .ok (.bl true) h' := by
  obtain ⟨p, h1, P1, e1⟩ := pool_y ns hl
  obtain ⟨t, h2, d, x, k, hd0, hd1, hx0, hx1, hk, P2, T2, e2⟩ := tale_y P1
  obtain ⟨zs, L, ok, e3⟩ := line_y T2 hk ⟨hd0, hd1⟩ ⟨hx0, hx1⟩
  have P3 : Pl (h2 ++ [.lst (zs.map D.int), .lst L.ds]) p := P2.app
  have T3 := T2.xt (Xt.app (g := [.lst (zs.map D.int), .lst L.ds]))
  have el3 : (h2 ++ [O.lst (zs.map D.int), .lst L.ds])[h2.length + 1]? = some (.lst L.ds) := by simp
  have e4 := formula_spec L ok (h2 ++ [.lst (zs.map D.int), .lst L.ds]) (h2.length + 1) el3
  obtain ⟨r1, h4, _, _, P4, x4, l4, e5⟩ := wide_y (m := 1000) P3 (by decide)
  obtain ⟨r2, h5, _, _, P5, x5, l5, e6⟩ := wide_y (m := 1000000) P4 (by decide)
  have lt2 := P2.lt
  have el5 := x5 _ _ (by omega) (x4 _ _ (by omega) el3)
  have T5 := (T3.xt x4).xt x5
  obtain ⟨mom, lag, be, bh, a, b, trs, kps, f1, _⟩ := id T3
  have t2 : atI [D.int d, D.int x, D.int mom, D.int lag, D.int be, D.int bh, D.ref a, D.ref b] 2 = some (.int mom) := rfl
  have hr : Sm.inR 18 = true := rfl
  cases hw : win L with
  | none =>
    rw [hw] at e4
    obtain ⟨e6', H, eq, P6, T6⟩ := asked_loop (l := h2.length + 1) (a := h5.length) ok [mom, -1 - r1, 1000000 + r2] (some (.fls (ns.map D.int))) (some (.ref p)) (some (.ref t)) (some (wd none)) (some (.ref h5.length)) none none none none [mom, -1 - r1, 1000000 + r2] (h5 ++ [.lst [.int mom, .int (-1 - r1), .int (1000000 + r2)]]) none (get_app el5) (by simp) P5.app (T5.xt Xt.app)
    obtain ⟨env, H', eq2⟩ := kind_loop hk ⟨hd0, hd1⟩ ⟨hx0, hx1⟩ (some (.fls (ns.map D.int))) (some (wd none)) (some (.ref h5.length)) 18 0 H (some (.ref (h2.length + 1))) e6' none none none none P6 T6
    refine ⟨H', ?_⟩
    simp only [wd, List.map_cons, List.map_nil] at eq eq2 e4
    simp [m_law, b_law, e1, e2, e3, e4, f1, t2, e5, e6, wd, eq, hr, eq2]
  | some w =>
    obtain ⟨w0, w1⟩ := w
    rw [hw] at e4
    have hle := win_le ok hw
    have P6 : Pl (h5 ++ [.lst [.int mom, .int (-1 - r1), .int (1000000 + r2), .int w0, .int w1, .int (w0 - 1), .int (w1 + 1)], .lst [.int w0, .int w1, .int (w0 - 1), .int (w1 + 1)]]) p := P5.app
    obtain ⟨r3, h6, _, _, P7, x7, l7, e7⟩ := wide_y (m := w1 - w0 + 1) P6 (by omega)
    have lt5 := P5.lt
    have fa : h6[h5.length]? = some (.lst [.int mom, .int (-1 - r1), .int (1000000 + r2), .int w0, .int w1, .int (w0 - 1), .int (w1 + 1)]) := x7 _ _ (by omega) (by simp)
    have xx : Xt p h5 (h6.set h5.length (.lst [.int mom, .int (-1 - r1), .int (1000000 + r2), .int w0, .int w1, .int (w0 - 1), .int (w1 + 1), .int (w0 + r3)])) := (Xt.app.trans x7).set_new (Nat.le_refl _)
    obtain ⟨e6', H, eq, P8, T8⟩ := asked_loop (l := h2.length + 1) (a := h5.length) ok [mom, -1 - r1, 1000000 + r2, w0, w1, w0 - 1, w1 + 1, w0 + r3] (some (.fls (ns.map D.int))) (some (.ref p)) (some (.ref t)) (some (wd (some (w0, w1)))) (some (.ref h5.length)) none none none none [mom, -1 - r1, 1000000 + r2, w0, w1, w0 - 1, w1 + 1, w0 + r3] (h6.set h5.length (.lst [.int mom, .int (-1 - r1), .int (1000000 + r2), .int w0, .int w1, .int (w0 - 1), .int (w1 + 1), .int (w0 + r3)])) none (xx _ _ (by omega) el5) (set_at fa) (P7.set_ne (by omega)) (T5.xt xx)
    obtain ⟨env, H', eq2⟩ := kind_loop hk ⟨hd0, hd1⟩ ⟨hx0, hx1⟩ (some (.fls (ns.map D.int))) (some (wd (some (w0, w1)))) (some (.ref h5.length)) 18 0 H (some (.ref (h2.length + 1))) e6' none none none none P8 T8
    refine ⟨H', ?_⟩
    have s7 : 3 + 4 ≤ sizeLine := by rw [sizeLine_eq]; omega
    have s8 : 7 < sizeLine := by rw [sizeLine_eq]; omega
    have fs : ∀ o : O, (h6.set h5.length o)[h5.length]? = some o := fun o => set_at fa
    simp only [wd, List.map_cons, List.map_nil] at eq eq2 e4
    simp [m_law, b_law, e1, e2, e3, e4, f1, t2, e5, e6, wd, eq, hr, eq2, e7, fa, fs, atI, ixN, s7, s8]
end Lk26
namespace Lk26
open PySem L2 PyProof.Rows Sm
theorem all_mk {l : PySem.W.OpenLaw} {w : World} {K : PySem.W.Frag} {h : Heap} {mg : Str → Option Value} {fa : Addr} (X : K.In h) (G : h.Ns mainGlobals mg) (hfa : mg "law" = some (.ref fa))
    {f_is_integer f_is_between f_check_line f_last_told f_window_of f_story_of f_is_story f__law_pool f__law_take f__law_wide f__law_edge f__law_formula f__law_is_story f__law_amount f__law_tale f__law_paper f__law_line f__law_bent f__law_case f__law_told_right f_law : Addr} {od_is_integer an_is_integer od_is_between an_is_between od_check_line an_check_line od_last_told an_last_told od_window_of an_window_of od_story_of an_story_of od_is_story an_is_story od__law_pool an__law_pool od__law_take an__law_take od__law_wide an__law_wide od__law_edge an__law_edge od__law_formula an__law_formula od__law_is_story an__law_is_story od__law_amount an__law_amount od__law_tale an__law_tale od__law_paper an__law_paper od__law_line an__law_line od__law_bent an__law_bent od__law_case an__law_case od__law_told_right an__law_told_right od_law an_law : Option Addr} {sl_is_integer sl_is_between sl_check_line sl_last_told sl_window_of sl_story_of sl_is_story sl__law_pool sl__law_take sl__law_wide sl__law_edge sl__law_formula sl__law_is_story sl__law_amount sl__law_tale sl__law_paper sl__law_line sl__law_bent sl__law_case sl__law_told_right sl_law : Array (Option Value)} {oc_is_integer kV_is_integer dc_is_integer pm_is_integer cd_is_integer ct_is_integer oc_is_between kV_is_between dc_is_between pm_is_between cd_is_between ct_is_between oc_check_line kV_check_line dc_check_line pm_check_line cd_check_line ct_check_line oc_last_told kV_last_told dc_last_told pm_last_told cd_last_told ct_last_told oc_window_of kV_window_of dc_window_of pm_window_of cd_window_of ct_window_of oc_story_of kV_story_of dc_story_of pm_story_of cd_story_of ct_story_of oc_is_story kV_is_story dc_is_story pm_is_story cd_is_story ct_is_story oc__law_pool kV__law_pool dc__law_pool pm__law_pool cd__law_pool ct__law_pool oc__law_take kV__law_take dc__law_take pm__law_take cd__law_take ct__law_take oc__law_wide kV__law_wide dc__law_wide pm__law_wide cd__law_wide ct__law_wide oc__law_edge kV__law_edge dc__law_edge pm__law_edge cd__law_edge ct__law_edge oc__law_formula kV__law_formula dc__law_formula pm__law_formula cd__law_formula ct__law_formula oc__law_is_story kV__law_is_story dc__law_is_story pm__law_is_story cd__law_is_story ct__law_is_story oc__law_amount kV__law_amount dc__law_amount pm__law_amount cd__law_amount ct__law_amount oc__law_tale kV__law_tale dc__law_tale pm__law_tale cd__law_tale ct__law_tale oc__law_paper kV__law_paper dc__law_paper pm__law_paper cd__law_paper ct__law_paper oc__law_line kV__law_line dc__law_line pm__law_line cd__law_line ct__law_line oc__law_bent kV__law_bent dc__law_bent pm__law_bent cd__law_bent ct__law_bent oc__law_case kV__law_case dc__law_case pm__law_case cd__law_case ct__law_case oc__law_told_right kV__law_told_right dc__law_told_right pm__law_told_right cd__law_told_right ct__law_told_right oc_law kV_law dc_law pm_law cd_law ct_law : Value} {u_MOST_DELAY u_MOST_MOMENT u_MOST_TRAIL u_MOST_TTL : Tok}
    (a_is_integer : PySem.W.nsIn K mainGlobals "is_integer" = some (some (.ref f_is_integer))) (l_is_integer : K.lookup f_is_integer = some ⟨oc_is_integer, od_is_integer, .func (PySem.W.fnOf "is_integer" "is_integer" (defArgs s_is_integer) (defBody s_is_integer) (defScope s_is_integer) .none kV_is_integer dc_is_integer pm_is_integer an_is_integer cd_is_integer ct_is_integer), sl_is_integer⟩) (c_is_integer : PySem.W.codeIn K cd_is_integer "is_integer" = true) (k_is_integer : PySem.W.keepIn K (.ref f_is_integer) = true)
    (a_is_between : PySem.W.nsIn K mainGlobals "is_between" = some (some (.ref f_is_between))) (l_is_between : K.lookup f_is_between = some ⟨oc_is_between, od_is_between, .func (PySem.W.fnOf "is_between" "is_between" (defArgs s_is_between) (defBody s_is_between) (defScope s_is_between) .none kV_is_between dc_is_between pm_is_between an_is_between cd_is_between ct_is_between), sl_is_between⟩) (c_is_between : PySem.W.codeIn K cd_is_between "is_between" = true) (k_is_between : PySem.W.keepIn K (.ref f_is_between) = true)
    (a_check_line : PySem.W.nsIn K mainGlobals "check_line" = some (some (.ref f_check_line))) (l_check_line : K.lookup f_check_line = some ⟨oc_check_line, od_check_line, .func (PySem.W.fnOf "check_line" "check_line" (defArgs s_check_line) (defBody s_check_line) (defScope s_check_line) .none kV_check_line dc_check_line pm_check_line an_check_line cd_check_line ct_check_line), sl_check_line⟩) (c_check_line : PySem.W.codeIn K cd_check_line "check_line" = true) (k_check_line : PySem.W.keepIn K (.ref f_check_line) = true)
    (a_last_told : PySem.W.nsIn K mainGlobals "last_told" = some (some (.ref f_last_told))) (l_last_told : K.lookup f_last_told = some ⟨oc_last_told, od_last_told, .func (PySem.W.fnOf "last_told" "last_told" (defArgs s_last_told) (defBody s_last_told) (defScope s_last_told) .none kV_last_told dc_last_told pm_last_told an_last_told cd_last_told ct_last_told), sl_last_told⟩) (c_last_told : PySem.W.codeIn K cd_last_told "last_told" = true) (k_last_told : PySem.W.keepIn K (.ref f_last_told) = true)
    (a_window_of : PySem.W.nsIn K mainGlobals "window_of" = some (some (.ref f_window_of))) (l_window_of : K.lookup f_window_of = some ⟨oc_window_of, od_window_of, .func (PySem.W.fnOf "window_of" "window_of" (defArgs s_window_of) (defBody s_window_of) (defScope s_window_of) .none kV_window_of dc_window_of pm_window_of an_window_of cd_window_of ct_window_of), sl_window_of⟩) (c_window_of : PySem.W.codeIn K cd_window_of "window_of" = true) (k_window_of : PySem.W.keepIn K (.ref f_window_of) = true)
    (a_story_of : PySem.W.nsIn K mainGlobals "story_of" = some (some (.ref f_story_of))) (l_story_of : K.lookup f_story_of = some ⟨oc_story_of, od_story_of, .func (PySem.W.fnOf "story_of" "story_of" (defArgs s_story_of) (defBody s_story_of) (defScope s_story_of) .none kV_story_of dc_story_of pm_story_of an_story_of cd_story_of ct_story_of), sl_story_of⟩) (c_story_of : PySem.W.codeIn K cd_story_of "story_of" = true) (k_story_of : PySem.W.keepIn K (.ref f_story_of) = true)
    (a_is_story : PySem.W.nsIn K mainGlobals "is_story" = some (some (.ref f_is_story))) (l_is_story : K.lookup f_is_story = some ⟨oc_is_story, od_is_story, .func (PySem.W.fnOf "is_story" "is_story" (defArgs s_is_story) (defBody s_is_story) (defScope s_is_story) .none kV_is_story dc_is_story pm_is_story an_is_story cd_is_story ct_is_story), sl_is_story⟩) (c_is_story : PySem.W.codeIn K cd_is_story "is_story" = true) (k_is_story : PySem.W.keepIn K (.ref f_is_story) = true)
    (a__law_pool : PySem.W.nsIn K mainGlobals "_law_pool" = some (some (.ref f__law_pool))) (l__law_pool : K.lookup f__law_pool = some ⟨oc__law_pool, od__law_pool, .func (PySem.W.fnOf "_law_pool" "_law_pool" (defArgs s__law_pool) (defBody s__law_pool) (defScope s__law_pool) .none kV__law_pool dc__law_pool pm__law_pool an__law_pool cd__law_pool ct__law_pool), sl__law_pool⟩) (c__law_pool : PySem.W.codeIn K cd__law_pool "_law_pool" = true) (k__law_pool : PySem.W.keepIn K (.ref f__law_pool) = true)
    (a__law_take : PySem.W.nsIn K mainGlobals "_law_take" = some (some (.ref f__law_take))) (l__law_take : K.lookup f__law_take = some ⟨oc__law_take, od__law_take, .func (PySem.W.fnOf "_law_take" "_law_take" (defArgs s__law_take) (defBody s__law_take) (defScope s__law_take) .none kV__law_take dc__law_take pm__law_take an__law_take cd__law_take ct__law_take), sl__law_take⟩) (c__law_take : PySem.W.codeIn K cd__law_take "_law_take" = true) (k__law_take : PySem.W.keepIn K (.ref f__law_take) = true)
    (a__law_wide : PySem.W.nsIn K mainGlobals "_law_wide" = some (some (.ref f__law_wide))) (l__law_wide : K.lookup f__law_wide = some ⟨oc__law_wide, od__law_wide, .func (PySem.W.fnOf "_law_wide" "_law_wide" (defArgs s__law_wide) (defBody s__law_wide) (defScope s__law_wide) .none kV__law_wide dc__law_wide pm__law_wide an__law_wide cd__law_wide ct__law_wide), sl__law_wide⟩) (c__law_wide : PySem.W.codeIn K cd__law_wide "_law_wide" = true) (k__law_wide : PySem.W.keepIn K (.ref f__law_wide) = true)
    (a__law_edge : PySem.W.nsIn K mainGlobals "_law_edge" = some (some (.ref f__law_edge))) (l__law_edge : K.lookup f__law_edge = some ⟨oc__law_edge, od__law_edge, .func (PySem.W.fnOf "_law_edge" "_law_edge" (defArgs s__law_edge) (defBody s__law_edge) (defScope s__law_edge) .none kV__law_edge dc__law_edge pm__law_edge an__law_edge cd__law_edge ct__law_edge), sl__law_edge⟩) (c__law_edge : PySem.W.codeIn K cd__law_edge "_law_edge" = true) (k__law_edge : PySem.W.keepIn K (.ref f__law_edge) = true)
    (a__law_formula : PySem.W.nsIn K mainGlobals "_law_formula" = some (some (.ref f__law_formula))) (l__law_formula : K.lookup f__law_formula = some ⟨oc__law_formula, od__law_formula, .func (PySem.W.fnOf "_law_formula" "_law_formula" (defArgs s__law_formula) (defBody s__law_formula) (defScope s__law_formula) .none kV__law_formula dc__law_formula pm__law_formula an__law_formula cd__law_formula ct__law_formula), sl__law_formula⟩) (c__law_formula : PySem.W.codeIn K cd__law_formula "_law_formula" = true) (k__law_formula : PySem.W.keepIn K (.ref f__law_formula) = true)
    (a__law_is_story : PySem.W.nsIn K mainGlobals "_law_is_story" = some (some (.ref f__law_is_story))) (l__law_is_story : K.lookup f__law_is_story = some ⟨oc__law_is_story, od__law_is_story, .func (PySem.W.fnOf "_law_is_story" "_law_is_story" (defArgs s__law_is_story) (defBody s__law_is_story) (defScope s__law_is_story) .none kV__law_is_story dc__law_is_story pm__law_is_story an__law_is_story cd__law_is_story ct__law_is_story), sl__law_is_story⟩) (c__law_is_story : PySem.W.codeIn K cd__law_is_story "_law_is_story" = true) (k__law_is_story : PySem.W.keepIn K (.ref f__law_is_story) = true)
    (a__law_amount : PySem.W.nsIn K mainGlobals "_law_amount" = some (some (.ref f__law_amount))) (l__law_amount : K.lookup f__law_amount = some ⟨oc__law_amount, od__law_amount, .func (PySem.W.fnOf "_law_amount" "_law_amount" (defArgs s__law_amount) (defBody s__law_amount) (defScope s__law_amount) .none kV__law_amount dc__law_amount pm__law_amount an__law_amount cd__law_amount ct__law_amount), sl__law_amount⟩) (c__law_amount : PySem.W.codeIn K cd__law_amount "_law_amount" = true) (k__law_amount : PySem.W.keepIn K (.ref f__law_amount) = true)
    (a__law_tale : PySem.W.nsIn K mainGlobals "_law_tale" = some (some (.ref f__law_tale))) (l__law_tale : K.lookup f__law_tale = some ⟨oc__law_tale, od__law_tale, .func (PySem.W.fnOf "_law_tale" "_law_tale" (defArgs s__law_tale) (defBody s__law_tale) (defScope s__law_tale) .none kV__law_tale dc__law_tale pm__law_tale an__law_tale cd__law_tale ct__law_tale), sl__law_tale⟩) (c__law_tale : PySem.W.codeIn K cd__law_tale "_law_tale" = true) (k__law_tale : PySem.W.keepIn K (.ref f__law_tale) = true)
    (a__law_paper : PySem.W.nsIn K mainGlobals "_law_paper" = some (some (.ref f__law_paper))) (l__law_paper : K.lookup f__law_paper = some ⟨oc__law_paper, od__law_paper, .func (PySem.W.fnOf "_law_paper" "_law_paper" (defArgs s__law_paper) (defBody s__law_paper) (defScope s__law_paper) .none kV__law_paper dc__law_paper pm__law_paper an__law_paper cd__law_paper ct__law_paper), sl__law_paper⟩) (c__law_paper : PySem.W.codeIn K cd__law_paper "_law_paper" = true) (k__law_paper : PySem.W.keepIn K (.ref f__law_paper) = true)
    (a__law_line : PySem.W.nsIn K mainGlobals "_law_line" = some (some (.ref f__law_line))) (l__law_line : K.lookup f__law_line = some ⟨oc__law_line, od__law_line, .func (PySem.W.fnOf "_law_line" "_law_line" (defArgs s__law_line) (defBody s__law_line) (defScope s__law_line) .none kV__law_line dc__law_line pm__law_line an__law_line cd__law_line ct__law_line), sl__law_line⟩) (c__law_line : PySem.W.codeIn K cd__law_line "_law_line" = true) (k__law_line : PySem.W.keepIn K (.ref f__law_line) = true)
    (a__law_bent : PySem.W.nsIn K mainGlobals "_law_bent" = some (some (.ref f__law_bent))) (l__law_bent : K.lookup f__law_bent = some ⟨oc__law_bent, od__law_bent, .func (PySem.W.fnOf "_law_bent" "_law_bent" (defArgs s__law_bent) (defBody s__law_bent) (defScope s__law_bent) .none kV__law_bent dc__law_bent pm__law_bent an__law_bent cd__law_bent ct__law_bent), sl__law_bent⟩) (c__law_bent : PySem.W.codeIn K cd__law_bent "_law_bent" = true) (k__law_bent : PySem.W.keepIn K (.ref f__law_bent) = true)
    (a__law_case : PySem.W.nsIn K mainGlobals "_law_case" = some (some (.ref f__law_case))) (l__law_case : K.lookup f__law_case = some ⟨oc__law_case, od__law_case, .func (PySem.W.fnOf "_law_case" "_law_case" (defArgs s__law_case) (defBody s__law_case) (defScope s__law_case) .none kV__law_case dc__law_case pm__law_case an__law_case cd__law_case ct__law_case), sl__law_case⟩) (c__law_case : PySem.W.codeIn K cd__law_case "_law_case" = true) (k__law_case : PySem.W.keepIn K (.ref f__law_case) = true)
    (a__law_told_right : PySem.W.nsIn K mainGlobals "_law_told_right" = some (some (.ref f__law_told_right))) (l__law_told_right : K.lookup f__law_told_right = some ⟨oc__law_told_right, od__law_told_right, .func (PySem.W.fnOf "_law_told_right" "_law_told_right" (defArgs s__law_told_right) (defBody s__law_told_right) (defScope s__law_told_right) .none kV__law_told_right dc__law_told_right pm__law_told_right an__law_told_right cd__law_told_right ct__law_told_right), sl__law_told_right⟩) (c__law_told_right : PySem.W.codeIn K cd__law_told_right "_law_told_right" = true) (k__law_told_right : PySem.W.keepIn K (.ref f__law_told_right) = true)
    (a_law : PySem.W.nsIn K mainGlobals "law" = some (some (.ref f_law))) (l_law : K.lookup f_law = some ⟨oc_law, od_law, .func (PySem.W.fnOf "law" "law" (defArgs s_law) (defBody s_law) (defScope s_law) .none kV_law dc_law pm_law an_law cd_law ct_law), sl_law⟩) (c_law : PySem.W.codeIn K cd_law "law" = true) (k_law : PySem.W.keepIn K (.ref f_law) = true)
    (z_abs : PySem.W.nsIn K mainGlobals "abs" = some none)
    (z_all : PySem.W.nsIn K mainGlobals "all" = some none)
    (z_bool : PySem.W.nsIn K mainGlobals "bool" = some none)
    (z_int : PySem.W.nsIn K mainGlobals "int" = some none)
    (z_isinstance : PySem.W.nsIn K mainGlobals "isinstance" = some none)
    (z_len : PySem.W.nsIn K mainGlobals "len" = some none)
    (z_list : PySem.W.nsIn K mainGlobals "list" = some none)
    (z_max : PySem.W.nsIn K mainGlobals "max" = some none)
    (z_min : PySem.W.nsIn K mainGlobals "min" = some none)
    (z_range : PySem.W.nsIn K mainGlobals "range" = some none)
    (z_sum : PySem.W.nsIn K mainGlobals "sum" = some none)
    (z_tuple : PySem.W.nsIn K mainGlobals "tuple" = some none)
    (g_MOST_DELAY : PySem.W.nsIn K mainGlobals "MOST_DELAY" = some (some (.int 1000 u_MOST_DELAY)))
    (g_MOST_MOMENT : PySem.W.nsIn K mainGlobals "MOST_MOMENT" = some (some (.int 1000000 u_MOST_MOMENT)))
    (g_MOST_TRAIL : PySem.W.nsIn K mainGlobals "MOST_TRAIL" = some (some (.int 4 u_MOST_TRAIL)))
    (g_MOST_TTL : PySem.W.nsIn K mainGlobals "MOST_TTL" = some (some (.int 100000 u_MOST_TTL))) :
    ∃ fd : FuncData, (∀ (s : Shared) (v : Value), BindsTo s fd ⟨[v], []⟩ [("script", v)]) ∧ ∀ base : Heap, K.In base → base.Ns mainGlobals mg → FnOk l.prog w K mg base (L2.CX l.prog w) 7 fa fd ["script"] (spM K G0 1 m_law) := by
  have e := hfa.symm.trans (PySem.W.mg_of X G a_law)
  cases e
  have T : Tx mg := ⟨PySem.W.mg_none_of X G z_abs, PySem.W.mg_none_of X G z_all, PySem.W.mg_none_of X G z_bool, PySem.W.mg_none_of X G z_int, PySem.W.mg_none_of X G z_isinstance, PySem.W.mg_none_of X G z_len, PySem.W.mg_none_of X G z_list, PySem.W.mg_none_of X G z_max, PySem.W.mg_none_of X G z_min, PySem.W.mg_none_of X G z_range, PySem.W.mg_none_of X G z_sum, PySem.W.mg_none_of X G z_tuple, ⟨_, PySem.W.mg_of X G g_MOST_DELAY⟩, ⟨_, PySem.W.mg_of X G g_MOST_MOMENT⟩, ⟨_, PySem.W.mg_of X G g_MOST_TRAIL⟩, ⟨_, PySem.W.mg_of X G g_MOST_TTL⟩⟩
  have F_is_integer := fun_mk (st := s_is_integer) l_is_integer c_is_integer k_is_integer
  have b_is_integer := F_is_integer.binds (ps := ["value"]) fun _ _ _ _ _ _ us hl => match us, hl with | [_], _ => rfl
  have F_is_between := fun_mk (st := s_is_between) l_is_between c_is_between k_is_between
  have b_is_between := F_is_between.binds (ps := ["value", "low", "high"]) fun _ _ _ _ _ _ us hl => match us, hl with | [_, _, _], _ => rfl
  have F_check_line := fun_mk (st := s_check_line) l_check_line c_check_line k_check_line
  have b_check_line := F_check_line.binds (ps := ["rules", "sent", "got", "age", "hops"]) fun _ _ _ _ _ _ us hl => match us, hl with | [_, _, _, _, _], _ => rfl
  have F_last_told := fun_mk (st := s_last_told) l_last_told c_last_told k_last_told
  have b_last_told := F_last_told.binds (ps := ["rules", "sent", "got"]) fun _ _ _ _ _ _ us hl => match us, hl with | [_, _, _], _ => rfl
  have F_window_of := fun_mk (st := s_window_of) l_window_of c_window_of k_window_of
  have b_window_of := F_window_of.binds (ps := ["rules", "sent", "got", "age", "hops"]) fun _ _ _ _ _ _ us hl => match us, hl with | [_, _, _, _, _], _ => rfl
  have F_story_of := fun_mk (st := s_story_of) l_story_of c_story_of k_story_of
  have b_story_of := F_story_of.binds (ps := ["rules", "sent", "got", "age", "hops", "moment"]) fun _ _ _ _ _ _ us hl => match us, hl with | [_, _, _, _, _, _], _ => rfl
  have F_is_story := fun_mk (st := s_is_story) l_is_story c_is_story k_is_story
  have b_is_story := F_is_story.binds (ps := ["rules", "sent", "got", "age", "hops", "moment", "paper"]) fun _ _ _ _ _ _ us hl => match us, hl with | [_, _, _, _, _, _, _], _ => rfl
  have F__law_pool := fun_mk (st := s__law_pool) l__law_pool c__law_pool k__law_pool
  have b__law_pool := F__law_pool.binds (ps := ["script"]) fun _ _ _ _ _ _ us hl => match us, hl with | [_], _ => rfl
  have F__law_take := fun_mk (st := s__law_take) l__law_take c__law_take k__law_take
  have b__law_take := F__law_take.binds (ps := ["pool", "many"]) fun _ _ _ _ _ _ us hl => match us, hl with | [_, _], _ => rfl
  have F__law_wide := fun_mk (st := s__law_wide) l__law_wide c__law_wide k__law_wide
  have b__law_wide := F__law_wide.binds (ps := ["pool", "many"]) fun _ _ _ _ _ _ us hl => match us, hl with | [_, _], _ => rfl
  have F__law_edge := fun_mk (st := s__law_edge) l__law_edge c__law_edge k__law_edge
  have b__law_edge := F__law_edge.binds (ps := ["pool", "most"]) fun _ _ _ _ _ _ us hl => match us, hl with | [_, _], _ => rfl
  have F__law_formula := fun_mk (st := s__law_formula) l__law_formula c__law_formula k__law_formula
  have b__law_formula := F__law_formula.binds (ps := ["line"]) fun _ _ _ _ _ _ us hl => match us, hl with | [_], _ => rfl
  have F__law_is_story := fun_mk (st := s__law_is_story) l__law_is_story c__law_is_story k__law_is_story
  have b__law_is_story := F__law_is_story.binds (ps := ["line", "moment", "paper"]) fun _ _ _ _ _ _ us hl => match us, hl with | [_, _, _], _ => rfl
  have F__law_amount := fun_mk (st := s__law_amount) l__law_amount c__law_amount k__law_amount
  have b__law_amount := F__law_amount.binds (ps := ["pool", "most"]) fun _ _ _ _ _ _ us hl => match us, hl with | [_, _], _ => rfl
  have F__law_tale := fun_mk (st := s__law_tale) l__law_tale c__law_tale k__law_tale
  have b__law_tale := F__law_tale.binds (ps := ["pool"]) fun _ _ _ _ _ _ us hl => match us, hl with | [_], _ => rfl
  have F__law_paper := fun_mk (st := s__law_paper) l__law_paper c__law_paper k__law_paper
  have b__law_paper := F__law_paper.binds (ps := ["tale"]) fun _ _ _ _ _ _ us hl => match us, hl with | [_], _ => rfl
  have F__law_line := fun_mk (st := s__law_line) l__law_line c__law_line k__law_line
  have b__law_line := F__law_line.binds (ps := ["tale"]) fun _ _ _ _ _ _ us hl => match us, hl with | [_], _ => rfl
  have F__law_bent := fun_mk (st := s__law_bent) l__law_bent c__law_bent k__law_bent
  have b__law_bent := F__law_bent.binds (ps := ["pool", "tale", "kind"]) fun _ _ _ _ _ _ us hl => match us, hl with | [_, _, _], _ => rfl
  have F__law_case := fun_mk (st := s__law_case) l__law_case c__law_case k__law_case
  have b__law_case := F__law_case.binds (ps := ["pool", "tale", "kind"]) fun _ _ _ _ _ _ us hl => match us, hl with | [_, _, _], _ => rfl
  have F__law_told_right := fun_mk (st := s__law_told_right) l__law_told_right c__law_told_right k__law_told_right
  have b__law_told_right := F__law_told_right.binds (ps := ["line", "moment"]) fun _ _ _ _ _ _ us hl => match us, hl with | [_, _], _ => rfl
  have F_law := fun_mk (st := s_law) l_law c_law k_law
  have b_law := F_law.binds (ps := ["script"]) fun _ _ _ _ _ _ us hl => match us, hl with | [_], _ => rfl
  refine ⟨PySem.W.fnOf "law" "law" (defArgs s_law) (defBody s_law) (defScope s_law) .none kV_law dc_law pm_law an_law cd_law ct_law, fun s v => .of_eq rfl, fun base _ _ => ?_⟩
  have O_is_integer : Ok l.prog w K mg base G0 1 "is_integer" ["value"] m_is_integer := ⟨_, _, PySem.W.mg_of X G a_is_integer, F_is_integer.kp, b_is_integer, d_is_integer F_is_integer T ⟩
  have O_is_between : Ok l.prog w K mg base G0 2 "is_between" ["value", "low", "high"] m_is_between := ⟨_, _, PySem.W.mg_of X G a_is_between, F_is_between.kp, b_is_between, d_is_between F_is_between T O_is_integer⟩
  have O_check_line : Ok l.prog w K mg base G0 3 "check_line" ["rules", "sent", "got", "age", "hops"] m_check_line := ⟨_, _, PySem.W.mg_of X G a_check_line, F_check_line.kp, b_check_line, d_check_line F_check_line T O_is_between⟩
  have O_last_told : Ok l.prog w K mg base G0 1 "last_told" ["rules", "sent", "got"] m_last_told := ⟨_, _, PySem.W.mg_of X G a_last_told, F_last_told.kp, b_last_told, d_last_told F_last_told T ⟩
  have O_window_of : Ok l.prog w K mg base G0 4 "window_of" ["rules", "sent", "got", "age", "hops"] m_window_of := ⟨_, _, PySem.W.mg_of X G a_window_of, F_window_of.kp, b_window_of, d_window_of F_window_of T O_check_line O_last_told⟩
  have O_story_of : Ok l.prog w K mg base G0 5 "story_of" ["rules", "sent", "got", "age", "hops", "moment"] m_story_of := ⟨_, _, PySem.W.mg_of X G a_story_of, F_story_of.kp, b_story_of, d_story_of F_story_of T O_is_integer O_window_of⟩
  have O_is_story : Ok l.prog w K mg base G0 5 "is_story" ["rules", "sent", "got", "age", "hops", "moment", "paper"] m_is_story := ⟨_, _, PySem.W.mg_of X G a_is_story, F_is_story.kp, b_is_story, d_is_story F_is_story T O_is_integer O_is_between O_last_told O_window_of⟩
  have O__law_pool : Ok l.prog w K mg base G0 1 "_law_pool" ["script"] m__law_pool := ⟨_, _, PySem.W.mg_of X G a__law_pool, F__law_pool.kp, b__law_pool, d__law_pool F__law_pool T ⟩
  have O__law_take : Ok l.prog w K mg base G0 1 "_law_take" ["pool", "many"] m__law_take := ⟨_, _, PySem.W.mg_of X G a__law_take, F__law_take.kp, b__law_take, d__law_take F__law_take T ⟩
  have O__law_wide : Ok l.prog w K mg base G0 2 "_law_wide" ["pool", "many"] m__law_wide := ⟨_, _, PySem.W.mg_of X G a__law_wide, F__law_wide.kp, b__law_wide, d__law_wide F__law_wide T O__law_take⟩
  have O__law_edge : Ok l.prog w K mg base G0 3 "_law_edge" ["pool", "most"] m__law_edge := ⟨_, _, PySem.W.mg_of X G a__law_edge, F__law_edge.kp, b__law_edge, d__law_edge F__law_edge T O__law_take O__law_wide⟩
  have O__law_formula : Ok l.prog w K mg base G0 1 "_law_formula" ["line"] m__law_formula := ⟨_, _, PySem.W.mg_of X G a__law_formula, F__law_formula.kp, b__law_formula, d__law_formula F__law_formula T ⟩
  have O__law_is_story : Ok l.prog w K mg base G0 1 "_law_is_story" ["line", "moment", "paper"] m__law_is_story := ⟨_, _, PySem.W.mg_of X G a__law_is_story, F__law_is_story.kp, b__law_is_story, d__law_is_story F__law_is_story T ⟩
  have O__law_amount : Ok l.prog w K mg base G0 3 "_law_amount" ["pool", "most"] m__law_amount := ⟨_, _, PySem.W.mg_of X G a__law_amount, F__law_amount.kp, b__law_amount, d__law_amount F__law_amount T O__law_take O__law_wide⟩
  have O__law_tale : Ok l.prog w K mg base G0 4 "_law_tale" ["pool"] m__law_tale := ⟨_, _, PySem.W.mg_of X G a__law_tale, F__law_tale.kp, b__law_tale, d__law_tale F__law_tale T O__law_take O__law_wide O__law_edge O__law_amount⟩
  have O__law_paper : Ok l.prog w K mg base G0 1 "_law_paper" ["tale"] m__law_paper := ⟨_, _, PySem.W.mg_of X G a__law_paper, F__law_paper.kp, b__law_paper, d__law_paper F__law_paper T ⟩
  have O__law_line : Ok l.prog w K mg base G0 2 "_law_line" ["tale"] m__law_line := ⟨_, _, PySem.W.mg_of X G a__law_line, F__law_line.kp, b__law_line, d__law_line F__law_line T O__law_paper⟩
  have O__law_bent : Ok l.prog w K mg base G0 2 "_law_bent" ["pool", "tale", "kind"] m__law_bent := ⟨_, _, PySem.W.mg_of X G a__law_bent, F__law_bent.kp, b__law_bent, d__law_bent F__law_bent T O__law_take⟩
  have O__law_case : Ok l.prog w K mg base G0 3 "_law_case" ["pool", "tale", "kind"] m__law_case := ⟨_, _, PySem.W.mg_of X G a__law_case, F__law_case.kp, b__law_case, d__law_case F__law_case T O__law_take O__law_paper O__law_line O__law_bent⟩
  have O__law_told_right : Ok l.prog w K mg base G0 6 "_law_told_right" ["line", "moment"] m__law_told_right := ⟨_, _, PySem.W.mg_of X G a__law_told_right, F__law_told_right.kp, b__law_told_right, d__law_told_right F__law_told_right T O_story_of O_is_story O__law_formula O__law_is_story⟩
  exact d_law (P := l.prog) (w := w) (base := base) F_law T O_is_story O__law_pool O__law_wide O__law_formula O__law_is_story O__law_tale O__law_line O__law_case O__law_told_right
end Lk26
open PySem PySem.W PyProof.Rows
set_option maxRecDepth 100000 in
set_option maxHeartbeats 0 in
theorem PySem.Challenge.cw_surely_k26_stories_fill_the_window_holds : PySem.Challenge.rw_surely_k26_stories_fill_the_window.Holds := by
  w_on; o_law; k_head; (case hw => w_witness2)
  k_fill
  refine Sm.walk_law (l := PySem.Challenge.rw_surely_k26_stories_fill_the_window) (f := Lk26.m_law) (G := Lk26.G0) (k := 7) rfl rfl (by exact ⟨rfl, by decide, by decide⟩) (fun w h Y => PySem.W.kIn_of Y) Lk26.main ?F
  case F =>
    intro w mg fa h KX G hmg
    refine' Lk26.all_mk KX G hmg ?a_is_integer ?l_is_integer ?c_is_integer ?k_is_integer ?a_is_between ?l_is_between ?c_is_between ?k_is_between ?a_check_line ?l_check_line ?c_check_line ?k_check_line ?a_last_told ?l_last_told ?c_last_told ?k_last_told ?a_window_of ?l_window_of ?c_window_of ?k_window_of ?a_story_of ?l_story_of ?c_story_of ?k_story_of ?a_is_story ?l_is_story ?c_is_story ?k_is_story ?a__law_pool ?l__law_pool ?c__law_pool ?k__law_pool ?a__law_take ?l__law_take ?c__law_take ?k__law_take ?a__law_wide ?l__law_wide ?c__law_wide ?k__law_wide ?a__law_edge ?l__law_edge ?c__law_edge ?k__law_edge ?a__law_formula ?l__law_formula ?c__law_formula ?k__law_formula ?a__law_is_story ?l__law_is_story ?c__law_is_story ?k__law_is_story ?a__law_amount ?l__law_amount ?c__law_amount ?k__law_amount ?a__law_tale ?l__law_tale ?c__law_tale ?k__law_tale ?a__law_paper ?l__law_paper ?c__law_paper ?k__law_paper ?a__law_line ?l__law_line ?c__law_line ?k__law_line ?a__law_bent ?l__law_bent ?c__law_bent ?k__law_bent ?a__law_case ?l__law_case ?c__law_case ?k__law_case ?a__law_told_right ?l__law_told_right ?c__law_told_right ?k__law_told_right ?a_law ?l_law ?c_law ?k_law ?z_abs ?z_all ?z_bool ?z_int ?z_isinstance ?z_len ?z_list ?z_max ?z_min ?z_range ?z_sum ?z_tuple ?g_MOST_DELAY ?g_MOST_MOMENT ?g_MOST_TRAIL ?g_MOST_TTL
    (case a_is_integer => k_is); (case l_is_integer => k_is); (case c_is_integer => k_is); (case k_is_integer => k_is); (case a_is_between => k_is); (case l_is_between => k_is); (case c_is_between => k_is); (case k_is_between => k_is); (case a_check_line => k_is); (case l_check_line => k_is); (case c_check_line => k_is); (case k_check_line => k_is); (case a_last_told => k_is); (case l_last_told => k_is); (case c_last_told => k_is); (case k_last_told => k_is); (case a_window_of => k_is); (case l_window_of => k_is); (case c_window_of => k_is); (case k_window_of => k_is); (case a_story_of => k_is); (case l_story_of => k_is); (case c_story_of => k_is); (case k_story_of => k_is); (case a_is_story => k_is); (case l_is_story => k_is); (case c_is_story => k_is); (case k_is_story => k_is); (case a__law_pool => k_is); (case l__law_pool => k_is); (case c__law_pool => k_is); (case k__law_pool => k_is); (case a__law_take => k_is); (case l__law_take => k_is); (case c__law_take => k_is); (case k__law_take => k_is); (case a__law_wide => k_is); (case l__law_wide => k_is); (case c__law_wide => k_is); (case k__law_wide => k_is); (case a__law_edge => k_is); (case l__law_edge => k_is); (case c__law_edge => k_is); (case k__law_edge => k_is); (case a__law_formula => k_is); (case l__law_formula => k_is); (case c__law_formula => k_is); (case k__law_formula => k_is); (case a__law_is_story => k_is); (case l__law_is_story => k_is); (case c__law_is_story => k_is); (case k__law_is_story => k_is); (case a__law_amount => k_is); (case l__law_amount => k_is); (case c__law_amount => k_is); (case k__law_amount => k_is); (case a__law_tale => k_is); (case l__law_tale => k_is); (case c__law_tale => k_is); (case k__law_tale => k_is); (case a__law_paper => k_is); (case l__law_paper => k_is); (case c__law_paper => k_is); (case k__law_paper => k_is); (case a__law_line => k_is); (case l__law_line => k_is); (case c__law_line => k_is); (case k__law_line => k_is); (case a__law_bent => k_is); (case l__law_bent => k_is); (case c__law_bent => k_is); (case k__law_bent => k_is); (case a__law_case => k_is); (case l__law_case => k_is); (case c__law_case => k_is); (case k__law_case => k_is); (case a__law_told_right => k_is); (case l__law_told_right => k_is); (case c__law_told_right => k_is); (case k__law_told_right => k_is); (case a_law => k_is); (case l_law => k_is); (case c_law => k_is); (case k_law => k_is); (case z_abs => k_is); (case z_all => k_is); (case z_bool => k_is); (case z_int => k_is); (case z_isinstance => k_is); (case z_len => k_is); (case z_list => k_is); (case z_max => k_is); (case z_min => k_is); (case z_range => k_is); (case z_sum => k_is); (case z_tuple => k_is); (case g_MOST_DELAY => k_is); (case g_MOST_MOMENT => k_is); (case g_MOST_TRAIL => k_is); (case g_MOST_TTL => k_is)
