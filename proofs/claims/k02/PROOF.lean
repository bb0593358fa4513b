import PyProof.Rows.All
import Wide.All
import OpenK.AllK
import Wide.FinOn
import HandS.ForMost
import HandS.ForExc
import HandS.CallSlots
import HandS.IsInst
import HandS.TupAny
import HandS.Style
import HandS.TupLe
import HandS.SortInts
import HandS.Conv
import HandS.TupLen
import HandS.Small
import HandS.More
import KE.KSortedM
import HandS.Comp
import HandS.Iter
import HandS.ExcInit
import HandS.Nested
import HandS.WordsExc
import KE.KExcSuper
import HandS.ExcField
import HandS.TryMany
import HandS.Text
import PyProof.StrBlock2
import PyProof.Rows.StrMul
import PySem.Challenge.RW_surely_k02_names_read_and_written
set_option Elab.async false
set_option linter.all false
set_option maxRecDepth 100000
set_option maxHeartbeats 4000000
/-! SmA: plain data, a plain heap, how both stand in the model's abstract heap; results; readings by a plain function. -/
namespace Sm
open PySem L2

/-! ### plain data -/
inductive D where
  | non | bl (b : Bool) | int (i : Int) | str (x : Str) | tup (ds : List D) | fls (ds : List D) | ref (n : Nat)
inductive O where
  | lst (xs : List D) | dK (kvs : List (Key × D)) | dT (kvs : List (List Key × D)) | ins (c : Nat) (fs : List (Option D)) | dead
abbrev Hh := List O
abbrev Ev := List (Option D)
/-- classes by number: where they stand, their attributes in order -/
structure Cl where
  at_ : Nat → Addr
  nm : Nat → List Str

/-- a tuple of the module's own top -/
def KT (K : PySem.W.Frag) (a : Addr) (xs : List V) : Prop := ∃ (o : Obj) (its : Array Value) (n : Nat), K.lookup a = some o ∧ o.cls = .type "tuple" ∧ o.data = .seq its n ∧ its.size ≤ sizeLine ∧ Vals xs its.toList
/-- a list that stands still: the script -/
def FL (K : PySem.W.Frag) (H : Hp) (a : Addr) (xs : List V) : Prop := (∃ o, H a = some (.frz o (.lst xs))) ∨
  ∃ (o : Obj) (its : Array Value) (n : Nat), K.lookup a = some o ∧ o.cls = .type "list" ∧ o.dict = none ∧ o.data = .seq its n ∧ its.size ≤ sizeLine ∧ Vals xs its.toList
theorem FL.sq {K : PySem.W.Frag} {H : Hp} {a : Addr} {xs : List V} (h : FL K H a xs) : SqL K H a xs := h.elim (fun ⟨o, e⟩ => .inl (.inr ⟨o, e⟩)) .inr
def D.isStr : D → Bool
  | .str _ => true
  | _ => false
/-- what such a tuple looks like: words, or ((), 0) -/
def isK : List D → Bool
  | [.str _] => true
  | [.tup [], .int _] => true
  | ds => decide (2 ≤ ds.length) && ds.all D.isStr
section
variable (K : PySem.W.Frag) (ρ : List Addr) (H : Hp)
mutual
inductive Rv : V → D → Prop where
  | non : Rv .non .non
  | bl (b : Bool) : Rv (.bl b) (.bl b)
  | int (i : Int) : Rv (.int i) (.int i)
  | str (x : Str) : Rv (.str x) (.str x)
  | tup {a : Addr} {vs : List V} {ds : List D} : H a = some (.tup vs) → Rvs vs ds → Rv (.ref a) (.tup ds)
  | ktp {a : Addr} {vs : List V} {ds : List D} : KT K a vs → isK ds = true → Rvs vs ds → Rv (.ref a) (.tup ds)
  | fls {a : Addr} {vs : List V} {ds : List D} : FL K H a vs → Rvs vs ds → Rv (.ref a) (.fls ds)
  | ref {n : Nat} {a : Addr} : ρ[n]? = some a → Rv (.ref a) (.ref n)
inductive Rvs : List V → List D → Prop where
  | nil : Rvs [] []
  | cons {v : V} {vs : List V} {d : D} {ds : List D} : Rv v d → Rvs vs ds → Rvs (v :: vs) (d :: ds)
end
end

/-- later: more addresses are known, tuples stand as they did -/
structure Ex (K : PySem.W.Frag) (ρ : List Addr) (H : Hp) (ρ' : List Addr) (H' : Hp) : Prop where
  pre : ∀ (n : Nat) (a : Addr), ρ[n]? = some a → ρ'[n]? = some a
  tup : ∀ a vs, H a = some (.tup vs) → H' a = some (.tup vs)
  frz : ∀ a o u, H a = some (.frz o u) → H' a = some (.frz o u)
  xds : ∀ a fs, H a = some (.xd fs) → H' a = some (.xd fs)
theorem Ex.refl {K : PySem.W.Frag} {ρ : List Addr} {H : Hp} : Ex K ρ H ρ H := ⟨fun _ _ h => h, fun _ _ h => h, fun _ _ _ h => h, fun _ _ h => h⟩
theorem Ex.trans {K : PySem.W.Frag} {ρ ρ1 ρ2 : List Addr} {H H1 H2 : Hp} (a : Ex K ρ H ρ1 H1) (b : Ex K ρ1 H1 ρ2 H2) : Ex K ρ H ρ2 H2 :=
  ⟨fun n x h => b.pre n x (a.pre n x h), fun x vs h => b.tup x vs (a.tup x vs h), fun x o u h => b.frz x o u (a.frz x o u h), fun x fs h => b.xds x fs (a.xds x fs h)⟩

section
variable {K : PySem.W.Frag} {ρ ρ' : List Addr} {H H' : Hp}
mutual
theorem Rv.mono (e : Ex K ρ H ρ' H') : ∀ {v : V} {d : D}, Rv K ρ H v d → Rv K ρ' H' v d
  | _, _, .non => .non
  | _, _, .bl b => .bl b
  | _, _, .int i => .int i
  | _, _, .str x => .str x
  | _, _, .tup h r => .tup (e.tup _ _ h) (Rvs.mono e r)
  | _, _, .ktp h q r => .ktp h q (Rvs.mono e r)
  | _, _, .fls h r => .fls (h.imp (fun ⟨o, z⟩ => ⟨o, e.frz _ _ _ z⟩) id) (Rvs.mono e r)
  | _, _, .ref h => .ref (e.pre _ _ h)
theorem Rvs.mono (e : Ex K ρ H ρ' H') : ∀ {vs : List V} {ds : List D}, Rvs K ρ H vs ds → Rvs K ρ' H' vs ds
  | _, _, .nil => .nil
  | _, _, .cons h r => .cons (Rv.mono e h) (Rvs.mono e r)
end
theorem Rv.sqT {v : V} {ds : List D} (r : Rv K ρ H v (.tup ds)) : ∃ a vs, v = .ref a ∧ SqT K H a vs ∧ Rvs K ρ H vs ds := by
  cases r with
  | tup h r => exact ⟨_, _, rfl, SqT.of h, r⟩
  | ktp h _ r => exact ⟨_, _, rfl, .inr h, r⟩
theorem Rvs.length : ∀ {vs : List V} {ds : List D}, Rvs K ρ H vs ds → vs.length = ds.length
  | _, _, .nil => rfl
  | _, _, .cons _ r => by rw [List.length_cons, List.length_cons, Rvs.length r]
theorem Rvs.get : ∀ {vs : List V} {ds : List D} {i : Nat} {d : D}, Rvs K ρ H vs ds → ds[i]? = some d → ∃ v, vs[i]? = some v ∧ Rv K ρ H v d
  | _, _, _, _, .nil, e => by simp at e
  | _, _, 0, _, .cons h r, e => by simp at e; subst e; exact ⟨_, rfl, h⟩
  | _, _, i + 1, _, .cons h r, e => by
    obtain ⟨v, h1, h2⟩ := Rvs.get (i := i) r (by simpa using e)
    exact ⟨v, by simpa using h1, h2⟩
theorem Rvs.getV : ∀ {vs : List V} {ds : List D} {i : Nat} {v : V}, Rvs K ρ H vs ds → vs[i]? = some v → ∃ d, ds[i]? = some d ∧ Rv K ρ H v d
  | _, _, _, _, .nil, e => by simp at e
  | _, _, 0, _, .cons h r, e => by simp at e; subst e; exact ⟨_, rfl, h⟩
  | _, _, i + 1, _, .cons h r, e => by
    obtain ⟨v, h1, h2⟩ := Rvs.getV (i := i) r (by simpa using e)
    exact ⟨v, by simpa using h1, h2⟩
theorem Rvs.append : ∀ {vs ws : List V} {ds es : List D}, Rvs K ρ H vs ds → Rvs K ρ H ws es → Rvs K ρ H (vs ++ ws) (ds ++ es)
  | _, _, _, _, .nil, s => s
  | _, _, _, _, .cons h r, s => .cons h (Rvs.append r s)
theorem Rvs.set {v : V} {d : D} (h : Rv K ρ H v d) : ∀ {vs : List V} {ds : List D} (i : Nat), Rvs K ρ H vs ds → Rvs K ρ H (vs.set i v) (ds.set i d)
  | _, _, _, .nil => .nil
  | _, _, 0, .cons _ r => .cons h r
  | _, _, i + 1, .cons q r => .cons q (Rvs.set h i r)
theorem Rvs.take : ∀ {vs : List V} {ds : List D} (n : Nat), Rvs K ρ H vs ds → Rvs K ρ H (vs.take n) (ds.take n)
  | _, _, 0, _ => .nil
  | _, _, _ + 1, .nil => .nil
  | _, _, n + 1, .cons h r => .cons h (Rvs.take n r)
theorem Rvs.drop : ∀ {vs : List V} {ds : List D} (n : Nat), Rvs K ρ H vs ds → Rvs K ρ H (vs.drop n) (ds.drop n)
  | _, _, 0, r => r
  | _, _, _ + 1, .nil => .nil
  | _, _, n + 1, .cons _ r => Rvs.drop n r
theorem Rvs.reverse {vs : List V} {ds : List D} (h : Rvs K ρ H vs ds) : Rvs K ρ H vs.reverse ds.reverse := by
  induction vs generalizing ds with
  | nil => cases h; exact .nil
  | cons v vs ih =>
    cases h with
    | cons h r =>
      rw [List.reverse_cons, List.reverse_cons]
      exact (ih r).append (.cons h .nil)
theorem Rvs.dropLast {vs : List V} {ds : List D} (h : Rvs K ρ H vs ds) : Rvs K ρ H vs.dropLast ds.dropLast := by
  rw [List.dropLast_eq_take, List.dropLast_eq_take, h.length]
  exact h.take _
theorem Rvs.ints : ∀ {vs : List V} {ns : List Int}, Rvs K ρ H vs (ns.map D.int) → vs = ns.map V.int
  | _, [], h => by cases h; rfl
  | _, n :: ns, h => by
    cases h with
    | cons h r =>
      cases h
      rw [Rvs.ints r]
      rfl
theorem Rvs.of_ints : ∀ ns : List Int, Rvs K ρ H (ns.map V.int) (ns.map D.int)
  | [] => .nil
  | n :: ns => .cons (.int n) (Rvs.of_ints ns)
end

/-! ### the plain heap in the abstract one -/
section
variable (K : PySem.W.Frag) (G : Cl) (ρ : List Addr) (H : Hp)
def RoF : Option V → Option D → Prop
  | some v, some d => Rv K ρ H v d
  | none, none => True
  | _, _ => False
inductive Ro (a : Addr) : O → Prop where
  | lst {vs : List V} {ds : List D} : H a = some (.lst vs) → Rvs K ρ H vs ds → Ro a (.lst ds)
  | dK {kvs : List (Key × V)} {ds : List (Key × D)} : H a = some (.dK kvs) → Paired (fun (p : Key × V) (q : Key × D) => p.1 = q.1 ∧ Rv K ρ H p.2 q.2) kvs ds → Ro a (.dK ds)
  | dT {kvs : List (List Key × V)} {ds : List (List Key × D)} : H a = some (.dT kvs) → Paired (fun (p : List Key × V) (q : List Key × D) => p.1 = q.1 ∧ Rv K ρ H p.2 q.2) kvs ds → Ro a (.dT ds)
  | ins {c : Nat} {dx : Addr} {fs : List (Str × V)} {ds : List (Option D)} : H a = some (.ins (G.at_ c) dx fs) → ds.length = (G.nm c).length → (∀ (i : Nat) (f : Str), (G.nm c)[i]? = some f → RoF K ρ H (fs.lookup f) (ds[i]?.join)) →
      (∀ f, f ∉ G.nm c → fs.lookup f = none) → fs.length ≤ ds.length → Ro a (.ins c ds)
  | dead {u : HO} : H a = some u → Ro a .dead
structure Rh (h : Hh) : Prop where
  len : ρ.length = h.length
  inj : ∀ (i j : Nat) (a : Addr), ρ[i]? = some a → ρ[j]? = some a → i = j
  obj : ∀ (n : Nat) (o : O), h[n]? = some o → ∃ a : Addr, ρ[n]? = some a ∧ Ro K G ρ H a o
structure Re (σ : L2.St) (env : Ev) : Prop where
  len : σ.length = env.length
  get : ∀ (i : Nat) (d : D), env[i]? = some (some d) → ∃ v : V, σ[i]? = some (some v) ∧ Rv K ρ H v d
/-- an exception's dict -/
def Rx (d : Option Addr) (c : Nat) (fs : List D) : Prop := ∃ (x : Addr) (vfs : List (Str × V)), d = some x ∧ H x = some (.xd vfs) ∧ fs.length = (G.nm c).length ∧ ∀ (i : Nat) (f : Str), (G.nm c)[i]? = some f → ∃ (v : V) (y : D), vfs.lookup f = some v ∧ fs[i]? = some y ∧ Rv K ρ H v y
end

section
variable {K : PySem.W.Frag} {G : Cl} {ρ ρ' : List Addr} {H H' : Hp} {h h' : Hh} {a : Addr} {o : O} {σ : L2.St} {env : Ev}
theorem Rx.mono (e : Ex K ρ H ρ' H') {d : Option Addr} {c : Nat} {fs : List D} (r : Rx K G ρ H d c fs) : Rx K G ρ' H' d c fs := by
  obtain ⟨x, vfs, h1, h2, h3, h4⟩ := r
  exact ⟨x, vfs, h1, e.xds _ _ h2, h3, fun i f hf => by
    obtain ⟨v, y, k1, k2, k3⟩ := h4 i f hf
    exact ⟨v, y, k1, k2, k3.mono e⟩⟩
theorem RoF.mono (e : Ex K ρ H ρ' H') {v : Option V} {d : Option D} (r : RoF K ρ H v d) : RoF K ρ' H' v d := by
  cases v with
  | none => cases d with | none => trivial | some d => exact r.elim
  | some v => cases d with | none => exact r.elim | some d => exact Rv.mono e r
theorem Ro.mono (e : Ex K ρ H ρ' H') (ha : H' a = H a) (r : Ro K G ρ H a o) : Ro K G ρ' H' a o := by
  cases r with
  | lst q r => exact .lst (ha.trans q) (r.mono e)
  | dK q r => exact .dK (ha.trans q) (Paired.mapP r fun _ _ z => ⟨z.1, z.2.mono e⟩)
  | dT q r => exact .dT (ha.trans q) (Paired.mapP r fun _ _ z => ⟨z.1, z.2.mono e⟩)
  | ins q l r n z => exact .ins (ha.trans q) l (fun i f hf => (r i f hf).mono e) n z
  | dead q => exact .dead (ha.trans q)
theorem Ro.there (r : Ro K G ρ H a o) : ∃ u, H a = some u ∧ (o ≠ .dead → (∀ xs, u ≠ .tup xs) ∧ (∀ ob w, u ≠ .frz ob w) ∧ (∀ fs, u ≠ .xd fs)) := by
  cases r with
  | lst q _ => exact ⟨_, q, fun _ => ⟨(fun xs z => by cases z), (fun ob xs z => by cases z), (fun fs z => by cases z)⟩⟩
  | dK q _ => exact ⟨_, q, fun _ => ⟨(fun xs z => by cases z), (fun ob xs z => by cases z), (fun fs z => by cases z)⟩⟩
  | dT q _ => exact ⟨_, q, fun _ => ⟨(fun xs z => by cases z), (fun ob xs z => by cases z), (fun fs z => by cases z)⟩⟩
  | ins q _ _ _ _ => exact ⟨_, q, fun _ => ⟨(fun xs z => by cases z), (fun ob xs z => by cases z), (fun fs z => by cases z)⟩⟩
  | dead q => exact ⟨_, q, fun z => absurd rfl z⟩
theorem Re.mono (e : Ex K ρ H ρ' H') (r : Re K ρ H σ env) : Re K ρ' H' σ env := ⟨r.len, fun i d h => by
  obtain ⟨v, h1, h2⟩ := r.get i d h
  exact ⟨v, h1, h2.mono e⟩⟩
theorem Re.set (r : Re K ρ H σ env) {v : V} {d : D} (q : Rv K ρ H v d) (i : Nat) : Re K ρ H (σ.set i (some v)) (env.set i (some d)) := ⟨by rw [List.length_set, List.length_set, r.len], fun j x h => by
  by_cases e : i = j
  · subst e
    by_cases l : i < env.length
    · rw [List.getElem?_set_self l] at h
      cases h
      exact ⟨v, List.getElem?_set_self (by rw [r.len]; exact l), q⟩
    · rw [List.getElem?_eq_none (by rw [List.length_set]; omega)] at h
      cases h
  · rw [List.getElem?_set_ne e] at h ⊢
    exact r.get j x h⟩
theorem tup_upd {p : Addr} {u : HO} (n : ∀ vs, H p ≠ some (.tup vs)) {a : Addr} {vs : List V} (h : H a = some (.tup vs)) : upd H p u a = some (.tup vs) := by
  rw [upd_ne (fun z => by rw [z] at h; exact n _ h)]
  exact h
theorem frz_upd {p : Addr} {u : HO} (n : ∀ o w, H p ≠ some (.frz o w)) {a : Addr} {o : Obj} {w : HO} (h : H a = some (.frz o w)) : upd H p u a = some (.frz o w) := by
  rw [upd_ne (fun z => by rw [z] at h; exact n _ _ h)]
  exact h
theorem xd_upd {p : Addr} {u : HO} (n : ∀ fs, H p ≠ some (.xd fs)) {a : Addr} {fs : List (Str × V)} (h : H a = some (.xd fs)) : upd H p u a = some (.xd fs) := by
  rw [upd_ne (fun z => by rw [z] at h; exact n _ h)]
  exact h
theorem Ex.fresh {p : Addr} {u : HO} (n : H p = none) : Ex K ρ H ρ (upd H p u) := ⟨fun _ _ h => h, fun a vs h => tup_upd (fun vs z => by rw [n] at z; cases z) h, fun a o w h => frz_upd (fun o w z => by rw [n] at z; cases z) h, fun a fs h => xd_upd (fun fs z => by rw [n] at z; cases z) h⟩
/-- a further object, not of the plain heap -/
theorem Rh.aux {p : Addr} {u : HO} (r : Rh K G ρ H h) (n : H p = none) : Rh K G ρ (upd H p u) h := ⟨r.len, r.inj, fun m o q => by
  obtain ⟨a, h1, h2⟩ := r.obj m o q
  obtain ⟨w, hw, _⟩ := h2.there
  exact ⟨a, h1, h2.mono (Ex.fresh n) (upd_ne (ne_of_none hw n))⟩⟩
theorem get_push {α : Type} {l : List α} {x y : α} {n : Nat} (e : (l ++ [x])[n]? = some y) : (n < l.length ∧ l[n]? = some y) ∨ (n = l.length ∧ x = y) := by
  by_cases q : n < l.length
  · rw [List.getElem?_append_left q] at e
    exact .inl ⟨q, e⟩
  · rw [List.getElem?_append_right (by omega)] at e
    by_cases q2 : n = l.length
    · subst q2
      simp at e
      exact .inr ⟨rfl, e⟩
    · rw [List.getElem?_eq_none (by simp; omega)] at e
      cases e
theorem get_push_lt {α : Type} {l : List α} {x y : α} {n : Nat} (e : l[n]? = some y) : (l ++ [x])[n]? = some y := by
  have q : n < l.length := (List.getElem?_eq_some_iff.mp e).1
  rw [List.getElem?_append_left q]
  exact e
theorem get_push_eq {α : Type} {l : List α} {x : α} : (l ++ [x])[l.length]? = some x := by simp
theorem Ex.push {p : Addr} {u : HO} (n : H p = none) : Ex K ρ H (ρ ++ [p]) (upd H p u) := ⟨fun m a e => get_push_lt e, (Ex.fresh (K := K) (ρ := ρ) n).tup, (Ex.fresh (K := K) (ρ := ρ) n).frz, (Ex.fresh (K := K) (ρ := ρ) n).xds⟩
/-- a new object of the plain heap -/
theorem Rh.new {p : Addr} {u : HO} (r : Rh K G ρ H h) (n : H p = none) (ro : Ro K G (ρ ++ [p]) (upd H p u) p o) : Rh K G (ρ ++ [p]) (upd H p u) (h ++ [o]) := by
  have far : ∀ (m : Nat), ρ[m]? ≠ some p := fun m z => by
    have hm : m < h.length := by rw [← r.len]; exact (List.getElem?_eq_some_iff.mp z).1
    obtain ⟨a, h1, h2⟩ := r.obj m h[m] (by simp [hm])
    rw [z] at h1
    cases h1
    obtain ⟨w, hw, _⟩ := h2.there
    rw [n] at hw
    cases hw
  refine ⟨by rw [List.length_append, List.length_append, r.len]; rfl, fun i j a h1 h2 => ?_, fun m o' q => ?_⟩
  · rcases get_push h1 with ⟨l1, e1⟩ | ⟨l1, e1⟩
    · rcases get_push h2 with ⟨l2, e2⟩ | ⟨l2, e2⟩
      · exact r.inj i j a e1 e2
      · subst e2
        exact absurd e1 (far i)
    · rcases get_push h2 with ⟨l2, e2⟩ | ⟨l2, e2⟩
      · subst e1
        exact absurd e2 (far j)
      · rw [l1, l2]
  · rcases get_push q with ⟨l1, e1⟩ | ⟨l1, e1⟩
    · obtain ⟨a, h1, h2⟩ := r.obj m o' e1
      obtain ⟨w, hw, _⟩ := h2.there
      exact ⟨a, get_push_lt h1, h2.mono (Ex.push n) (upd_ne (ne_of_none hw n))⟩
    · subst e1
      refine ⟨p, ?_, ro⟩
      rw [l1, ← r.len]
      exact get_push_eq
/-- an object of the plain heap is changed -/
theorem Ex.write {n : Nat} {u : HO} (r : Rh K G ρ H h) (ha : ρ[n]? = some a) (ho : h[n]? = some o) (hd : o ≠ .dead := by nofun) : Ex K ρ H ρ (upd H a u) := by
  obtain ⟨a', h1, h2⟩ := r.obj n o ho
  rw [ha] at h1
  cases h1
  obtain ⟨w, hw, t⟩ := h2.there
  obtain ⟨t1, t2, t3⟩ := t hd
  refine ⟨fun _ _ h => h, fun b vs h => tup_upd (fun vs z => ?_) h, fun b o w h => frz_upd (fun o w z => ?_) h, fun b fs h => xd_upd (fun fs z => ?_) h⟩
  · rw [hw] at z
    exact t1 vs (Option.some.inj z)
  · rw [hw] at z
    exact t2 o w (Option.some.inj z)
  · rw [hw] at z
    exact t3 fs (Option.some.inj z)
theorem Rh.write {n : Nat} {u : HO} {o' : O} (r : Rh K G ρ H h) (ha : ρ[n]? = some a) (ho : h[n]? = some o) (ro : Ro K G ρ (upd H a u) a o') (hd : o ≠ .dead := by nofun) : Rh K G ρ (upd H a u) (h.set n o') := by
  refine ⟨by rw [List.length_set]; exact r.len, r.inj, fun m o2 q => ?_⟩
  have hn : n < h.length := (List.getElem?_eq_some_iff.mp ho).1
  by_cases e : n = m
  · subst e
    rw [List.getElem?_set_self hn] at q
    cases q
    exact ⟨a, ha, ro⟩
  · rw [List.getElem?_set_ne e] at q
    obtain ⟨b, h1, h2⟩ := r.obj m o2 q
    refine ⟨b, h1, h2.mono (Ex.write r ha ho hd) (upd_ne fun z => ?_)⟩
    rw [z] at h1
    exact e (r.inj n m a ha h1)
theorem Rh.at_ {n : Nat} (r : Rh K G ρ H h) (ha : ρ[n]? = some a) (ho : h[n]? = some o) : Ro K G ρ H a o := by
  obtain ⟨b, h1, h2⟩ := r.obj n o ho
  rw [ha] at h1
  cases h1
  exact h2
end

/-! ### results -/
inductive R (α : Type) where
  | ok (a : α) (h : Hh) | exc (c : Nat) (fs : List D) (h : Hh) | bad
def R.bind {α β : Type} (r : R α) (f : α → Hh → R β) : R β := match r with
  | .ok a h => f a h
  | .exc c fs h => .exc c fs h
  | .bad => .bad
@[simp] theorem R.bind_ok {α β : Type} (a : α) (h : Hh) (f : α → Hh → R β) : (R.ok a h).bind f = f a h := rfl
@[simp] theorem R.bind_exc {α β : Type} (c : Nat) (fs : List D) (h : Hh) (f : α → Hh → R β) : (R.exc c fs h : R α).bind f = .exc c fs h := rfl
@[simp] theorem R.bind_bad {α β : Type} (f : α → Hh → R β) : (R.bad : R α).bind f = .bad := rfl
/-- of an option -/
def R.opt {α : Type} : Option (α × Hh) → R α
  | some (a, h) => .ok a h
  | none => .bad
@[simp] theorem R.opt_some {α : Type} (a : α) (h : Hh) : R.opt (some (a, h)) = .ok a h := rfl
@[simp] theorem R.opt_none {α : Type} : R.opt (none : Option (α × Hh)) = .bad := rfl

section
variable (K : PySem.W.Frag) (G : Cl)
/-- what a result promises -/
def Po {α β : Type} (rel : List Addr → Hp → β → α → Prop) (W : WX) (ρ : List Addr) (H : Hp) (σ : L2.St) (r : R α) (Q : β → Hp → Prop) : Prop := match r with
  | .ok d h' => ∀ ρ' H' v, Ex K ρ H ρ' H' → Rh K G ρ' H' h' → rel ρ' H' v d → Q v H'
  | .exc c fs h' => ∀ ρ' H' d, Ex K ρ H ρ' H' → Rh K G ρ' H' h' → Rx K G ρ' H' d c fs → W (.ref (G.at_ c)) d σ H'
  | .bad => False
def tG {α β : Type} (rel : List Addr → Hp → β → α → Prop) (W : WX) (m : Ev → Hh → R α) : L2.St → Hp → (β → Hp → Prop) → Prop := fun σ H Q =>
  ∃ ρ h env, Rh K G ρ H h ∧ Re K ρ H σ env ∧ Po K G rel W ρ H σ (m env h) Q
abbrev relV : List Addr → Hp → V → D → Prop := fun ρ H => Rv K ρ H
abbrev relVs : List Addr → Hp → List V → List D → Prop := fun ρ H => Rvs K ρ H
abbrev relB : List Addr → Hp → Bool → Bool → Prop := fun _ _ b c => b = c
abbrev tM (W : WX) (m : Ev → Hh → R D) : TE := tG K G (relV K) W m
abbrev tL (W : WX) (m : Ev → Hh → R (List D)) : TA := tG K G (relVs K) W m
abbrev tT (W : WX) (m : Ev → Hh → R Bool) : TT := tG K G relB W m
end
section
variable {K : PySem.W.Frag} {G : Cl} {α β γ δ : Type} {rel : List Addr → Hp → β → α → Prop} {rel2 : List Addr → Hp → δ → γ → Prop} {W : WX} {ρ ρ1 : List Addr} {H H1 : Hp} {σ : L2.St} {Q : β → Hp → Prop} {h : Hh} {env : Ev}
theorem Po.shift {r : R α} (p : Po K G rel W ρ H σ r Q) (e : Ex K ρ H ρ1 H1) : Po K G rel W ρ1 H1 σ r Q := by
  cases r with
  | ok d h' => exact fun ρ' H' v e' => p ρ' H' v (e.trans e')
  | exc c fs h' => exact fun ρ' H' d e' => p ρ' H' d (e.trans e')
  | bad => exact p
theorem Po.imp {Q' : β → Hp → Prop} {r : R α} (p : Po K G rel W ρ H σ r Q) (hq : ∀ v H, Q v H → Q' v H) : Po K G rel W ρ H σ r Q' := by
  cases r with
  | ok d h' => exact fun ρ' H' v e a b => hq _ _ (p ρ' H' v e a b)
  | exc c fs h' => exact p
  | bad => exact p
/-- where one stands behind a first step -/
def Thn (K : PySem.W.Frag) (G : Cl) (rel : List Addr → Hp → β → α → Prop) (rel2 : List Addr → Hp → δ → γ → Prop) (W : WX) (σ : L2.St) (env : Ev) (f : α → Hh → R γ) (Q : δ → Hp → Prop) (ρ : List Addr) (H : Hp) (v : β) (H1 : Hp) : Prop :=
  ∃ ρ1 h1 d, Ex K ρ H ρ1 H1 ∧ Rh K G ρ1 H1 h1 ∧ Re K ρ1 H1 σ env ∧ rel ρ1 H1 v d ∧ Po K G rel2 W ρ1 H1 σ (f d h1) Q
theorem Po.bind {r : R α} {f : α → Hh → R γ} {Q : δ → Hp → Prop} (he : Re K ρ H σ env) (p : Po K G rel2 W ρ H σ (r.bind f) Q) : Po K G rel W ρ H σ r (Thn K G rel rel2 W σ env f Q ρ H) := by
  cases r with
  | ok d h' => exact fun ρ' H' v e a b => ⟨ρ', h', d, e, a, he.mono e, b, Po.shift p e⟩
  | exc c fs h' => exact p
  | bad => exact p
theorem tG_bind {m : Ev → Hh → R α} {f : α → Hh → R γ} {Q : δ → Hp → Prop} (hr : Rh K G ρ H h) (he : Re K ρ H σ env) (p : Po K G rel2 W ρ H σ ((m env h).bind f) Q) : tG K G rel W m σ H (Thn K G rel rel2 W σ env f Q ρ H) :=
  ⟨ρ, h, env, hr, he, Po.bind he p⟩
end
/-! a reading may be replaced by a stronger one -/
theorem peImp {X : Cx} {e : Expr} {t t' : TE} (h : PE X e t) (i : ∀ σ H Q, t' σ H Q → t σ H Q) : PE X e t' := ⟨fun pins s σ H Q I q => h.run pins s σ H Q I (i σ H Q q)⟩
theorem ptImp {X : Cx} {e : Expr} {t t' : TT} (h : PT X e t) (i : ∀ σ H Q, t' σ H Q → t σ H Q) : PT X e t' := ⟨fun pins s σ H Q I q => h.run pins s σ H Q I (i σ H Q q)⟩
theorem pwImp {X : Cx} {e : Expr} {t t' : TT} (h : PW X e t) (i : ∀ σ H Q, t' σ H Q → t σ H Q) : PW X e t' := ⟨fun wh pins s σ H Q I q => h.run wh pins s σ H Q I (i σ H Q q)⟩
theorem paImp {X : Cx} {e : List Expr} {t t' : TA} (h : PA X e t) (i : ∀ σ H Q, t' σ H Q → t σ H Q) : PA X e t' := ⟨fun pos pins s σ H Q I q => h.run pos pins s σ H Q I (i σ H Q q)⟩
theorem psImp {X : Cx} {e : Stmt} {t t' : TS} (h : PS X e t) (i : ∀ D σ H, t' D σ H → t D σ H) : PS X e t' := ⟨fun pins s σ H D I q => h.run pins s σ H D I (i D σ H q)⟩
theorem pssImp {X : Cx} {e : List Stmt} {t t' : TS} (h : PSs X e t) (i : ∀ D σ H, t' D σ H → t D σ H) : PSs X e t' := ⟨fun pins s σ H D I q => h.run pins s σ H D I (i D σ H q)⟩
end Sm
/-! SmB: expressions. -/
namespace Sm
open PySem L2 PyProof.Rows

abbrev M := Ev → Hh → R D
section
variable {K : PySem.W.Frag} {G : Cl} {α β γ δ : Type} {rel : List Addr → Hp → β → α → Prop} {W : WX} {ρ ρ1 : List Addr} {H H1 : Hp} {σ : L2.St} {h : Hh} {env : Ev}
theorem tG_mono {m : Ev → Hh → R α} {Q Q' : β → Hp → Prop} (t : tG K G rel W m σ H Q) (hq : ∀ v H, Q v H → Q' v H) : tG K G rel W m σ H Q' := by
  obtain ⟨ρ, h, env, hr, he, p⟩ := t
  exact ⟨ρ, h, env, hr, he, p.imp hq⟩
theorem Po.ok {d : α} {Q : β → Hp → Prop} {v : β} (p : Po K G rel W ρ H σ (.ok d h) Q) (hr : Rh K G ρ H h) (r : rel ρ H v d) : Q v H := p ρ H v Ex.refl hr r
/-- an option's promise, once it is known -/
theorem Po.opt {o : Option (α × Hh)} {Q : β → Hp → Prop} (p : Po K G rel W ρ H σ (R.opt o) Q) : ∃ d h', o = some (d, h') ∧ ∀ ρ' H' v, Ex K ρ H ρ' H' → Rh K G ρ' H' h' → rel ρ' H' v d → Q v H' := by
  cases o with
  | none => exact p.elim
  | some q => exact ⟨q.1, q.2, rfl, p⟩
/-- the frame: known to be known -/
theorem tG_intro {m : Ev → Hh → R α} {Q : β → Hp → Prop} (hr : Rh K G ρ H h) (he : Re K ρ H σ env) (p : Po K G rel W ρ H σ (m env h) Q) : tG K G rel W m σ H Q := ⟨ρ, h, env, hr, he, p⟩
end

/-! ### names, constants -/
def eV (i : Nat) : M := fun env h => match env[i]? with
  | some (some d) => .ok d h
  | _ => .bad
def eC (d : D) : M := fun _ h => .ok d h
section
variable {X : Cx} {G : Cl} {W : WX} {e a b c : Expr} {es : List Expr} {pos : Pos}
theorem se_varP {i : Nat} (hp : PE X e (tVar i)) : PE X e (tM X.K G W (eV i)) := peImp hp fun σ H Q t => by
  obtain ⟨ρ, h, env, hr, he, p⟩ := t
  unfold eV at p
  cases q : env[i]? with
  | none => rw [q] at p; exact p.elim
  | some o =>
    cases o with
    | none => rw [q] at p; exact p.elim
    | some d =>
      rw [q] at p
      obtain ⟨v, h1, h2⟩ := he.get i d q
      exact ⟨v, h1, p.ok hr h2⟩
theorem se_var (i : Nat) {x : Str} (hN : X.N[i]? = some x := by rfl) (hv : Vis X.env.scope x := by first | exact Or.inl rfl | exact Or.inr (Or.inl rfl) | exact Or.inr (Or.inr rfl)) (hd : (x == ("__debug__" : Str)) = false := by decide)
    (hcd : (x == ("__classdict__" : Str)) = false := by decide) : PE X (.Name x pos) (tM X.K G W (eV i)) := se_varP (pe_var hN hv hd hcd)
theorem se_c {v : V} {d : D} (hp : PE X e (tC v)) (r : ∀ ρ H, Rv X.K ρ H v d) : PE X e (tM X.K G W (eC d)) := peImp hp fun σ H Q t => by
  obtain ⟨ρ, h, env, hr, he, p⟩ := t
  exact p.ok hr (r ρ H)
theorem se_int {i : Int} {j} : PE X (.Constant (.int i) j pos) (tM X.K G W (eC (.int i))) := se_c pe_int fun _ _ => .int i
theorem se_bl {b : Bool} {j} : PE X (.Constant (.bool b) j pos) (tM X.K G W (eC (.bl b))) := se_c pe_bl fun _ _ => .bl b
theorem se_non {j} : PE X (.Constant .none j pos) (tM X.K G W (eC .non)) := se_c pe_non fun _ _ => .non
theorem se_str {x : Str} {j} : PE X (.Constant (.str x) j pos) (tM X.K G W (eC (.str x))) := se_c pe_str fun _ _ => .str x
/-- a module's constant -/
theorem se_globI {x : Str} {i : Int} {u : Tok} (hg : Gl X x) (hm : X.mg x = some (.int i u)) (hd : (x == ("__debug__" : Str)) = false := by decide) : PE X (.Name x pos) (tM X.K G W (eC (.int i))) :=
  se_c (v := .int i) (pe_glob hg hm ⟨u, rfl⟩ hd) fun _ _ => .int i
theorem se_globS {x y : Str} {u : Tok} (hg : Gl X x) (hm : X.mg x = some (.str y u)) (hd : (x == ("__debug__" : Str)) = false := by decide) : PE X (.Name x pos) (tM X.K G W (eC (.str y))) :=
  se_c (v := .str y) (pe_glob hg hm ⟨u, rfl⟩ hd) fun _ _ => .str y
end

/-! ### one, two operands -/
def eU (f : D → Hh → Option (D × Hh)) (ma : M) : M := fun env h => (ma env h).bind fun x h1 => R.opt (f x h1)
def eB (f : D → D → Hh → Option (D × Hh)) (ma mb : M) : M := fun env h => (ma env h).bind fun x h1 => (mb env h1).bind fun y h2 => R.opt (f x y h2)
def Imp1 (K : PySem.W.Frag) (G : Cl) (r : V → Hp → VK → Prop) (f : D → Hh → Option (D × Hh)) : Prop := ∀ {ρ : List Addr} {H : Hp} {h : Hh} {x : V} {dx d : D} {h' : Hh} {Q : VK}, Rh K G ρ H h → Rv K ρ H x dx → f dx h = some (d, h') →
  (∀ ρ' H' v, Ex K ρ H ρ' H' → Rh K G ρ' H' h' → Rv K ρ' H' v d → Q v H') → r x H Q
def Imp2 (K : PySem.W.Frag) (G : Cl) (r : R2) (f : D → D → Hh → Option (D × Hh)) : Prop := ∀ {ρ : List Addr} {H : Hp} {h : Hh} {x y : V} {dx dy d : D} {h' : Hh} {Q : VK}, Rh K G ρ H h → Rv K ρ H x dx → Rv K ρ H y dy → f dx dy h = some (d, h') →
  (∀ ρ' H' v, Ex K ρ H ρ' H' → Rh K G ρ' H' h' → Rv K ρ' H' v d → Q v H') → r x y H Q
section
variable {X : Cx} {G : Cl} {W : WX} {e a b c : Expr} {es : List Expr} {pos : Pos} {ma mb : M}
theorem un_imp {r : V → Hp → VK → Prop} {f : D → Hh → Option (D × Hh)} (i : Imp1 X.K G r f) (σ : L2.St) (H : Hp) (Q : VK) (t : tM X.K G W (eU f ma) σ H Q) : tUn r (tM X.K G W ma) σ H Q := by
  obtain ⟨ρ, h, env, hr, he, p⟩ := t
  refine tG_mono (tG_bind (rel := relV X.K) hr he p) fun x H1 ⟨ρ1, h1, d, e1, hr1, he1, r1, p1⟩ => ?_
  obtain ⟨d2, h2, eq, k⟩ := p1.opt
  exact i hr1 r1 eq k
theorem bin_imp {r : R2} {f : D → D → Hh → Option (D × Hh)} (i : Imp2 X.K G r f) (σ : L2.St) (H : Hp) (Q : VK) (t : tM X.K G W (eB f ma mb) σ H Q) : tOp r (tM X.K G W ma) (tM X.K G W mb) σ H Q := by
  obtain ⟨ρ, h, env, hr, he, p⟩ := t
  refine tG_mono (tG_bind (rel := relV X.K) hr he p) fun x H1 ⟨ρ1, h1, d, e1, hr1, he1, r1, p1⟩ => ?_
  refine tG_mono (tG_bind (rel := relV X.K) hr1 he1 p1) fun y H2 ⟨ρ2, h2, d2, e2, hr2, he2, r2, p2⟩ => ?_
  obtain ⟨d3, h3, eq, k⟩ := p2.opt
  exact i hr2 (r1.mono e2) r2 eq k
theorem se_bin {op : Operator} {r : R2} {f : D → D → Hh → Option (D × Hh)} (ho : OpR X (binaryOp op) r) (i : Imp2 X.K G r f) (ha : PE X a (tM X.K G W ma)) (hb : PE X b (tM X.K G W mb)) : PE X (.BinOp a op b pos) (tM X.K G W (eB f ma mb)) :=
  peImp (pe_op ho ha hb) fun σ H Q t => bin_imp i σ H Q t
theorem se_un {op : UnaryOp} {r : V → Hp → VK → Prop} {f : D → Hh → Option (D × Hh)} (ho : UnR X (unaryOp op) r) (i : Imp1 X.K G r f) (ha : PE X a (tM X.K G W ma)) : PE X (.UnaryOp op a pos) (tM X.K G W (eU f ma)) :=
  peImp (pe_un ho ha) fun σ H Q t => un_imp i σ H Q t
theorem se_cmp {op : CmpOp} {r : R2} {f : D → D → Hh → Option (D × Hh)} (ho : OpR X (compareOp op) r) (i : Imp2 X.K G r f) (ha : PE X a (tM X.K G W ma)) (hb : PE X b (tM X.K G W mb)) (hm : behindInMarks op b = false) : PE X (.Compare a [op] [b] pos) (tM X.K G W (eB f ma mb)) :=
  peImp (pe_cmpR ho ha hb hm) fun σ H Q t => bin_imp i σ H Q t
theorem Imp2.or1 {K : PySem.W.Frag} {r r' : R2} {f : D → D → Hh → Option (D × Hh)} (i : Imp2 K G r f) : Imp2 K G (fun x y H Q => r x y H Q ∨ r' x y H Q) f := fun hr rx ry e k => .inl (i hr rx ry e k)
end

/-! ### arithmetic -/
def opAdd : D → D → Hh → Option (D × Hh)
  | .int i, .int j, h => some (.int (i + j), h)
  | .int i, .bl k, h => some (.int (i + b2i k), h)
  | .str x, .str y, h => if x.length + y.length ≤ sizeLine then some (.str (x ++ y), h) else none
  | .tup xs, .tup ys, h => if xs.length + ys.length ≤ sizeLine then some (.tup (xs ++ ys), h) else none
  | .ref m, .ref n, h => match h[m]?, h[n]? with
    | some (.lst xs), some (.lst ys) => if xs.length + ys.length ≤ sizeLine then some (.ref h.length, h ++ [.lst (xs ++ ys)]) else none
    | _, _ => none
  | .fls xs, .fls ys, h => if xs.length + ys.length ≤ sizeLine then some (.ref h.length, h ++ [.lst (xs ++ ys)]) else none
  | .fls xs, .ref n, h => match h[n]? with
    | some (.lst ys) => if xs.length + ys.length ≤ sizeLine then some (.ref h.length, h ++ [.lst (xs ++ ys)]) else none
    | _ => none
  | .ref m, .fls ys, h => match h[m]? with
    | some (.lst xs) => if xs.length + ys.length ≤ sizeLine then some (.ref h.length, h ++ [.lst (xs ++ ys)]) else none
    | _ => none
  | _, _, _ => none
def opSub : D → D → Hh → Option (D × Hh)
  | .int i, .int j, h => some (.int (i - j), h)
  | _, _, _ => none
def mulOk (i j : Int) : Bool := (decide (-18446744073709551616 < i) && decide (i < 18446744073709551616)) || (decide (-18446744073709551616 < j) && decide (j < 18446744073709551616))
theorem mulOk_of {i j : Int} (h : mulOk i j = true) : CMul i j := by
  unfold mulOk at h
  simp only [Bool.or_eq_true, Bool.and_eq_true, decide_eq_true_eq] at h
  exact h
def opMul : D → D → Hh → Option (D × Hh)
  | .int i, .int j, h => if mulOk i j = true then some (.int (i * j), h) else none
  | _, _, _ => none
def opMod : D → D → Hh → Option (D × Hh)
  | .int i, .int j, h => if 0 < j then some (.int (i % j), h) else none
  | _, _, _ => none
def opFdiv : D → D → Hh → Option (D × Hh)
  | .int i, .int j, h => if 0 < j ∧ j < 1073741824 then some (.int (i / j), h) else none
  | _, _, _ => none
def opPow : D → D → Hh → Option (D × Hh)
  | .int i, .int j, h => if 0 ≤ j ∧ j ≤ 1000000 ∧ i.natAbs < 18446744073709551616 then some (.int (i ^ j.toNat), h) else none
  | _, _, _ => none
def opNeg : D → Hh → Option (D × Hh)
  | .int i, h => some (.int (-i), h)
  | _, _ => none
section
variable {X : Cx} {G : Cl} {W : WX} {e a b c : Expr} {es : List Expr} {pos : Pos} {ma mb : M} {K : PySem.W.Frag}
theorem im_sub : Imp2 K G (rI0 fun i j => .int (i - j)) opSub := fun {ρ H h x y dx dy d h' Q} hr rx ry e k => by
  cases rx <;> cases ry <;> simp only [opSub] at e <;> cases e
  exact ⟨_, _, rfl, rfl, k _ _ _ Ex.refl hr (.int _)⟩
theorem im_mul : Imp2 K G (rI CMul fun i j => .int (i * j)) opMul := fun {ρ H h x y dx dy d h' Q} hr rx ry e k => by
  cases rx <;> cases ry <;> simp only [opMul] at e <;> first | (cases e; done) | skip
  split at e
  · rename_i q
    cases e
    exact ⟨_, _, rfl, rfl, mulOk_of q, k _ _ _ Ex.refl hr (.int _)⟩
  · cases e
theorem im_mod : Imp2 K G (rI (fun _ j => 0 < j) fun i j => .int (i % j)) opMod := fun {ρ H h x y dx dy d h' Q} hr rx ry e k => by
  cases rx <;> cases ry <;> simp only [opMod] at e <;> first | (cases e; done) | skip
  split at e
  · rename_i q
    cases e
    exact ⟨_, _, rfl, rfl, q, k _ _ _ Ex.refl hr (.int _)⟩
  · cases e
theorem im_fdiv : Imp2 K G (rI CDiv fun i j => .int (i / j)) opFdiv := fun {ρ H h x y dx dy d h' Q} hr rx ry e k => by
  cases rx <;> cases ry <;> simp only [opFdiv] at e <;> first | (cases e; done) | skip
  split at e
  · rename_i q
    cases e
    exact ⟨_, _, rfl, rfl, q, k _ _ _ Ex.refl hr (.int _)⟩
  · cases e
theorem im_pow : Imp2 K G (rI CPow fun i j => .int (i ^ j.toNat)) opPow := fun {ρ H h x y dx dy d h' Q} hr rx ry e k => by
  cases rx <;> cases ry <;> simp only [opPow] at e <;> first | (cases e; done) | skip
  split at e
  · rename_i q
    cases e
    exact ⟨_, _, rfl, rfl, q, k _ _ _ Ex.refl hr (.int _)⟩
  · cases e
theorem im_neg : Imp1 K G (rU fun i => .int (-i)) opNeg := fun {ρ H h x dx d h' Q} hr rx e k => by
  cases rx <;> simp only [opNeg] at e <;> cases e
  exact ⟨_, rfl, k _ _ _ Ex.refl hr (.int _)⟩
/-- a new tuple -/
theorem new_tup {ρ : List Addr} {H : Hp} {h : Hh} {vs : List V} {ds : List D} {Q : VK} (hr : Rh K G ρ H h) (rs : Rvs K ρ H vs ds) (k : ∀ ρ' H' v, Ex K ρ H ρ' H' → Rh K G ρ' H' h → Rv K ρ' H' v (.tup ds) → Q v H') :
    ∀ p, H p = none → Q (.ref p) (upd H p (.tup vs)) := fun p n => k ρ _ _ (Ex.fresh n) (hr.aux n) (.tup upd_same (rs.mono (Ex.fresh n)))
/-- a new list -/
theorem new_lst {ρ : List Addr} {H : Hp} {h : Hh} {vs : List V} {ds : List D} {Q : VK} (hr : Rh K G ρ H h) (rs : Rvs K ρ H vs ds) (k : ∀ ρ' H' v, Ex K ρ H ρ' H' → Rh K G ρ' H' (h ++ [.lst ds]) → Rv K ρ' H' v (.ref h.length) → Q v H') :
    ∀ p, H p = none → Q (.ref p) (upd H p (.lst vs)) := fun p n => k (ρ ++ [p]) _ _ (Ex.push n) (hr.new n (.lst upd_same (rs.mono (Ex.push n)))) (.ref (by rw [← hr.len]; exact get_push_eq))
theorem ref_lst {ρ : List Addr} {H : Hp} {h : Hh} {n : Nat} {a : Addr} {ds : List D} (hr : Rh K G ρ H h) (ra : ρ[n]? = some a) (e : h[n]? = some (.lst ds)) : ∃ vs, H a = some (.lst vs) ∧ Rvs K ρ H vs ds := by
  have q := hr.at_ ra e
  cases q with
  | lst q r => exact ⟨_, q, r⟩
/-- a list that is read -/
theorem ref_seq {ρ : List Addr} {H : Hp} {h : Hh} {n : Nat} {a : Addr} {ds : List D} (hr : Rh K G ρ H h) (ra : ρ[n]? = some a) (e : h[n]? = some (.lst ds)) : ∃ vs, SqL K H a vs ∧ Rvs K ρ H vs ds := by
  obtain ⟨vs, q, r⟩ := ref_lst hr ra e
  exact ⟨vs, SqL.of q, r⟩
/-- two lists, tracked or frozen -/
def rCatS (K : PySem.W.Frag) : R2 := fun x y H Q => ∃ l b xs zs, x = .ref l ∧ y = .ref b ∧ SqL K H l xs ∧ SqL K H b zs ∧ xs.length + zs.length ≤ sizeLine ∧ ∀ p, H p = none → Q (.ref p) (upd H p (.lst (xs ++ zs)))
theorem op_catS : OpR X (binaryOp .Add) (rCatS X.K) := by
  intro pins s σ H x y v u Q I rx ry h
  obtain ⟨l, b, xs, zs, rfl, rfl, hH, hB, hz, q⟩ := h
  cases rx
  cases ry
  obtain ⟨its, r, pl, hl⟩ := I.list hH
  obtain ⟨its2, r2, pl2, hl2⟩ := I.list hB
  obtain ⟨⟨cls, dd, data, sl⟩, ho, hc, n, hd⟩ := pl.isList
  obtain ⟨⟨cls2, dd2, data2, sl2⟩, ho2, hc2, n2, hd2⟩ := pl2.isList
  simp only at hc hd hc2 hd2
  subst hc hd hc2 hd2
  have ea : its.toArray ++ its2.toArray = (its ++ its2).toArray := by simp
  refine concat_meets ⟨_, ho, rfl⟩ ⟨_, ho2, rfl⟩ noFill_list_add seq_list_add PySem.F.slot_list_add PySem.F.entry_list_add (PySem.F.args_list_add_2 _ _) (list_addW l b its.toArray its2.toArray n n2 dd dd2 sl sl2 (by have := r.length; have := r2.length; simp; omega)) ⟨ho, ho2, ?_⟩
  rw [ea]
  exact ⟨.ref _, _, I.lnew (t' := s.toks) (r.append r2) (by rw [List.length_append]; omega), rfl, q _ I.fresh⟩
abbrev rAddAll (K : PySem.W.Frag) : R2 := fun x y H Q => (rI0 (fun i j => .int (i + j)) x y H Q ∨ (∃ i k, x = .int i ∧ y = .bl k ∧ Q (.int (i + b2i k)) H)) ∨
  ((∃ i j, x = .str i ∧ y = .str j ∧ i.length + j.length ≤ sizeLine ∧ Q (.str (i ++ j)) H) ∨ (rCatA K x y H Q ∨ rCatS K x y H Q))
theorem op_addAll : OpR X (binaryOp .Add) (rAddAll X.K) := (op_add.or op_add_ib).or (op_add_str.or (op_catA.or op_catS))
theorem im_add : Imp2 K G (rAddAll K) opAdd := fun {ρ H h x y dx dy d h' Q} hr rx ry e k => by
  unfold opAdd at e
  split at e
  · cases e; cases rx; cases ry
    exact .inl (.inl ⟨_, _, rfl, rfl, k _ _ _ Ex.refl hr (.int _)⟩)
  · cases e; cases rx; cases ry
    exact .inl (.inr ⟨_, _, rfl, rfl, k _ _ _ Ex.refl hr (.int _)⟩)
  · split at e
    · cases e; cases rx; cases ry
      exact .inr (.inl ⟨_, _, rfl, rfl, by assumption, k _ _ _ Ex.refl hr (.str _)⟩)
    · cases e
  · split at e
    · rename_i ds ds2 hl
      cases e
      obtain ⟨a, vs, rfl, t, r⟩ := rx.sqT
      obtain ⟨a2, vs2, rfl, t2, r2⟩ := ry.sqT
      refine .inr (.inr (.inl ⟨a, a2, vs, vs2, rfl, rfl, t, t2, by rw [r.length, r2.length]; exact hl, fun z => ?_, fun z1 z2 => ?_, fun z1 z2 => ?_⟩))
      · subst z
        cases r
        exact k _ _ _ Ex.refl hr ry
      · subst z2
        cases r2
        rw [List.append_nil] at k
        exact k _ _ _ Ex.refl hr rx
      · exact new_tup hr (r.append r2) k
    · cases e
  · rename_i m n
    cases rx with
    | ref ra =>
      cases ry with
      | ref ra2 =>
        rename_i a a2
        split at e
        · rename_i xs ys e1 e2
          split at e
          · rename_i hl
            cases e
            obtain ⟨vs, q1, r1⟩ := ref_seq hr ra e1
            obtain ⟨vs2, q2, r2⟩ := ref_seq hr ra2 e2
            exact .inr (.inr (.inr ⟨a, a2, vs, vs2, rfl, rfl, q1, q2, by rw [r1.length, r2.length]; exact hl, new_lst hr (r1.append r2) k⟩))
          · cases e
        · cases e
  · split at e
    · rename_i hl
      cases e
      cases rx with
      | fls t1 r1 =>
        cases ry with
        | fls t2 r2 => exact .inr (.inr (.inr ⟨_, _, _, _, rfl, rfl, t1.sq, t2.sq, by rw [r1.length, r2.length]; exact hl, new_lst hr (r1.append r2) k⟩))
    · cases e
  · cases rx with
    | fls t1 r1 =>
      cases ry with
      | ref ra2 =>
        split at e
        · rename_i ys e2
          split at e
          · rename_i hl
            cases e
            obtain ⟨vs2, q2, r2⟩ := ref_seq hr ra2 e2
            exact .inr (.inr (.inr ⟨_, _, _, _, rfl, rfl, t1.sq, q2, by rw [r1.length, r2.length]; exact hl, new_lst hr (r1.append r2) k⟩))
          · cases e
        · cases e
  · cases rx with
    | ref ra =>
      cases ry with
      | fls t2 r2 =>
        split at e
        · rename_i xs e1
          split at e
          · rename_i hl
            cases e
            obtain ⟨vs, q1, r1⟩ := ref_seq hr ra e1
            exact .inr (.inr (.inr ⟨_, _, _, _, rfl, rfl, q1, t2.sq, by rw [r1.length, r2.length]; exact hl, new_lst hr (r1.append r2) k⟩))
          · cases e
        · cases e
  · cases e
theorem se_add (ha : PE X a (tM X.K G W ma)) (hb : PE X b (tM X.K G W mb)) : PE X (.BinOp a .Add b pos) (tM X.K G W (eB opAdd ma mb)) := se_bin op_addAll im_add ha hb
theorem se_sub (ha : PE X a (tM X.K G W ma)) (hb : PE X b (tM X.K G W mb)) : PE X (.BinOp a .Sub b pos) (tM X.K G W (eB opSub ma mb)) := se_bin op_sub im_sub ha hb
theorem se_mul (ha : PE X a (tM X.K G W ma)) (hb : PE X b (tM X.K G W mb)) : PE X (.BinOp a .Mult b pos) (tM X.K G W (eB opMul ma mb)) := se_bin op_mul im_mul ha hb
theorem se_mod (ha : PE X a (tM X.K G W ma)) (hb : PE X b (tM X.K G W mb)) : PE X (.BinOp a .Mod b pos) (tM X.K G W (eB opMod ma mb)) := se_bin op_mod im_mod ha hb
theorem se_fdiv (ha : PE X a (tM X.K G W ma)) (hb : PE X b (tM X.K G W mb)) : PE X (.BinOp a .FloorDiv b pos) (tM X.K G W (eB opFdiv ma mb)) := se_bin op_fdiv im_fdiv ha hb
theorem se_pow (ha : PE X a (tM X.K G W ma)) (hb : PE X b (tM X.K G W mb)) : PE X (.BinOp a .Pow b pos) (tM X.K G W (eB opPow ma mb)) := se_bin op_pow im_pow ha hb
theorem se_neg (ha : PE X a (tM X.K G W ma)) : PE X (.UnaryOp .USub a pos) (tM X.K G W (eU opNeg ma)) := se_un un_neg im_neg ha
end

/-! ### comparisons -/
/-- data with its lists, read off the plain heap -/
def toP (h : Hh) : Nat → D → Option PyData
  | 0, _ => none
  | _ + 1, .non => some .none
  | _ + 1, .bl b => some (.bool b)
  | _ + 1, .int i => some (.int i)
  | _ + 1, .str x => some (.str x)
  | k + 1, .tup ds => (ds.mapM (toP h k)).map PyData.tuple
  | k + 1, .fls ds => (ds.mapM (toP h k)).map PyData.list
  | k + 1, .ref n => match h[n]? with
    | some (.lst ds) => (ds.mapM (toP h k)).map PyData.list
    | _ => none
def eqP (h : Hh) (x y : D) : Option Bool := match toP h 60 x, toP h 60 y with
  | some a, some b => if SeqAt.shaped a = true ∧ SeqAt.shaped b = true then some (PyData.eqv a b) else none
  | _, _ => none
def opEqB : D → D → Hh → Option Bool
  | .int i, .int j, _ => some (decide (i = j))
  | .str i, .str j, _ => some (decide (i = j))
  | .bl i, .bl j, _ => some (decide (i = j))
  | .non, .non, _ => some true
  | x, y, h => eqP h x y
def opEq (x y : D) (h : Hh) : Option (D × Hh) := (opEqB x y h).map fun b => (.bl b, h)
def opNe (x y : D) (h : Hh) : Option (D × Hh) := (opEqB x y h).map fun b => (.bl (!b), h)
/-- the ints of a tuple -/
def intsOf : List D → Option (List Int)
  | [] => some []
  | .int i :: r => (intsOf r).map (i :: ·)
  | _ :: _ => none
def opLt : D → D → Hh → Option (D × Hh)
  | .int i, .int j, h => some (.bl (decide (i < j)), h)
  | .str i, .str j, h => some (.bl (decide (i.cps.toList < j.cps.toList)), h)
  | .tup xs, .tup ys, h => match intsOf xs, intsOf ys with
    | some ns, some ms => some (.bl (HT.lexLt ns ms), h)
    | _, _ => none
  | _, _, _ => none
def opLe : D → D → Hh → Option (D × Hh)
  | .int i, .int j, h => some (.bl (decide (i ≤ j)), h)
  | _, _, _ => none
def opGt : D → D → Hh → Option (D × Hh)
  | .int i, .int j, h => some (.bl (decide (j < i)), h)
  | _, _, _ => none
def opGe : D → D → Hh → Option (D × Hh)
  | .int i, .int j, h => some (.bl (decide (j ≤ i)), h)
  | _, _, _ => none
section
variable {X : Cx} {G : Cl} {W : WX} {e a b c : Expr} {es : List Expr} {pos : Pos} {ma mb : M} {K : PySem.W.Frag} {ρ : List Addr} {H : Hp} {h : Hh}
theorem intsOf_eq : ∀ {ds : List D} {ns : List Int}, intsOf ds = some ns → ds = ns.map D.int
  | [], ns, e => by simp [intsOf] at e; subst e; rfl
  | .int i :: r, ns, e => by
    simp only [intsOf, Option.map_eq_some_iff] at e
    obtain ⟨ms, e1, e2⟩ := e
    subst e2
    rw [intsOf_eq e1]
    rfl
  | .non :: _, _, e => by simp [intsOf] at e
  | .bl _ :: _, _, e => by simp [intsOf] at e
  | .str _ :: _, _, e => by simp [intsOf] at e
  | .tup _ :: _, _, e => by simp [intsOf] at e
  | .fls _ :: _, _, e => by simp [intsOf] at e
  | .ref _ :: _, _, e => by simp [intsOf] at e
theorem dpAll_of {f : D → Option PyData} (ih : ∀ d v p, Rv K ρ H v d → f d = some p → Dp K H v p) : ∀ {ds : List D} {vs : List V} {ps : List PyData}, Rvs K ρ H vs ds → ds.mapM f = some ps → DpAll K H vs ps
  | [], vs, ps, r, e => by
    cases r
    simp at e
    subst e
    exact .nil
  | d :: ds, vs, ps, r, e => by
    cases r with
    | cons r rs =>
      simp only [List.mapM_cons, Option.bind_eq_bind, Option.bind_eq_some_iff, Option.pure_def, Option.some.injEq] at e
      obtain ⟨p, e1, qs, e2, e3⟩ := e
      subst e3
      exact .cons (ih _ _ _ r e1) (dpAll_of ih rs e2)
theorem toP_dp (hr : Rh K G ρ H h) : ∀ (k : Nat) (d : D) (v : V) (p : PyData), Rv K ρ H v d → toP h k d = some p → Dp K H v p
  | 0, _, _, _, _, e => by simp [toP] at e
  | k + 1, .non, _, _, r, e => by cases r; simp [toP] at e; subst e; exact .non
  | k + 1, .bl b, _, _, r, e => by cases r; simp [toP] at e; subst e; exact .bl b
  | k + 1, .int i, _, _, r, e => by cases r; simp [toP] at e; subst e; exact .int i
  | k + 1, .str x, _, _, r, e => by cases r; simp [toP] at e; subst e; exact .str x
  | k + 1, .tup ds, _, _, r, e => by
    obtain ⟨a, vs, rfl, t, r⟩ := r.sqT
    simp only [toP, Option.map_eq_some_iff] at e
    obtain ⟨ps, e1, e2⟩ := e
    subst e2
    exact .tup t (dpAll_of (fun d v p => toP_dp hr k d v p) r e1)
  | k + 1, .fls ds, _, _, r, e => by
    cases r with
    | fls t r =>
      simp only [toP, Option.map_eq_some_iff] at e
      obtain ⟨ps, e1, e2⟩ := e
      subst e2
      exact .lst t.sq (dpAll_of (fun d v p => toP_dp hr k d v p) r e1)
  | k + 1, .ref n, _, _, r, e => by
    cases r with
    | ref ra =>
      simp only [toP] at e
      split at e
      · rename_i ds e0
        simp only [Option.map_eq_some_iff] at e
        obtain ⟨ps, e1, e2⟩ := e
        subst e2
        obtain ⟨vs, q, r⟩ := ref_seq hr ra e0
        exact .lst q (dpAll_of (fun d v p => toP_dp hr k d v p) r e1)
      · cases e
abbrev rEqAll (K : PySem.W.Frag) : R2 := fun x y H Q => rEq x y H Q ∨ rEqD K x y H Q
abbrev rNeAll (K : PySem.W.Frag) : R2 := fun x y H Q => rNe x y H Q ∨ rNeD K x y H Q
theorem eqB_cases {x y : V} {dx dy : D} {k : Bool} (hr : Rh K G ρ H h) (rx : Rv K ρ H x dx) (ry : Rv K ρ H y dy) (e : opEqB dx dy h = some k) :
    (scal x y = true ∧ k = decide (x = y)) ∨ ∃ p q, Dp K H x p ∧ Dp K H y q ∧ SeqAt.shaped p = true ∧ SeqAt.shaped q = true ∧ k = PyData.eqv p q := by
  have gen : eqP h dx dy = some k → ∃ p q, Dp K H x p ∧ Dp K H y q ∧ SeqAt.shaped p = true ∧ SeqAt.shaped q = true ∧ k = PyData.eqv p q := fun e => by
    unfold eqP at e
    split at e
    · rename_i p q e1 e2
      split at e
      · rename_i hs
        cases e
        exact ⟨p, q, toP_dp hr _ _ _ _ rx e1, toP_dp hr _ _ _ _ ry e2, hs.1, hs.2, rfl⟩
      · cases e
    · cases e
  unfold opEqB at e
  split at e
  · cases e; cases rx; cases ry; exact .inl ⟨rfl, by simp⟩
  · cases e; cases rx; cases ry; exact .inl ⟨rfl, by simp⟩
  · cases e; cases rx; cases ry; exact .inl ⟨rfl, by simp⟩
  · cases e; cases rx; cases ry; exact .inl ⟨rfl, by simp⟩
  · exact .inr (gen e)
theorem im_eq : Imp2 K G (rEqAll K) opEq := fun {ρ H h x y dx dy d h' Q} hr rx ry e k => by
  simp only [opEq, Option.map_eq_some_iff, Prod.mk.injEq] at e
  obtain ⟨b, e, e1, e2⟩ := e
  subst e1 e2
  rcases eqB_cases hr rx ry e with ⟨s, q⟩ | ⟨p, q, h1, h2, h3, h4, h5⟩
  · subst q
    exact .inl ⟨s, k _ _ _ Ex.refl hr (.bl _)⟩
  · subst h5
    exact .inr ⟨p, q, h1, h2, h3, h4, k _ _ _ Ex.refl hr (.bl _)⟩
theorem im_ne : Imp2 K G (rNeAll K) opNe := fun {ρ H h x y dx dy d h' Q} hr rx ry e k => by
  simp only [opNe, Option.map_eq_some_iff, Prod.mk.injEq] at e
  obtain ⟨b, e, e1, e2⟩ := e
  subst e1 e2
  rcases eqB_cases hr rx ry e with ⟨s, q⟩ | ⟨p, q, h1, h2, h3, h4, h5⟩
  · subst q
    exact .inl ⟨s, k _ _ _ Ex.refl hr (.bl _)⟩
  · subst h5
    exact .inr ⟨p, q, h1, h2, h3, h4, k _ _ _ Ex.refl hr (.bl _)⟩
abbrev rLtAll (K : PySem.W.Frag) : R2 := fun x y H Q => rI0 (fun i j => .bl (decide (i < j))) x y H Q ∨ ((∃ i j, x = .str i ∧ y = .str j ∧ Q (.bl (decide (i.cps.toList < j.cps.toList))) H) ∨ rLtT K x y H Q)
theorem op_ltAll (hu : X.A.units < cLine) : OpR X (compareOp .Lt) (rLtAll X.K) := op_lt.or (op_lt_str.or (op_ltT hu))
theorem im_lt : Imp2 K G (rLtAll K) opLt := fun {ρ H h x y dx dy d h' Q} hr rx ry e k => by
  unfold opLt at e
  split at e
  · cases e; cases rx; cases ry
    exact .inl ⟨_, _, rfl, rfl, k _ _ _ Ex.refl hr (.bl _)⟩
  · cases e; cases rx; cases ry
    exact .inr (.inl ⟨_, _, rfl, rfl, k _ _ _ Ex.refl hr (.bl _)⟩)
  · split at e
    · rename_i ns ms e1 e2
      cases e
      have z1 := intsOf_eq e1
      have z2 := intsOf_eq e2
      subst z1 z2
      obtain ⟨a, vs, rfl, t, r⟩ := rx.sqT
      obtain ⟨a2, vs2, rfl, t2, r2⟩ := ry.sqT
      have y1 := r.ints
      have y2 := r2.ints
      subst y1 y2
      exact .inr (.inr ⟨a, a2, ns, ms, rfl, rfl, t, t2, k _ _ _ Ex.refl hr (.bl _)⟩)
    · cases e
  · cases e
theorem im_le : Imp2 K G (rI0 fun i j => .bl (decide (i ≤ j))) opLe := fun {ρ H h x y dx dy d h' Q} hr rx ry e k => by
  cases rx <;> cases ry <;> simp only [opLe] at e <;> cases e
  exact ⟨_, _, rfl, rfl, k _ _ _ Ex.refl hr (.bl _)⟩
theorem im_gt : Imp2 K G (rI0 fun i j => .bl (decide (j < i))) opGt := fun {ρ H h x y dx dy d h' Q} hr rx ry e k => by
  cases rx <;> cases ry <;> simp only [opGt] at e <;> cases e
  exact ⟨_, _, rfl, rfl, k _ _ _ Ex.refl hr (.bl _)⟩
theorem im_ge : Imp2 K G (rI0 fun i j => .bl (decide (j ≤ i))) opGe := fun {ρ H h x y dx dy d h' Q} hr rx ry e k => by
  cases rx <;> cases ry <;> simp only [opGe] at e <;> cases e
  exact ⟨_, _, rfl, rfl, k _ _ _ Ex.refl hr (.bl _)⟩
theorem se_eq (hu : X.A.units + 64 < cLine) (ha : PE X a (tM X.K G W ma)) (hb : PE X b (tM X.K G W mb)) : PE X (.Compare a [.Eq] [b] pos) (tM X.K G W (eB opEq ma mb)) := se_cmp (op_eq.or (op_eqD hu)) im_eq ha hb (nomark _)
theorem se_ne (hu : X.A.units + 64 < cLine) (ha : PE X a (tM X.K G W ma)) (hb : PE X b (tM X.K G W mb)) : PE X (.Compare a [.NotEq] [b] pos) (tM X.K G W (eB opNe ma mb)) := se_cmp (op_ne.or (op_neD hu)) im_ne ha hb (nomark _)
theorem se_lt (hu : X.A.units + 64 < cLine) (ha : PE X a (tM X.K G W ma)) (hb : PE X b (tM X.K G W mb)) : PE X (.Compare a [.Lt] [b] pos) (tM X.K G W (eB opLt ma mb)) := se_cmp (op_ltAll (by omega)) im_lt ha hb (nomark _)
theorem se_le (hu : X.A.units + 64 < cLine) (ha : PE X a (tM X.K G W ma)) (hb : PE X b (tM X.K G W mb)) : PE X (.Compare a [.LtE] [b] pos) (tM X.K G W (eB opLe ma mb)) := se_cmp op_le im_le ha hb (nomark _)
theorem se_gt (hu : X.A.units + 64 < cLine) (ha : PE X a (tM X.K G W ma)) (hb : PE X b (tM X.K G W mb)) : PE X (.Compare a [.Gt] [b] pos) (tM X.K G W (eB opGt ma mb)) := se_cmp op_gt im_gt ha hb (nomark _)
theorem se_ge (hu : X.A.units + 64 < cLine) (ha : PE X a (tM X.K G W ma)) (hb : PE X b (tM X.K G W mb)) : PE X (.Compare a [.GtE] [b] pos) (tM X.K G W (eB opGe ma mb)) := se_cmp op_ge im_ge ha hb (nomark _)
/-- is None -/
def opIsN : D → Hh → Option (D × Hh)
  | .non, h => some (.bl true, h)
  | _, h => some (.bl false, h)
def opNotN : D → Hh → Option (D × Hh)
  | .non, h => some (.bl false, h)
  | _, h => some (.bl true, h)
theorem se_isN {j pos'} (ha : PE X a (tM X.K G W ma)) : PE X (.Compare a [.Is] [.Constant .none j pos'] pos) (tM X.K G W (eU opIsN ma)) := peImp (pe_cmp (pc_isN ha)) fun σ H Q t => un_imp (r := fun x H Q => Q (.bl (decide (x = .non))) H) (fun {ρ H h x dx d h' Q} hr rx e k => by
  cases rx <;> simp only [opIsN] at e <;> cases e <;> exact k _ _ _ Ex.refl hr (.bl _)) σ H Q t
theorem se_notN {j pos'} (ha : PE X a (tM X.K G W ma)) : PE X (.Compare a [.IsNot] [.Constant .none j pos'] pos) (tM X.K G W (eU opNotN ma)) := peImp (pe_cmp (pc_notN ha)) fun σ H Q t => un_imp (r := fun x H Q => Q (.bl (!decide (x = .non))) H) (fun {ρ H h x dx d h' Q} hr rx e k => by
  cases rx <;> simp only [opNotN] at e <;> cases e <;> exact k _ _ _ Ex.refl hr (.bl _)) σ H Q t
end
end Sm
/-! SmC: tests, truth, and / or, argument lists, displays, items, slices, built-in functions and methods. -/
namespace Sm
open PySem L2 PyProof.Rows

abbrev MT := Ev → Hh → R Bool
/-! ### tests -/
def opTruth : D → Hh → Option Bool
  | .non, _ => some false
  | .bl b, _ => some b
  | .int i, _ => some (i != 0)
  | .str y, _ => if y.length ≤ sizeLine then some ((y.length : Int) != 0) else none
  | .tup ds, _ => some (!ds.isEmpty)
  | .fls ds, _ => some (!ds.isEmpty)
  | .ref n, h => match h[n]? with
    | some (.lst ds) => some (!ds.isEmpty)
    | some (.dK ds) => some (!ds.isEmpty)
    | _ => none
def optB (o : Option Bool) (h : Hh) : R Bool := match o with
  | some b => .ok b h
  | none => .bad
@[simp] theorem optB_some (b : Bool) (h : Hh) : optB (some b) h = .ok b h := rfl
@[simp] theorem optB_none (h : Hh) : optB none h = .bad := rfl
def tTru (m : M) : MT := fun env h => (m env h).bind fun d h1 => optB (opTruth d h1) h1
def opBl : D → Option Bool
  | .bl b => some b
  | _ => none
def tBl (m : M) : MT := fun env h => (m env h).bind fun d h1 => optB (opBl d) h1
def tAndM (a b : MT) : MT := fun env h => (a env h).bind fun c h1 => if c = true then b env h1 else .ok false h1
def tOrM (a b : MT) : MT := fun env h => (a env h).bind fun c h1 => if c = true then .ok true h1 else b env h1
def tNotM (a : MT) : MT := fun env h => (a env h).bind fun c h1 => .ok (!c) h1
def eAnd (a b : M) : M := fun env h => (a env h).bind fun d h1 => match d with
  | .bl true => b env h1
  | .bl false => .ok (.bl false) h1
  | _ => .bad
def eOr (a b : M) : M := fun env h => (a env h).bind fun d h1 => match d with
  | .bl false => b env h1
  | .bl true => .ok (.bl true) h1
  | _ => .bad
def eNot (a : M) : M := fun env h => (a env h).bind fun d h1 => match d with
  | .bl b => .ok (.bl (!b)) h1
  | _ => .bad
def eIf (t : MT) (a b : M) : M := fun env h => (t env h).bind fun c h1 => if c = true then a env h1 else b env h1
def eCh (f g : D → D → Hh → Option (D × Hh)) (a b c : M) : M := fun env h => (a env h).bind fun x h1 => (b env h1).bind fun y h2 => (R.opt (f x y h2)).bind fun z h3 => match z with
  | .bl true => (c env h3).bind fun w h4 => R.opt (g y w h4)
  | .bl false => .ok (.bl false) h3
  | _ => .bad
section
variable {X : Cx} {G : Cl} {W : WX} {e a b c : Expr} {es rest : List Expr} {pos : Pos} {ma mb mc : M} {ta tb : MT} {K : PySem.W.Frag} {ρ : List Addr} {H : Hp} {h : Hh} {σ : L2.St} {env : Ev}
theorem Rvs.isEmpty {vs : List V} {ds : List D} (r : Rvs K ρ H vs ds) : (!vs.isEmpty) = !ds.isEmpty := by cases r <;> rfl
theorem truth_ok (hr : Rh K G ρ H h) {v : V} {d : D} {k : Bool} (r : Rv K ρ H v d) (e : opTruth d h = some k) : TruV K v H k := by
  cases d with
  | non => cases r; cases e; rfl
  | bl b => cases r; cases e; rfl
  | int i => cases r; cases e; rfl
  | str y =>
    cases r
    simp only [opTruth] at e
    split at e
    · cases e
      exact ⟨by assumption, rfl⟩
    · cases e
  | tup ds =>
    cases e
    obtain ⟨a, vs, rfl, t, q⟩ := r.sqT
    exact .inr (.inl ⟨vs, t, q.isEmpty.symm⟩)
  | fls ds =>
    cases e
    cases r with
    | fls t q => exact .inl ⟨_, t.sq, q.isEmpty.symm⟩
  | ref n =>
    cases r with
    | ref ra =>
      simp only [opTruth] at e
      split at e
      · rename_i ds e0
        cases e
        obtain ⟨vs, q, r⟩ := ref_seq hr ra e0
        exact .inl ⟨vs, q, r.isEmpty.symm⟩
      · rename_i ds e0
        cases e
        have q := hr.at_ ra e0
        cases q with
        | dK q r =>
          refine .inr (.inr ⟨_, q, ?_⟩)
          cases r <;> rfl
      · cases e
theorem Po.optB {o : Option Bool} {Q : Bool → Hp → Prop} (p : Po K G (relB) W ρ H σ (optB o h) Q) : ∃ b, o = some b ∧ ∀ ρ' H' v, Ex K ρ H ρ' H' → Rh K G ρ' H' h → v = b → Q v H' := by
  cases o with
  | none => exact p.elim
  | some q => exact ⟨q, rfl, p⟩
theorem st_truth (ha : PE X a (tM X.K G W ma)) (he : ∀ whole, isTrue a X.env whole = (do let v ← whole; standAt a.pos; holding [v] (truthy v)) := by intro _; rfl) : PT X a (tT X.K G W (tTru ma)) := ptImp (pt_truth ha he) fun σ H Q t => by
  obtain ⟨ρ, h, env, hr, he, p⟩ := t
  refine tG_mono (tG_bind (rel := relV X.K) hr he p) fun x H1 ⟨ρ1, h1, d, e1, hr1, he1, r1, p1⟩ => ?_
  obtain ⟨k, ek, q⟩ := p1.optB
  exact ⟨k, truth_ok hr1 r1 ek, q _ _ _ Ex.refl hr1 rfl⟩
/-- an expression that gives a bool, its test being B of the same reading -/
theorem tB_imp {t : TE} (i : ∀ σ H Q, tM X.K G W ma σ H Q → t σ H Q) (σ : L2.St) (H : Hp) (Q : Bool → Hp → Prop) (p : tT X.K G W (tBl ma) σ H Q) : t σ H fun x H1 => ∃ k, x = .bl k ∧ Q k H1 := by
  obtain ⟨ρ, h, env, hr, he, p⟩ := p
  refine i σ H _ (tG_mono (tG_bind (rel := relV X.K) hr he p) fun x H1 ⟨ρ1, h1, d, e1, hr1, he1, r1, p1⟩ => ?_)
  obtain ⟨k, ek, q⟩ := p1.optB
  cases d with
  | bl b => cases ek; cases r1; exact ⟨_, rfl, q _ _ _ Ex.refl hr1 rfl⟩
  | _ => cases ek
theorem st_val (ha : PE X a (tM X.K G W ma)) (he : ∀ whole, isTrue a X.env whole = (do let v ← whole; standAt a.pos; holding [v] (truthy v)) := by intro _; rfl) : PT X a (tT X.K G W (tBl ma)) := ptImp (pt_val ha he) fun σ H Q t => tB_imp (fun _ _ _ z => z) σ H Q t
theorem st_cmp {op : CmpOp} {r : R2} {f : D → D → Hh → Option (D × Hh)} (ho : OpR X (compareOp op) r) (i : Imp2 X.K G r f) (ha : PE X a (tM X.K G W ma)) (hb : PE X b (tM X.K G W mb)) (hm : behindInMarks op b = false) : PT X (.Compare a [op] [b] pos) (tT X.K G W (tBl (eB f ma mb))) :=
  ptImp (pt_cmpR ho ha hb hm) fun σ H Q t => tB_imp (bin_imp i) σ H Q t
theorem st_eq (hu : X.A.units + 64 < cLine) (ha : PE X a (tM X.K G W ma)) (hb : PE X b (tM X.K G W mb)) : PT X (.Compare a [.Eq] [b] pos) (tT X.K G W (tBl (eB opEq ma mb))) := st_cmp (op_eq.or (op_eqD hu)) im_eq ha hb (nomark _)
theorem st_ne (hu : X.A.units + 64 < cLine) (ha : PE X a (tM X.K G W ma)) (hb : PE X b (tM X.K G W mb)) : PT X (.Compare a [.NotEq] [b] pos) (tT X.K G W (tBl (eB opNe ma mb))) := st_cmp (op_ne.or (op_neD hu)) im_ne ha hb (nomark _)
theorem st_lt (hu : X.A.units + 64 < cLine) (ha : PE X a (tM X.K G W ma)) (hb : PE X b (tM X.K G W mb)) : PT X (.Compare a [.Lt] [b] pos) (tT X.K G W (tBl (eB opLt ma mb))) := st_cmp (op_ltAll (by omega)) im_lt ha hb (nomark _)
theorem st_le (hu : X.A.units + 64 < cLine) (ha : PE X a (tM X.K G W ma)) (hb : PE X b (tM X.K G W mb)) : PT X (.Compare a [.LtE] [b] pos) (tT X.K G W (tBl (eB opLe ma mb))) := st_cmp op_le im_le ha hb (nomark _)
theorem st_gt (hu : X.A.units + 64 < cLine) (ha : PE X a (tM X.K G W ma)) (hb : PE X b (tM X.K G W mb)) : PT X (.Compare a [.Gt] [b] pos) (tT X.K G W (tBl (eB opGt ma mb))) := st_cmp op_gt im_gt ha hb (nomark _)
theorem st_ge (hu : X.A.units + 64 < cLine) (ha : PE X a (tM X.K G W ma)) (hb : PE X b (tM X.K G W mb)) : PT X (.Compare a [.GtE] [b] pos) (tT X.K G W (tBl (eB opGe ma mb))) := st_cmp op_ge im_ge ha hb (nomark _)
theorem isN_imp (σ : L2.St) (H : Hp) (Q : VK) (t : tM X.K G W (eU opIsN ma) σ H Q) : tIsN (tM X.K G W ma) σ H Q := un_imp (r := fun x H Q => Q (.bl (decide (x = .non))) H) (fun {ρ H h x dx d h' Q} hr rx e k => by
  cases rx <;> simp only [opIsN] at e <;> cases e <;> exact k _ _ _ Ex.refl hr (.bl _)) σ H Q t
theorem notN_imp (σ : L2.St) (H : Hp) (Q : VK) (t : tM X.K G W (eU opNotN ma) σ H Q) : tNotN (tM X.K G W ma) σ H Q := un_imp (r := fun x H Q => Q (.bl (!decide (x = .non))) H) (fun {ρ H h x dx d h' Q} hr rx e k => by
  cases rx <;> simp only [opNotN] at e <;> cases e <;> exact k _ _ _ Ex.refl hr (.bl _)) σ H Q t
theorem st_isN {j pos'} (ha : PE X a (tM X.K G W ma)) : PT X (.Compare a [.Is] [.Constant .none j pos'] pos) (tT X.K G W (tBl (eU opIsN ma))) := ptImp (pt_cmp (pc_isN ha)) fun σ H Q t => tB_imp isN_imp σ H Q t
theorem st_notN {j pos'} (ha : PE X a (tM X.K G W ma)) : PT X (.Compare a [.IsNot] [.Constant .none j pos'] pos) (tT X.K G W (tBl (eU opNotN ma))) := ptImp (pt_cmp (pc_notN ha)) fun σ H Q t => tB_imp notN_imp σ H Q t
theorem ch_imp {r r' : R2} {f g : D → D → Hh → Option (D × Hh)} (i : Imp2 X.K G r f) (i' : Imp2 X.K G r' g) (σ : L2.St) (H : Hp) (Q : VK) (t : tM X.K G W (eCh f g ma mb mc) σ H Q) : tChain r r' (tM X.K G W ma) (tM X.K G W mb) (tM X.K G W mc) σ H Q := by
  obtain ⟨ρ, h, env, hr, he, p⟩ := t
  refine tG_mono (tG_bind (rel := relV X.K) hr he p) fun x H1 ⟨ρ1, h1, d, e1, hr1, he1, r1, p1⟩ => ?_
  refine tG_mono (tG_bind (rel := relV X.K) hr1 he1 p1) fun y H2 ⟨ρ2, h2, d2, e2, hr2, he2, r2, p2⟩ => ?_
  dsimp only at p2
  cases o : f d d2 h2 with
  | none => rw [o] at p2; exact p2.elim
  | some q =>
    obtain ⟨z, h3⟩ := q
    rw [o] at p2
    refine i hr2 (r1.mono e2) r2 o fun ρ3 H3 v e3 hr3 r3 => ?_
    have p3 := Po.shift p2 e3
    cases z with
    | bl k =>
      cases r3
      refine ⟨k, rfl, ?_⟩
      cases k with
      | false => exact p3.ok hr3 (.bl _)
      | true =>
        refine tG_mono (tG_bind (rel := relV X.K) hr3 (he2.mono e3) p3) fun w H4 ⟨ρ4, h4, d4, e4, hr4, he4, r4, p4⟩ => ?_
        obtain ⟨d5, h5, eq, k5⟩ := p4.opt
        exact i' hr4 ((r2.mono e3).mono e4) r4 eq k5
    | _ => exact p3.elim
theorem se_chain {op op' : CmpOp} {r r' : R2} {f g : D → D → Hh → Option (D × Hh)} (ho : OpR X (compareOp op) r) (ho' : OpR X (compareOp op') r') (i : Imp2 X.K G r f) (i' : Imp2 X.K G r' g) (ha : PE X a (tM X.K G W ma)) (hb : PE X b (tM X.K G W mb)) (hc : PE X c (tM X.K G W mc))
    (hm : lastMarks [op, op'] [b, c] = false := by with_unfolding_all rfl) : PE X (.Compare a [op, op'] [b, c] pos) (tM X.K G W (eCh f g ma mb mc)) := peImp (pe_chain ho ho' ha hb hc hm) fun σ H Q t => ch_imp i i' σ H Q t
theorem st_chain {op op' : CmpOp} {r r' : R2} {f g : D → D → Hh → Option (D × Hh)} (ho : OpR X (compareOp op) r) (ho' : OpR X (compareOp op') r') (i : Imp2 X.K G r f) (i' : Imp2 X.K G r' g) (ha : PE X a (tM X.K G W ma)) (hb : PE X b (tM X.K G W mb)) (hc : PE X c (tM X.K G W mc))
    (hm : lastMarks [op, op'] [b, c] = false := by with_unfolding_all rfl) : PT X (.Compare a [op, op'] [b, c] pos) (tT X.K G W (tBl (eCh f g ma mb mc))) := ptImp (pt_chain ho ho' ha hb hc hm) fun σ H Q t => tB_imp (ch_imp i i') σ H Q t

/-! ### and, or, not -/
theorem sw_and1 (ha : PT X a (tT X.K G W ta)) : PW X (.BoolOp .And [a] pos) (tT X.K G W ta) := pw_and1 ha
theorem sw_or1 (ha : PT X a (tT X.K G W ta)) : PW X (.BoolOp .Or [a] pos) (tT X.K G W ta) := pw_or1 ha
theorem sw_and (ha : PT X a (tT X.K G W ta)) (hb : PW X (.BoolOp .And (b :: rest) pos) (tT X.K G W tb)) : PW X (.BoolOp .And (a :: b :: rest) pos) (tT X.K G W (tAndM ta tb)) := pwImp (pw_and ha hb) fun σ H Q t => by
  obtain ⟨ρ, h, env, hr, he, p⟩ := t
  refine tG_mono (tG_bind (rel := relB) hr he p) fun x H1 ⟨ρ1, h1, d, e1, hr1, he1, r1, p1⟩ => ?_
  subst r1
  cases x with
  | true => exact ⟨ρ1, h1, env, hr1, he1, p1⟩
  | false => exact p1.ok hr1 rfl
theorem sw_or (ha : PT X a (tT X.K G W ta)) (hb : PW X (.BoolOp .Or (b :: rest) pos) (tT X.K G W tb)) : PW X (.BoolOp .Or (a :: b :: rest) pos) (tT X.K G W (tOrM ta tb)) := pwImp (pw_or ha hb) fun σ H Q t => by
  obtain ⟨ρ, h, env, hr, he, p⟩ := t
  refine tG_mono (tG_bind (rel := relB) hr he p) fun x H1 ⟨ρ1, h1, d, e1, hr1, he1, r1, p1⟩ => ?_
  subst r1
  cases x with
  | false => exact ⟨ρ1, h1, env, hr1, he1, p1⟩
  | true => exact p1.ok hr1 rfl
theorem st_w (ha : PW X a (tT X.K G W ta)) : PT X a (tT X.K G W ta) := ha.pt
theorem st_not (ha : PT X a (tT X.K G W ta)) : PT X (.UnaryOp .Not a pos) (tT X.K G W (tNotM ta)) := ptImp (pt_not ha) fun σ H Q t => by
  obtain ⟨ρ, h, env, hr, he, p⟩ := t
  refine tG_mono (tG_bind (rel := relB) hr he p) fun x H1 ⟨ρ1, h1, d, e1, hr1, he1, r1, p1⟩ => ?_
  subst r1
  exact p1.ok hr1 rfl
theorem se_one {op} (ha : PE X a (tM X.K G W ma)) : PE X (.BoolOp op [a] pos) (tM X.K G W ma) := pe_one ha
theorem se_and (ha : PE X a (tM X.K G W ma)) (hb : PE X (.BoolOp .And (b :: rest) pos) (tM X.K G W mb)) : PE X (.BoolOp .And (a :: b :: rest) pos) (tM X.K G W (eAnd ma mb)) := peImp (pe_and ha hb) fun σ H Q t => by
  obtain ⟨ρ, h, env, hr, he, p⟩ := t
  refine tG_mono (tG_bind (rel := relV X.K) hr he p) fun x H1 ⟨ρ1, h1, d, e1, hr1, he1, r1, p1⟩ => ?_
  cases d with
  | bl k =>
    cases r1
    refine ⟨k, rfl, ?_⟩
    cases k with
    | true => exact ⟨ρ1, h1, env, hr1, he1, p1⟩
    | false => exact p1.ok hr1 (.bl _)
  | _ => exact p1.elim
theorem se_or (ha : PE X a (tM X.K G W ma)) (hb : PE X (.BoolOp .Or (b :: rest) pos) (tM X.K G W mb)) : PE X (.BoolOp .Or (a :: b :: rest) pos) (tM X.K G W (eOr ma mb)) := peImp (pe_or ha hb) fun σ H Q t => by
  obtain ⟨ρ, h, env, hr, he, p⟩ := t
  refine tG_mono (tG_bind (rel := relV X.K) hr he p) fun x H1 ⟨ρ1, h1, d, e1, hr1, he1, r1, p1⟩ => ?_
  cases d with
  | bl k =>
    cases r1
    refine ⟨k, rfl, ?_⟩
    cases k with
    | false => exact ⟨ρ1, h1, env, hr1, he1, p1⟩
    | true => exact p1.ok hr1 (.bl _)
  | _ => exact p1.elim
theorem se_not (ha : PE X a (tM X.K G W ma)) : PE X (.UnaryOp .Not a pos) (tM X.K G W (eNot ma)) := peImp (pe_not ha) fun σ H Q t => by
  obtain ⟨ρ, h, env, hr, he, p⟩ := t
  refine tG_mono (tG_bind (rel := relV X.K) hr he p) fun x H1 ⟨ρ1, h1, d, e1, hr1, he1, r1, p1⟩ => ?_
  cases d with
  | bl k =>
    cases r1
    exact ⟨k, rfl, p1.ok hr1 (.bl _)⟩
  | _ => exact p1.elim
theorem se_if (hc : PT X c (tT X.K G W ta)) (ha : PE X a (tM X.K G W ma)) (hb : PE X b (tM X.K G W mb)) : PE X (.IfExp c a b pos) (tM X.K G W (eIf ta ma mb)) := peImp (pe_ifExp hc ha hb) fun σ H Q t => by
  obtain ⟨ρ, h, env, hr, he, p⟩ := t
  refine tG_mono (tG_bind (rel := relB) hr he p) fun x H1 ⟨ρ1, h1, d, e1, hr1, he1, r1, p1⟩ => ?_
  subst r1
  cases x with
  | true => exact ⟨ρ1, h1, env, hr1, he1, p1⟩
  | false => exact ⟨ρ1, h1, env, hr1, he1, p1⟩
end

/-! ### argument lists -/
def evs : List M → Ev → Hh → R (List D)
  | [], _, h => .ok [] h
  | m :: ms, env, h => (m env h).bind fun d h1 => (evs ms env h1).bind fun ds h2 => .ok (d :: ds) h2
def eN (f : List D → Hh → Option (D × Hh)) (ms : List M) : M := fun env h => (evs ms env h).bind fun ds h1 => R.opt (f ds h1)
def ImpN (K : PySem.W.Frag) (G : Cl) (r : List V → Hp → VK → Prop) (f : List D → Hh → Option (D × Hh)) : Prop := ∀ {ρ : List Addr} {H : Hp} {h : Hh} {xs : List V} {ds : List D} {d : D} {h' : Hh} {Q : VK}, Rh K G ρ H h → Rvs K ρ H xs ds → f ds h = some (d, h') →
  (∀ ρ' H' v, Ex K ρ H ρ' H' → Rh K G ρ' H' h' → Rv K ρ' H' v d → Q v H') → r xs H Q
def eTup (ms : List M) : M := fun env h => (evs ms env h).bind fun ds h1 => .ok (.tup ds) h1
def eLst (ms : List M) : M := fun env h => (evs ms env h).bind fun ds h1 => .ok (.ref h1.length) (h1 ++ [.lst ds])
section
variable {X : Cx} {G : Cl} {W : WX} {e o a b c : Expr} {es rest : List Expr} {pos p : Pos} {ma mb mc m mo : M} {ms : List M} {K : PySem.W.Frag} {ρ : List Addr} {H : Hp} {h : Hh} {σ : L2.St} {env : Ev} {x : Str} {id T : String}
theorem sa_nil : PA X [] (tL X.K G W (evs [])) := paImp pa_nil fun σ H Q t => by
  obtain ⟨ρ, h, env, hr, he, p⟩ := t
  exact p.ok hr .nil
theorem sa_cons (ha : PE X e (tM X.K G W m)) (hb : PA X es (tL X.K G W (evs ms))) (hs : starEach (e :: es) X.env = (false, eval e X.env) :: starEach es X.env := by rfl) : PA X (e :: es) (tL X.K G W (evs (m :: ms))) := paImp (pa_cons ha hb hs) fun σ H Q t => by
  obtain ⟨ρ, h, env, hr, he, p⟩ := t
  refine tG_mono (tG_bind (rel := relV X.K) hr he p) fun x H1 ⟨ρ1, h1, d, e1, hr1, he1, r1, p1⟩ => ?_
  refine tG_mono (tG_bind (rel := relVs X.K) hr1 he1 p1) fun y H2 ⟨ρ2, h2, d2, e2, hr2, he2, r2, p2⟩ => ?_
  exact p2.ok hr2 (.cons (r1.mono e2) r2)
theorem evs_len : ∀ {ms : List M} {env : Ev} {h h' : Hh} {ds : List D}, evs ms env h = .ok ds h' → ds.length = ms.length
  | [], _, _, _, _, e => by cases e; rfl
  | m :: ms, env, h, h', ds, e => by
    unfold evs at e
    cases q : m env h with
    | ok d h1 =>
      rw [q] at e
      simp only [R.bind_ok] at e
      cases q2 : evs ms env h1 with
      | ok ds2 h2 =>
        rw [q2] at e
        cases e
        rw [List.length_cons, List.length_cons, evs_len q2]
      | exc c fs h2 => rw [q2] at e; cases e
      | bad => rw [q2] at e; cases e
    | exc c fs h1 => rw [q] at e; cases e
    | bad => rw [q] at e; cases e
theorem nary_imp {r : List V → Hp → VK → Prop} {f : List D → Hh → Option (D × Hh)} (i : ImpN X.K G r f) (σ : L2.St) (H : Hp) (Q : VK) (t : tM X.K G W (eN f ms) σ H Q) : tCB r (tL X.K G W (evs ms)) σ H Q := by
  obtain ⟨ρ, h, env, hr, he, p⟩ := t
  refine tG_mono (tG_bind (rel := relVs X.K) hr he p) fun x H1 ⟨ρ1, h1, d, e1, hr1, he1, r1, p1⟩ => ?_
  obtain ⟨d2, h2, eq, k⟩ := p1.opt
  exact i hr1 r1 eq k
theorem se_callB {r : List V → Hp → VK → Prop} {f : List D → Hh → Option (D × Hh)} (hc : CallR X (.builtin id) r) (i : ImpN X.K G r f) (hg : Gl X x) (hm : X.mg x = none) (hv : bootBuiltins x = some (.builtin id)) (ha : PA X (e :: es) (tL X.K G W (evs ms))) (hn : x ≠ "__name__" := by decide) (hdb : (x == ("__debug__" : Str)) = false := by decide)
    (he : starEach (e :: es) X.env = (false, eval e X.env) :: starEach es X.env := by rfl) (hpl : (backTo pos (starEach es X.env)).any (·.1) = false := by rfl) : PE X (.Call (.Name x p) (e :: es) [] pos) (tM X.K G W (eN f ms)) :=
  peImp (pe_callB hc hg hm hv ha hn hdb he hpl) fun σ H Q t => nary_imp i σ H Q t
theorem se_callTy {r : List V → Hp → VK → Prop} {f : List D → Hh → Option (D × Hh)} (hc : CallR X (.type T) r) (i : ImpN X.K G r f) (hg : Gl X x) (hm : X.mg x = none) (hv : bootBuiltins x = some (.type T)) (ha : PA X (e :: es) (tL X.K G W (evs ms))) (hn : x ≠ "__name__" := by decide) (hdb : (x == ("__debug__" : Str)) = false := by decide)
    (he : starEach (e :: es) X.env = (false, eval e X.env) :: starEach es X.env := by rfl) (hpl : (backTo pos (starEach es X.env)).any (·.1) = false := by rfl) : PE X (.Call (.Name x p) (e :: es) [] pos) (tM X.K G W (eN f ms)) :=
  peImp (pe_callTy hc hg hm hv ha hn hdb he hpl) fun σ H Q t => nary_imp i σ H Q t
theorem seq_len {t : TA} {L : List V → Hp → Prop} (hl : ms.length ≤ sizeLine) (hr : Rh K G ρ H h) (he : Re K ρ H σ env) {Q : VK} {f : List D → Hh → R D}
    (p : Po K G (relV K) W ρ H σ ((evs ms env h).bind f) Q) : tG K G (relVs K) W (evs ms) σ H fun vs H1 => vs.length ≤ sizeLine ∧ Thn K G (relVs K) (relV K) W σ env f Q ρ H vs H1 := by
  refine ⟨ρ, h, env, hr, he, ?_⟩
  cases q : evs ms env h with
  | ok ds h1 =>
    rw [q] at p
    intro ρ' H' vs e a b
    exact ⟨by rw [Rvs.length b, evs_len q]; exact hl, ρ', h1, ds, e, a, he.mono e, b, Po.shift p e⟩
  | exc c fs h1 => rw [q] at p; exact p
  | bad => rw [q] at p; exact p
theorem se_tup {x1} (ha : PA X es (tL X.K G W (evs ms))) (hl : ms.length ≤ sizeLine := by decide) : PE X (.Tuple es x1 pos) (tM X.K G W (eTup ms)) := peImp (pe_tup ha) fun σ H Q t => by
  obtain ⟨ρ, h, env, hr, he, p⟩ := t
  refine tG_mono (seq_len (t := tNil) (L := fun _ _ => True) hl hr he p) fun vs H1 ⟨l, ρ1, h1, d, e1, hr1, he1, r1, p1⟩ => ⟨l, ?_⟩
  exact new_tup hr1 r1 p1
theorem se_lst (ha : PA X es (tL X.K G W (evs ms))) (hl : ms.length ≤ sizeLine := by decide) : PE X (.List es pos) (tM X.K G W (eLst ms)) := peImp (pe_lst ha) fun σ H Q t => by
  obtain ⟨ρ, h, env, hr, he, p⟩ := t
  refine tG_mono (seq_len (t := tNil) (L := fun _ _ => True) hl hr he p) fun vs H1 ⟨l, ρ1, h1, d, e1, hr1, he1, r1, p1⟩ => ⟨l, ?_⟩
  exact new_lst hr1 r1 p1
end

/-! ### items, slices -/
def opIx : D → D → Hh → Option (D × Hh)
  | .tup ds, .int i, h => (atI ds i).map fun d => (d, h)
  | .str z, .int i, h => if z.length ≤ sizeLine then (atI z.cps.toList i).map fun c => (.str ⟨#[c]⟩, h) else none
  | .fls ds, .int i, h => (atI ds i).map fun d => (d, h)
  | .ref n, .int i, h => match h[n]? with
    | some (.lst ds) => (atI ds i).map fun d => (d, h)
    | _ => none
  | _, _, _ => none
def cutD (xs : List D) (lo hi : Option Int) : List D := (xs.drop (HT.sIx xs.length 0 lo)).take (HT.sIx xs.length xs.length hi - HT.sIx xs.length 0 lo)
/-- the part of a slice: left out, or an int -/
def evO : Option M → Ev → Hh → R (Option Int)
  | none, _, h => .ok none h
  | some m, env, h => (m env h).bind fun d h1 => match d with
    | .int i => .ok (some i) h1
    | _ => .bad
def opSl : D → Option Int → Option Int → Hh → Option (D × Hh)
  | .tup ds, lo, hi, h => some (.tup (cutD ds lo hi), h)
  | .str z, lo, hi, h => if z.length ≤ sizeLine then some (.str (cutS z lo hi), h) else none
  | .fls ds, lo, hi, h => some (.ref h.length, h ++ [.lst (cutD ds lo hi)])
  | .ref n, lo, hi, h => match h[n]? with
    | some (.lst ds) => some (.ref h.length, h ++ [.lst (cutD ds lo hi)])
    | _ => none
  | _, _, _, _ => none
def eSl (m : M) (lo hi : Option M) : M := fun env h => (m env h).bind fun d h1 => (evO lo env h1).bind fun l h2 => (evO hi env h2).bind fun u h3 => R.opt (opSl d l u h3)
def opRev : D → Hh → Option (D × Hh)
  | .fls ds, h => some (.ref h.length, h ++ [.lst ds.reverse])
  | .ref n, h => match h[n]? with
    | some (.lst ds) => some (.ref h.length, h ++ [.lst ds.reverse])
    | _ => none
  | _, _ => none
section
variable {X : Cx} {G : Cl} {W : WX} {e o a b c : Expr} {lo hi : Option Expr} {es rest : List Expr} {pos p p2 p1 p3 : Pos} {ma mb mc m mo : M} {ml mh : Option M} {ms : List M} {K : PySem.W.Frag} {ρ : List Addr} {H : Hp} {h : Hh} {σ : L2.St} {env : Ev} {x : Str} {id T : String}
theorem Rvs.atI {vs : List V} {ds : List D} (r : Rvs K ρ H vs ds) {i : Int} {d : D} (e : L2.atI ds i = some d) : ∃ v, L2.atI vs i = some v ∧ Rv K ρ H v d := by
  unfold L2.atI at e ⊢
  rw [r.length]
  cases q : ixN ds.length i with
  | none => rw [q] at e; cases e
  | some j =>
    rw [q] at e
    exact r.get e
theorem im_ix : Imp2 K G (rIx K) opIx := fun {ρ H h x y dx dy d h' Q} hr rx ry e k => by
  unfold opIx at e
  split at e
  · cases ry
    obtain ⟨a, vs, rfl, t, r⟩ := rx.sqT
    simp only [Option.map_eq_some_iff, Prod.mk.injEq] at e
    obtain ⟨d2, e, rfl, rfl⟩ := e
    obtain ⟨v, q, rv⟩ := r.atI e
    exact .inr (.inl ⟨a, vs, _, v, rfl, rfl, t, q, k _ _ _ Ex.refl hr rv⟩)
  · cases ry; cases rx
    split at e
    · simp only [Option.map_eq_some_iff, Prod.mk.injEq] at e
      obtain ⟨c, e, rfl, rfl⟩ := e
      exact .inr (.inr ⟨_, _, c, rfl, rfl, by assumption, e, k _ _ _ Ex.refl hr (.str _)⟩)
    · cases e
  · cases ry
    cases rx with
    | fls t r =>
      simp only [Option.map_eq_some_iff, Prod.mk.injEq] at e
      obtain ⟨d2, e9, rfl, rfl⟩ := e
      obtain ⟨v, q, rv⟩ := r.atI e9
      exact .inl ⟨_, _, _, v, rfl, rfl, t.sq, q, k _ _ _ Ex.refl hr rv⟩
  · cases ry
    cases rx with
    | ref ra =>
      split at e
      · rename_i e0
        simp only [Option.map_eq_some_iff, Prod.mk.injEq] at e
        obtain ⟨d2, e9, rfl, rfl⟩ := e
        obtain ⟨vs, q, r⟩ := ref_seq hr ra e0
        obtain ⟨v, q2, rv⟩ := r.atI e9
        exact .inl ⟨_, vs, _, v, rfl, rfl, q, q2, k _ _ _ Ex.refl hr rv⟩
      · cases e
  · cases e
theorem se_ix (ha : PE X a (tM X.K G W ma)) (hb : PE X b (tM X.K G W mb)) (hs : PlainIx b := by exact fun _ _ => rfl) : PE X (.Subscript a b pos) (tM X.K G W (eB opIx ma mb)) := peImp (pe_ix ix_seq ha hb hs) fun σ H Q t => bin_imp im_ix σ H Q t
abbrev relO : List Addr → Hp → Option Int → Option Int → Prop := fun _ _ b c => b = c
theorem so_none : PO X none (tG X.K G relO W (evO none)) := ⟨fun pins s σ H Q I t => by
  obtain ⟨ρ, h, env, hr, he, p⟩ := t
  exact po_none.run pins s σ H Q I (p.ok hr rfl)⟩
theorem so_some (ha : PE X e (tM X.K G W m)) : PO X (some e) (tG X.K G relO W (evO (some m))) := ⟨fun pins s σ H Q I t => by
  obtain ⟨ρ, h, env, hr, he, p⟩ := t
  refine (po_some ha).run pins s σ H Q I (tG_mono (tG_bind (rel := relV X.K) hr he p) fun x H1 ⟨ρ1, h1, d, e1, hr1, he1, r1, p1⟩ => ?_)
  cases d with
  | int i => cases r1; exact ⟨i, rfl, p1.ok hr1 rfl⟩
  | _ => exact p1.elim⟩
theorem Rvs.cut {vs : List V} {ds : List D} (r : Rvs K ρ H vs ds) (lo hi : Option Int) : Rvs K ρ H (cutV vs lo hi) (cutD ds lo hi) := by
  unfold cutV cutD
  rw [r.length]
  exact (r.drop _).take _
abbrev rSlAll (K : PySem.W.Frag) : V → Option Int → Option Int → Hp → VK → Prop := fun x lo hi H Q => rSlA K x lo hi H Q ∨ (rSlL K x lo hi H Q ∨ rSlS x lo hi H Q)
theorem whole_cut {ds : List D} {lo hi : Option Int} (h1 : HT.sIx ds.length 0 lo = 0) (h2 : HT.sIx ds.length ds.length hi = ds.length) : cutD ds lo hi = ds := by
  unfold cutD
  rw [h1, h2]
  simp
theorem im_sl {x : V} {d d2 : D} {lo hi : Option Int} {h' : Hh} {Q : VK} (hr : Rh K G ρ H h) (rx : Rv K ρ H x d) (e : opSl d lo hi h = some (d2, h')) (k : ∀ ρ' H' v, Ex K ρ H ρ' H' → Rh K G ρ' H' h' → Rv K ρ' H' v d2 → Q v H') : rSlAll K x lo hi H Q := by
  unfold opSl at e
  split at e
  · cases e
    obtain ⟨a, vs, rfl, t, r⟩ := rx.sqT
    refine .inl ⟨a, vs, rfl, t, fun ⟨z1, z2⟩ => ?_, fun _ => new_tup hr (r.cut lo hi) k⟩
    rw [r.length] at z1 z2
    rw [whole_cut z1 z2] at k
    exact k _ _ _ Ex.refl hr rx
  · split at e
    · cases e; cases rx
      exact .inr (.inr ⟨_, rfl, by assumption, k _ _ _ Ex.refl hr (.str _)⟩)
    · cases e
  · cases e
    cases rx with
    | fls t r => exact .inr (.inl ⟨_, _, rfl, t.sq, new_lst hr (r.cut _ _) k⟩)
  · cases rx with
    | ref ra =>
      split at e
      · rename_i ds e0
        cases e
        obtain ⟨vs, q, r⟩ := ref_seq hr ra e0
        exact .inr (.inl ⟨_, vs, rfl, q, new_lst hr (r.cut _ _) k⟩)
      · cases e
  · cases e
theorem se_sl (ha : PE X a (tM X.K G W m)) (hl : PO X lo (tG X.K G relO W (evO ml))) (hh : PO X hi (tG X.K G relO W (evO mh))) : PE X (.Subscript a (.Slice lo hi none p2) pos) (tM X.K G W (eSl m ml mh)) :=
  peImp (pe_slice (sl_tupA.or (sl_list.or sl_str)) ha hl hh) fun σ H Q t => by
    obtain ⟨ρ, h, env, hr, he, p⟩ := t
    refine tG_mono (tG_bind (rel := relV X.K) hr he p) fun x H1 ⟨ρ1, h1, d, e1, hr1, he1, r1, p1⟩ => ?_
    refine tG_mono (tG_bind (rel := relO) hr1 he1 p1) fun l H2 ⟨ρ2, h2, d2, e2, hr2, he2, r2, p2⟩ => ?_
    refine tG_mono (tG_bind (rel := relO) hr2 he2 p2) fun u H3 ⟨ρ3, h3, d3, e3, hr3, he3, r3, p3⟩ => ?_
    subst r2 r3
    obtain ⟨d4, h4, eq, k⟩ := p3.opt
    exact im_sl hr3 ((r1.mono e2).mono e3) eq k
theorem se_rev {k : Nat} (ha : PE X a (tM X.K G W m)) : PE X (.Subscript a (.Slice none none (some (.UnaryOp .USub (.Constant (.int 1) k p1) p2)) p3) pos) (tM X.K G W (eU opRev m)) := peImp (pe_revL ha) fun σ H Q t => by
  refine un_imp (r := fun x H1 Q => ∃ a xs, x = .ref a ∧ SqL X.K H1 a xs ∧ ∀ p, H1 p = none → Q (.ref p) (upd H1 p (.lst xs.reverse))) (fun {ρ H h x dx d h' Q} hr rx e k => ?_) σ H Q t
  unfold opRev at e
  split at e
  · cases e
    cases rx with
    | fls t r => exact ⟨_, _, rfl, t.sq, new_lst hr r.reverse k⟩
  · cases rx with
    | ref ra =>
      split at e
      · rename_i ds e0
        cases e
        obtain ⟨vs, q, r⟩ := ref_seq hr ra e0
        exact ⟨_, vs, rfl, q, new_lst hr r.reverse k⟩
      · cases e
  · cases e
end
end Sm
/-! SmD: statements, loops, defs and their calls. -/
namespace Sm
open PySem L2 PyProof.Rows

inductive SR where
  | nx (env : Ev) (h : Hh) | rt (d : D) (h : Hh) | bk (env : Ev) (h : Hh) | ct (env : Ev) (h : Hh) | exc (c : Nat) (fs : List D) (env : Ev) (h : Hh) | bad
abbrev S := Ev → Hh → SR
section
variable (K : PySem.W.Frag) (G : Cl)
def PoS (W : WX) (ρ : List Addr) (H : Hp) (D : Ends) (r : SR) : Prop := match r with
  | .nx env h => ∀ ρ' H' σ', Ex K ρ H ρ' H' → Rh K G ρ' H' h → Re K ρ' H' σ' env → D.nx σ' H'
  | .rt d h => ∀ ρ' H' v, Ex K ρ H ρ' H' → Rh K G ρ' H' h → Rv K ρ' H' v d → D.rt v H'
  | .bk env h => ∀ ρ' H' σ', Ex K ρ H ρ' H' → Rh K G ρ' H' h → Re K ρ' H' σ' env → D.bk σ' H'
  | .ct env h => ∀ ρ' H' σ', Ex K ρ H ρ' H' → Rh K G ρ' H' h → Re K ρ' H' σ' env → D.ct σ' H'
  | .exc c fs env h => ∀ ρ' H' σ' d, Ex K ρ H ρ' H' → Rh K G ρ' H' h → Re K ρ' H' σ' env → Rx K G ρ' H' d c fs → W (.ref (G.at_ c)) d σ' H'
  | .bad => False
def tS (W : WX) (s : S) : TS := fun D σ H => ∃ ρ h env, Rh K G ρ H h ∧ Re K ρ H σ env ∧ PoS K G W ρ H D (s env h)
end
def bindS {α : Type} (r : R α) (env : Ev) (f : α → Hh → SR) : SR := match r with
  | .ok a h => f a h
  | .exc c fs h => .exc c fs env h
  | .bad => .bad
@[simp] theorem bindS_ok {α : Type} (a : α) (h : Hh) (env : Ev) (f : α → Hh → SR) : bindS (.ok a h) env f = f a h := rfl
@[simp] theorem bindS_exc {α : Type} (c : Nat) (fs : List D) (h : Hh) (env : Ev) (f : α → Hh → SR) : bindS (.exc c fs h : R α) env f = .exc c fs env h := rfl
@[simp] theorem bindS_bad {α : Type} (env : Ev) (f : α → Hh → SR) : bindS (.bad : R α) env f = .bad := rfl

section
variable {K : PySem.W.Frag} {G : Cl} {α β : Type} {rel : List Addr → Hp → β → α → Prop} {W : WX} {ρ ρ1 : List Addr} {H H1 : Hp} {σ : L2.St} {h : Hh} {env : Ev} {D0 : Ends}
theorem PoS.shift {r : SR} (p : PoS K G W ρ H D0 r) (e : Ex K ρ H ρ1 H1) : PoS K G W ρ1 H1 D0 r := by
  cases r with
  | nx env h => exact fun ρ' H' v e' => p ρ' H' v (e.trans e')
  | rt d h => exact fun ρ' H' v e' => p ρ' H' v (e.trans e')
  | bk env h => exact fun ρ' H' v e' => p ρ' H' v (e.trans e')
  | ct env h => exact fun ρ' H' v e' => p ρ' H' v (e.trans e')
  | exc c fs env h => exact fun ρ' H' v d e' => p ρ' H' v d (e.trans e')
  | bad => exact p
def ThnS (K : PySem.W.Frag) (G : Cl) (rel : List Addr → Hp → β → α → Prop) (W : WX) (σ : L2.St) (env : Ev) (f : α → Hh → SR) (D0 : Ends) (ρ : List Addr) (H : Hp) (v : β) (H1 : Hp) : Prop :=
  ∃ ρ1 h1 d, Ex K ρ H ρ1 H1 ∧ Rh K G ρ1 H1 h1 ∧ Re K ρ1 H1 σ env ∧ rel ρ1 H1 v d ∧ PoS K G W ρ1 H1 D0 (f d h1)
theorem PoS.bind {r : R α} {f : α → Hh → SR} (he : Re K ρ H σ env) (p : PoS K G W ρ H D0 (bindS r env f)) : Po K G rel W ρ H σ r (ThnS K G rel W σ env f D0 ρ H) := by
  cases r with
  | ok d h' => exact fun ρ' H' v e a b => ⟨ρ', h', d, e, a, he.mono e, b, p.shift e⟩
  | exc c fs h' => exact fun ρ' H' d e a b => p ρ' H' σ d e a (he.mono e) b
  | bad => exact p
theorem tS_bind {m : Ev → Hh → R α} {f : α → Hh → SR} (hr : Rh K G ρ H h) (he : Re K ρ H σ env) (p : PoS K G W ρ H D0 (bindS (m env h) env f)) : tG K G rel W m σ H (ThnS K G rel W σ env f D0 ρ H) :=
  ⟨ρ, h, env, hr, he, p.bind he⟩
theorem PoS.nx_ {σ : L2.St} (p : PoS K G W ρ H D0 (.nx env h)) (hr : Rh K G ρ H h) (he : Re K ρ H σ env) : D0.nx σ H := p ρ H σ Ex.refl hr he
theorem PoS.rt_ {v : V} {d : D} (p : PoS K G W ρ H D0 (.rt d h)) (hr : Rh K G ρ H h) (r : Rv K ρ H v d) : D0.rt v H := p ρ H v Ex.refl hr r
end

/-! ### small statements -/
def sSkip : S := fun env h => .nx env h
def sSeq (a b : S) : S := fun env h => match a env h with
  | .nx env' h' => b env' h'
  | r => r
def sRet (m : M) : S := fun env h => bindS (m env h) env fun d h1 => .rt d h1
def sRetN : S := fun _ h => .rt .non h
def sExpr (m : M) : S := fun env h => bindS (m env h) env fun _ h1 => .nx env h1
def sSet (i : Nat) (m : M) : S := fun env h => bindS (m env h) env fun d h1 => .nx (env.set i (some d)) h1
def sIf (t : MT) (a b : S) : S := fun env h => bindS (t env h) env fun c h1 => if c = true then a env h1 else b env h1
def sBk : S := fun env h => .bk env h
def sCt : S := fun env h => .ct env h
def sNever : S := fun _ _ => .bad
def sAug (f : D → D → Hh → Option (D × Hh)) (i : Nat) (m : M) : S := fun env h => match env[i]? with
  | some (some x) => bindS (m env h) env fun y h1 => bindS (R.opt (f x y h1)) env fun z h2 => .nx (env.set i (some z)) h2
  | _ => .bad
section
variable {X : Cx} {G : Cl} {W : WX} {e a b c : Expr} {st : Stmt} {rest sa sb : List Stmt} {pos : Pos} {ma mb m : M} {s s1 s2 : S} {t : MT}
theorem ss_nil : PSs X [] (tS X.K G W sSkip) := pssImp pss_nil fun D0 σ H t => by
  obtain ⟨ρ, h, env, hr, he, p⟩ := t
  exact p.nx_ hr he
theorem seq_imp {t1 t2 : TS} (i1 : ∀ D σ H, tS X.K G W s1 D σ H → t1 D σ H) (i2 : ∀ D σ H, tS X.K G W s2 D σ H → t2 D σ H) (D0 : Ends) (σ : L2.St) (H : Hp) (t : tS X.K G W (sSeq s1 s2) D0 σ H) : tS X.K G W s1 { D0 with nx := fun σ H => tS X.K G W s2 D0 σ H } σ H := by
  obtain ⟨ρ, h, env, hr, he, p⟩ := t
  refine ⟨ρ, h, env, hr, he, ?_⟩
  unfold sSeq at p
  cases q : s1 env h with
  | nx env' h' =>
    rw [q] at p
    exact fun ρ' H' σ' e a b => ⟨ρ', h', env', a, b, PoS.shift p e⟩
  | rt d h' => rw [q] at p; exact p
  | bk env' h' => rw [q] at p; exact p
  | ct env' h' => rw [q] at p; exact p
  | exc c fs env' h' => rw [q] at p; exact p
  | bad => rw [q] at p; exact p
theorem ss_cons (h1 : PS X st (tS X.K G W s1)) (h2 : PSs X rest (tS X.K G W s2)) : PSs X (st :: rest) (tS X.K G W (sSeq s1 s2)) := pssImp (pss_cons h1 h2) fun D0 σ H t => seq_imp (fun _ _ _ z => z) (fun _ _ _ z => z) D0 σ H t
theorem ss_one (h1 : PS X st (tS X.K G W s1)) : PSs X [st] (tS X.K G W s1) := pss_one h1
theorem s_pass : PS X (.Pass pos) (tS X.K G W sSkip) := psImp ps_pass fun D0 σ H t => by
  obtain ⟨ρ, h, env, hr, he, p⟩ := t
  exact p.nx_ hr he
theorem s_break : PS X (.Break pos) (tS X.K G W sBk) := psImp ps_break fun D0 σ H t => by
  obtain ⟨ρ, h, env, hr, he, p⟩ := t
  exact p ρ H σ Ex.refl hr he
theorem s_continue : PS X (.Continue pos) (tS X.K G W sCt) := psImp ps_continue fun D0 σ H t => by
  obtain ⟨ρ, h, env, hr, he, p⟩ := t
  exact p ρ H σ Ex.refl hr he
theorem s_never : PS X st (tS X.K G W sNever) := psImp ps_never fun D0 σ H t => by
  obtain ⟨ρ, h, env, hr, he, p⟩ := t
  exact p
theorem s_ret (ha : PE X a (tM X.K G W m)) : PS X (.Return (some a) pos) (tS X.K G W (sRet m)) := psImp (ps_ret ha) fun D0 σ H t => by
  obtain ⟨ρ, h, env, hr, he, p⟩ := t
  refine tG_mono (tS_bind (rel := relV X.K) hr he p) fun x H1 ⟨ρ1, h1, d, e1, hr1, he1, r1, p1⟩ => ?_
  exact p1.rt_ hr1 r1
theorem s_retN : PS X (.Return none pos) (tS X.K G W sRetN) := psImp ps_retN fun D0 σ H t => by
  obtain ⟨ρ, h, env, hr, he, p⟩ := t
  exact p.rt_ hr .non
theorem s_expr (ha : PE X a (tM X.K G W m)) (hs : swapsWith a none pos.line X.env = pure false := by rfl) : PS X (.Expr a pos) (tS X.K G W (sExpr m)) := psImp (ps_expr ha hs) fun D0 σ H t => by
  obtain ⟨ρ, h, env, hr, he, p⟩ := t
  refine tG_mono (tS_bind (rel := relV X.K) hr he p) fun x H1 ⟨ρ1, h1, d, e1, hr1, he1, r1, p1⟩ => ?_
  exact p1.nx_ hr1 he1
theorem set_imp {i : Nat} (D0 : Ends) (σ : L2.St) (H : Hp) (t : tS X.K G W (sSet i m) D0 σ H) : tAsg (tM X.K G W m) (gName i) D0 σ H := by
  obtain ⟨ρ, h, env, hr, he, p⟩ := t
  refine tG_mono (tS_bind (rel := relV X.K) hr he p) fun x H1 ⟨ρ1, h1, d, e1, hr1, he1, r1, p1⟩ => ?_
  exact p1.nx_ hr1 (he1.set r1 i)
theorem s_set (i : Nat) {x : Str} {pos' : Pos} (hN : X.N.Nodup) (ha : PE X a (tM X.K G W m)) (hi : X.N[i]? = some x := by rfl) (hx : Loc X.env.scope x := by first | exact Or.inl rfl | exact Or.inr rfl) (hs : swapsWith a (some (.Name x pos')) pos.line X.env = pure false := by rfl)
    (hf : X.fn x = true ∨ X.env.scope.names.lookup x = some .local := by first | exact .inl rfl | exact .inr rfl) : PS X (.Assign [.Name x pos'] a pos) (tS X.K G W (sSet i m)) := psImp (ps_set hN hi hx ha hs hf) fun D0 σ H t => set_imp D0 σ H t
theorem s_if (hc : PT X c (tT X.K G W t)) (ha : PSs X sa (tS X.K G W s1)) (hb : PSs X sb (tS X.K G W s2)) : PS X (.If c sa sb pos) (tS X.K G W (sIf t s1 s2)) := psImp (ps_if hc ha hb) fun D0 σ H t => by
  obtain ⟨ρ, h, env, hr, he, p⟩ := t
  refine tG_mono (tS_bind (rel := relB) hr he p) fun x H1 ⟨ρ1, h1, d, e1, hr1, he1, r1, p1⟩ => ?_
  subst r1
  cases x with
  | true => exact ⟨ρ1, h1, env, hr1, he1, p1⟩
  | false => exact ⟨ρ1, h1, env, hr1, he1, p1⟩
theorem s_aug {op : Operator} {r : R2} {f : D → D → Hh → Option (D × Hh)} (i : Nat) {x : Str} {pos' : Pos} (hN : X.N.Nodup) (ho : OpR X (inplaceOp op) r) (im : Imp2 X.K G r f) (ha : PE X a (tM X.K G W m)) (hi : X.N[i]? = some x := by rfl) (hx : Loc X.env.scope x := by first | exact Or.inl rfl | exact Or.inr rfl)
    (hf : X.fn x = true ∨ X.env.scope.names.lookup x = some .local := by first | exact .inl rfl | exact .inr rfl) : PS X (.AugAssign (.Name x pos') op a pos) (tS X.K G W (sAug f i m)) := psImp (ps_aug (ti := r) hN hi hx ha ho hf) fun D0 σ H t => by
  obtain ⟨ρ, h, env, hr, he, p⟩ := t
  unfold sAug at p
  cases q : env[i]? with
  | none => rw [q] at p; exact p.elim
  | some o =>
    cases o with
    | none => rw [q] at p; exact p.elim
    | some d =>
      rw [q] at p
      obtain ⟨v, h1, h2⟩ := he.get i d q
      refine ⟨v, h1, tG_mono (tS_bind (rel := relV X.K) hr he p) fun y H1 ⟨ρ1, h1', d1, e1, hr1, he1, r1, p1⟩ => ?_⟩
      cases z : f d d1 h1' with
      | none => dsimp only at p1; rw [z] at p1; exact p1.elim
      | some zz =>
        obtain ⟨d2, h2'⟩ := zz
        dsimp only at p1
        rw [z] at p1
        exact im hr1 (h2.mono e1) r1 z fun ρ' H' v' e' a' b' => p1 ρ' H' _ e' a' ((he1.mono e').set b' i)
end

/-! ### a, b = .. -/
@[simp] def setAll : List Nat → List D → Ev → Ev
  | i :: is, d :: ds, env => setAll is ds (env.set i (some d))
  | _, _, env => env
/-- the parts of a tuple or a list -/
def partsOf : D → Hh → Option (List D)
  | .tup ds, _ => some ds
  | .fls ds, _ => some ds
  | .ref n, h => match h[n]? with
    | some (.lst ds) => some ds
    | _ => none
  | _, _ => none
/-- a target stores a value -/
abbrev TgM := D → Hh → Ev → Option Ev
def gtName (i : Nat) : TgM := fun d _ env => some (env.set i (some d))
def gtTup (is : List Nat) : TgM := fun d h env => match partsOf d h with
  | some ds => if ds.length = is.length then some (setAll is ds env) else none
  | none => none
def TgOk (K : PySem.W.Frag) (G : Cl) (g : TG) (s : TgM) : Prop := ∀ {ρ : List Addr} {H : Hp} {h : Hh} {σ : L2.St} {env env' : Ev} {v : V} {d : D} {Q : L2.St → Hp → Prop}, Rh K G ρ H h → Re K ρ H σ env → Rv K ρ H v d → s d h env = some env' → (∀ σ', Re K ρ H σ' env' → Q σ' H) → g v σ H Q
def sUnp (g : TgM) (m : M) : S := fun env h => bindS (m env h) env fun d h1 => match g d h1 env with
  | some env' => .nx env' h1
  | none => .bad
theorem PG.or {X : Cx} {tg : Expr} {t u : TG} (h1 : PG X tg t) (h2 : PG X tg u) : PG X tg (fun v σ H Q => t v σ H Q ∨ u v σ H Q) := ⟨fun pins s σ H v u Q I r q => by
  rcases q with q | q
  · exact h1.run pins s σ H v u Q I r q
  · exact h2.run pins s σ H v u Q I r q⟩
/-- the readings of names, one after another -/
def gNames : List Nat → TGs
  | [] => gNil
  | i :: is => gCons (gName i) (gNames is)
section
variable {X : Cx} {G : Cl} {W : WX} {e a b c tg : Expr} {es : List Expr} {st : Stmt} {pos : Pos} {m : M} {K : PySem.W.Frag}
theorem tg_name {i : Nat} : TgOk K G (gName i) (gtName i) := fun {ρ H h σ env env' v d Q} hr he r e k => by
  cases e
  exact k _ (he.set r i)
theorem names_imp {ρ : List Addr} {H : Hp} : ∀ {is : List Nat} {vs : List V} {ds : List D} {σ : L2.St} {env : Ev} {Q : L2.St → Hp → Prop}, ds.length = is.length → Re K ρ H σ env → Rvs K ρ H vs ds → (∀ σ', Re K ρ H σ' (setAll is ds env) → Q σ' H) → gNames is vs σ H Q
  | [], _, [], σ, env, Q, _, he, .nil, k => ⟨rfl, k σ he⟩
  | i :: is, _, d :: ds, σ, env, Q, l, he, .cons (v := v) (vs := vs) r rs, k => ⟨v, vs, rfl, names_imp (is := is) (by simpa using l) (he.set r i) rs k⟩
theorem tg_tup {is : List Nat} {n : Nat} (hn : n = is.length) : TgOk K G (fun v σ H Q => gTup K n (gNames is) v σ H Q ∨ gLst K n (gNames is) v σ H Q) (gtTup is) := fun {ρ H h σ env env' v d Q} hr he r e k => by
  unfold gtTup at e
  split at e
  · rename_i ds e1
    split at e
    · rename_i hl
      cases e
      unfold partsOf at e1
      split at e1
      · cases e1
        obtain ⟨a, vs, rfl, t, r⟩ := r.sqT
        exact .inl ⟨a, vs, rfl, t, by rw [r.length, hl, hn], names_imp hl he r k⟩
      · cases e1
        cases r with
        | fls t r => exact .inr ⟨_, _, rfl, t.sq, by rw [r.length, hl, hn], names_imp hl he r k⟩
      · cases r with
        | ref ra =>
          split at e1
          · rename_i e0
            cases e1
            obtain ⟨vs, q, r⟩ := ref_seq hr ra e0
            exact .inr ⟨_, vs, rfl, q, by rw [r.length, hl, hn], names_imp hl he r k⟩
          · cases e1
      · cases e1
    · cases e
  · cases e
theorem pgn_nil : PGs X [] (gNames []) := pgs_nil
theorem pgn_cons {i : Nat} {is : List Nat} {x : Str} {p : Pos} (hN : X.N.Nodup) (h2 : PGs X es (gNames is)) (hi : X.N[i]? = some x := by rfl) (hx : Loc X.env.scope x := by first | exact Or.inl rfl | exact Or.inr rfl) (hf : X.fn x = true ∨ X.env.scope.names.lookup x = some .local := by first | exact .inl rfl | exact .inr rfl)
    (hs : (assignEach (.Name x p :: es) X.env).map (·.2) = assign (.Name x p) X.env :: (assignEach es X.env).map (·.2) := by rfl) : PGs X (.Name x p :: es) (gNames (i :: is)) := pgs_cons (pg_name hN hi hx hf) h2 hs
theorem pgn_tup {is : List Nat} {k : Nat} (hc : X.calm = true) (h : PGs X es (gNames is)) (hn : (assignEach es X.env).length = is.length := by rfl) (hst : (assignEach es X.env).findIdx? (·.1) = none := by rfl) :
    PG X (.Tuple es k pos) (fun v σ H Q => gTup X.K is.length (gNames is) v σ H Q ∨ gLst X.K is.length (gNames is) v σ H Q) := PG.or (pg_tup hc h hn hst) (pg_lst hc h hn hst)
theorem s_unp {g : TG} {s : TgM} (ha : PE X a (tM X.K G W m)) (hg : PG X tg g) (ok : TgOk X.K G g s) (hs : swapsWithSole [tg] a pos.line X.env = pure false := by rfl) (hw : swappedStores [tg] a X.env = pure none := by rfl)
    (h1 : (assignEach [tg] X.env).map (·.2) = [assign tg X.env] := by rfl) : PS X (.Assign [tg] a pos) (tS X.K G W (sUnp s m)) := psImp (ps_asg ha hg hs hw h1) fun D0 σ H t => by
  obtain ⟨ρ, h, env, hr, he, p⟩ := t
  refine tG_mono (tS_bind (rel := relV X.K) hr he p) fun x H1 ⟨ρ1, h1, d, e1, hr1, he1, r1, p1⟩ => ?_
  dsimp only at p1
  cases q : s d h1 env with
  | none => rw [q] at p1; exact p1.elim
  | some env' =>
    rw [q] at p1
    exact ok hr1 he1 r1 q fun σ' he' => p1.nx_ hr1 he'
end

/-! ### for -/
/-- what a loop walks: its items, and the object that must stand still meanwhile -/
abbrev Src := List D × Option (Nat × O)
@[simp] def gdOk (gd : Option (Nat × O)) (h : Hh) : Prop := match gd with
  | none => True
  | some (n, o) => h[n]? = some o
open Classical in
noncomputable def forL (g : TgM) (body : S) (gd : Option (Nat × O)) : List D → Ev → Hh → SR
  | [], env, h => if gdOk gd h then .nx env h else .bad
  | x :: xs, env, h => if gdOk gd h then (match g x h env with
    | none => .bad
    | some env1 => match body env1 h with
      | .nx e' h' => forL g body gd xs e' h'
      | .ct e' h' => forL g body gd xs e' h'
      | .bk e' h' => .nx e' h'
      | r => r) else .bad
noncomputable def sFor (mi : Ev → Hh → R Src) (g : TgM) (body : S) : S := fun env h => bindS (mi env h) env fun src h1 => forL g body src.2 src.1 env h1
/-- what an iterator must do for its items -/
structure Walks (K : PySem.W.Frag) (G : Cl) (ρ0 : List Addr) (H0 : Hp) (J : It) (xs : List D) (gd : Option (Nat × O)) : Prop where
  go : ∀ (i : Nat) (ρ : List Addr) (H : Hp) (h : Hh), Rh K G ρ H h → Ex K ρ0 H0 ρ H → gdOk gd h → i < xs.length → J.go i H
  yld : ∀ (i : Nat) (ρ : List Addr) (H : Hp) (h : Hh) (x : V) (H' : Hp), Rh K G ρ H h → Ex K ρ0 H0 ρ H → gdOk gd h → J.yld i H x H' → ∀ d, xs[i]? = some d → H' = H ∧ Rv K ρ H x d
  stop : ∀ (ρ : List Addr) (H : Hp) (h : Hh), Rh K G ρ H h → Ex K ρ0 H0 ρ H → gdOk gd h → J.stop xs.length H
/-- an iterable's reading and its items -/
def ItOk (K : PySem.W.Frag) (G : Cl) (W : WX) (wi : TI) (mi : Ev → Hh → R Src) : Prop := ∀ (σ : L2.St) (H : Hp) (R : It → Hp → Prop),
  tG K G (fun ρ H (J : It) (s : Src) => Walks K G ρ H J s.1 s.2) W mi σ H R → wi σ H R
section
variable {X : Cx} {G : Cl} {W : WX} {e a b c tg iter : Expr} {es : List Expr} {st : Stmt} {body : List Stmt} {pos : Pos} {m : M} {K : PySem.W.Frag} {ρ : List Addr} {H : Hp} {h : Hh} {σ : L2.St} {env : Ev} {D0 : Ends}
theorem for_sound {J : It} {xs : List D} {gd : Option (Nat × O)} {g : TG} {s : TgM} {sb : S} (w : Walks K G ρ H J xs gd) (ok : TgOk K G g s) (hr : Rh K G ρ H h) (he : Re K ρ H σ env) (p : PoS K G W ρ H D0 (forL s sb gd xs env h)) :
    ∃ W' : Nat → Nat → L2.St → Hp → Prop, (∃ m, W' 0 m σ H) ∧ ∀ i m σ H, W' i m σ H →
      (J.stop i H ∧ D0.nx σ H) ∨ (J.go i H ∧ ∃ N : L2.St → Hp → Prop, (∀ σ' H', N σ' H' → ∃ m', m' < m ∧ W' (i + 1) m' σ' H') ∧ ∀ x H', J.yld i H x H' → g x σ H' fun σ2 H2 => tS K G W sb { D0 with nx := N, ct := N, bk := D0.nx } σ2 H2) := by
  refine ⟨fun i m σ' H' => i ≤ xs.length ∧ m = xs.length - i ∧ ∃ ρ' h' env', Ex K ρ H ρ' H' ∧ Rh K G ρ' H' h' ∧ Re K ρ' H' σ' env' ∧ PoS K G W ρ' H' D0 (forL s sb gd (xs.drop i) env' h'), ⟨_, Nat.zero_le _, rfl, ρ, h, env, Ex.refl, hr, he, p⟩, ?_⟩
  rintro i m σ1 H1 ⟨hi, rfl, ρ1, h1, env1, e1, hr1, he1, p1⟩
  by_cases hlt : i < xs.length
  · rw [List.drop_eq_getElem_cons hlt] at p1
    unfold forL at p1
    split at p1
    · rename_i hg
      refine .inr ⟨w.go i ρ1 H1 h1 hr1 e1 hg hlt, fun σ' H' => ∃ ρ' h' env', Ex K ρ1 H1 ρ' H' ∧ Rh K G ρ' H' h' ∧ Re K ρ' H' σ' env' ∧ PoS K G W ρ' H' D0 (forL s sb gd (xs.drop (i + 1)) env' h'), fun σ' H' ⟨ρ', h', env', e', hr', he', p'⟩ => ⟨_, by omega, hlt, rfl, ρ', h', env', e1.trans e', hr', he', p'⟩, fun x H' y => ?_⟩
      obtain ⟨rfl, rx⟩ := w.yld i ρ1 H1 h1 x H' hr1 e1 hg y xs[i] (by simp [hlt])
      split at p1
      · exact p1.elim
      · rename_i env2 q2
        refine ok hr1 he1 rx q2 fun σ2 he2 => ⟨ρ1, h1, env2, hr1, he2, ?_⟩
        cases q : sb env2 h1 with
        | nx e' h' => rw [q] at p1; exact fun ρ' H' σ' e a b => ⟨ρ', h', e', e, a, b, PoS.shift p1 e⟩
        | ct e' h' => rw [q] at p1; exact fun ρ' H' σ' e a b => ⟨ρ', h', e', e, a, b, PoS.shift p1 e⟩
        | bk e' h' => rw [q] at p1; exact p1
        | rt d h' => rw [q] at p1; exact p1
        | exc c fs e' h' => rw [q] at p1; exact p1
        | bad => rw [q] at p1; exact p1
    · exact p1.elim
  · have hl : i = xs.length := by omega
    subst hl
    rw [List.drop_length] at p1
    unfold forL at p1
    split at p1
    · rename_i hg
      exact .inl ⟨w.stop ρ1 H1 h1 hr1 e1 hg, p1.nx_ hr1 he1⟩
    · exact p1.elim
theorem s_for {wi : TI} {mi : Ev → Hh → R Src} {g : TG} {s : TgM} {sb : S} (hp : PassesOwn (model X.prog X.w) X.A X.env X.xe) (hc : X.calm = true) (hi : PI X tg iter wi) (oi : ItOk X.K G W wi mi) (hg : PG X tg g) (ok : TgOk X.K G g s) (hb : PSs X body (tS X.K G W sb))
    (hs : ∀ x, foldedSetIterable iter X.env x = pure x := by intro _; rfl) : PS X (.For tg iter body [] pos) (tS X.K G W (sFor mi s sb)) := psImp (ps_for hp hc hi hg hb hs) fun D0 σ H t => by
  obtain ⟨ρ, h, env, hr, he, p⟩ := t
  refine oi σ H _ (tG_mono (tS_bind hr he p) fun J H1 ⟨ρ1, h1, d, e1, hr1, he1, r1, p1⟩ => ?_)
  exact for_sound r1 ok hr1 he1 p1
theorem PI.or {wi wj : TI} (h1 : PI X tg iter wi) (h2 : PI X tg iter wj) : PI X tg iter (fun σ H R => wi σ H R ∨ wj σ H R) := ⟨fun pins s σ H R I q => by
  rcases q with q | q
  · exact h1.run pins s σ H R I q
  · exact h2.run pins s σ H R I q⟩
/-- a tuple or a list as it stands -/
def mSeq (m : M) : Ev → Hh → R Src := fun env h => (m env h).bind fun d h1 => match d with
  | .tup ds => .ok (ds, none) h1
  | .fls ds => .ok (ds, none) h1
  | .ref n => match h1[n]? with
    | some (.lst ds) => .ok (ds, some (n, .lst ds)) h1
    | _ => .bad
  | _ => .bad
theorem walks_tup {a : Addr} {ds : List D} (r : Rv K ρ H (.ref a) (.tup ds)) : Walks K G ρ H (Itt K a) ds none := by
  have get : ∀ {ρ' : List Addr} {H' : Hp}, Ex K ρ H ρ' H' → ∃ vs, SqT K H' a vs ∧ Rvs K ρ' H' vs ds := fun {ρ' H'} e => by
    obtain ⟨a', vs, e1, t, q⟩ := (r.mono e).sqT
    cases e1
    exact ⟨vs, t, q⟩
  refine ⟨fun i ρ' H' h' hr e _ hl => ?_, fun i ρ' H' h' x H2 hr e _ y d hd => ?_, fun ρ' H' h' hr e _ => ?_⟩
  · obtain ⟨vs, t, q⟩ := get e
    have hv : i < vs.length := by rw [q.length]; exact hl
    exact ⟨vs, vs[i], t, by simp [hv]⟩
  · obtain ⟨vs, t, q⟩ := get e
    obtain ⟨rfl, y⟩ := y
    have hx := y vs t
    obtain ⟨d', hd', rv⟩ := q.getV hx
    rw [hd] at hd'
    cases hd'
    exact ⟨rfl, rv⟩
  · obtain ⟨vs, t, q⟩ := get e
    exact ⟨vs, t, by rw [q.length]; exact Nat.le_refl _⟩
theorem walks_get {a : Addr} {ds : List D} {gd : Option (Nat × O)} (get : ∀ {ρ' : List Addr} {H' : Hp} {h' : Hh}, Rh K G ρ' H' h' → Ex K ρ H ρ' H' → gdOk gd h' → ∃ vs, SqL K H' a vs ∧ Rvs K ρ' H' vs ds) : Walks K G ρ H (Itl K a) ds gd := by
  refine ⟨fun i ρ' H' h' hr e g hl => ?_, fun i ρ' H' h' x H2 hr e g y d hd => ?_, fun ρ' H' h' hr e g => ?_⟩
  · obtain ⟨vs, t, q⟩ := get hr e g
    have hv : i < vs.length := by rw [q.length]; exact hl
    exact ⟨vs, vs[i], t, by simp [hv]⟩
  · obtain ⟨vs, t, q⟩ := get hr e g
    obtain ⟨rfl, y⟩ := y
    have hx := y vs t
    obtain ⟨d', hd', rv⟩ := q.getV hx
    rw [hd] at hd'
    cases hd'
    exact ⟨rfl, rv⟩
  · obtain ⟨vs, t, q⟩ := get hr e g
    exact ⟨vs, t, by rw [q.length]; exact Nat.le_refl _⟩
theorem walks_lst {a : Addr} {n : Nat} {ds : List D} (ra : ρ[n]? = some a) : Walks K G ρ H (Itl K a) ds (some (n, .lst ds)) :=
  walks_get fun {ρ' H' h'} hr e g => ref_seq hr (e.pre _ _ ra) g
theorem walks_fls {a : Addr} {ds : List D} (r : Rv K ρ H (.ref a) (.fls ds)) : Walks K G ρ H (Itl K a) ds none :=
  walks_get fun {ρ' H' h'} hr e g => by
    cases r.mono e with
    | fls t r => exact ⟨_, t.sq, r⟩
theorem io_seq : ItOk K G W (fun σ H R => iTup K (tM K G W m) σ H R ∨ iList K (tM K G W m) σ H R) (mSeq m) := fun σ H R0 t => by
  obtain ⟨ρ, h, env, hr, he, p⟩ := t
  unfold mSeq at p
  cases q : m env h with
  | bad => rw [q] at p; exact p.elim
  | exc c fs h' => rw [q] at p; exact .inl ⟨ρ, h, env, hr, he, by rw [q]; exact p⟩
  | ok d h1 =>
    rw [q] at p
    simp only [R.bind_ok] at p
    cases d with
    | tup ds =>
      refine .inl ⟨ρ, h, env, hr, he, ?_⟩
      rw [q]
      intro ρ' H' v e a r
      obtain ⟨x, vs, rfl, t, rs⟩ := r.sqT
      exact ⟨x, rfl, ⟨vs, t⟩, p ρ' H' _ e a (walks_tup r)⟩
    | fls ds =>
      refine .inr ⟨ρ, h, env, hr, he, ?_⟩
      rw [q]
      intro ρ' H' v e a r
      have w := r
      cases r with
      | fls t rs => exact ⟨_, rfl, ⟨_, t.sq⟩, p ρ' H' _ e a (walks_fls w)⟩
    | ref n =>
      dsimp only at p
      split at p
      · rename_i ds e0
        refine .inr ⟨ρ, h, env, hr, he, ?_⟩
        rw [q]
        intro ρ' H' v e a r
        cases r with
        | ref ra =>
          obtain ⟨vs, t, _⟩ := ref_seq a ra e0
          exact ⟨_, rfl, ⟨vs, t⟩, p ρ' H' _ e a (walks_lst ra)⟩
      · exact p.elim
    | _ => exact p.elim
theorem pi_seq (ha : PE X iter (tM X.K G W m)) : PI X tg iter (fun σ H R => iTup X.K (tM X.K G W m) σ H R ∨ iList X.K (tM X.K G W m) σ H R) := PI.or (pi_tup ha) (pi_list ha)
/-- range -/
def rngD (lo : Int) (n : Nat) : List D := (List.range n).map fun (i : Nat) => D.int (lo + (i : Int))
def inR (i : Int) : Bool := Nat.ble i.natAbs 4611686018427387903
def mRng1 (m : M) : Ev → Hh → R Src := fun env h => (m env h).bind fun d h1 => match d with
  | .int j => if inR j = true then .ok (rngD 0 j.toNat, none) h1 else .bad
  | _ => .bad
def mRng2 (ma mb : M) : Ev → Hh → R Src := fun env h => (ma env h).bind fun d h1 => (mb env h1).bind fun e h2 => match d, e with
  | .int i, .int j => if inR i = true ∧ inR j = true then .ok (rngD i (j - i).toNat, none) h2 else .bad
  | _, _ => .bad
theorem walks_rng {lo : Int} {n : Nat} : Walks K G ρ H (Itr lo n) (rngD lo n) none := by
  have hl : (rngD lo n).length = n := by unfold rngD; simp
  refine ⟨fun i ρ' H' h' hr e _ hi => by rw [hl] at hi; exact hi, fun i ρ' H' h' x H2 hr e _ y d hd => ?_, fun ρ' H' h' hr e _ => by rw [hl]; exact Nat.le_refl _⟩
  obtain ⟨rfl, rfl⟩ := y
  unfold rngD at hd
  rw [List.getElem?_map] at hd
  cases q : (List.range n)[i]? with
  | none => rw [q] at hd; cases hd
  | some j =>
    rw [q] at hd
    cases hd
    obtain ⟨h1, h2⟩ := List.getElem?_eq_some_iff.mp q
    simp at h2
    subst h2
    exact ⟨rfl, .int _⟩
theorem inR_of {i : Int} (e : inR i = true) : -(2 ^ 62) ≤ i ∧ i < 2 ^ 62 := by
  have h := Nat.le_of_ble_eq_true e
  omega
theorem io_rng1 : ItOk K G W (iRng1 (tL K G W (evs [m]))) (mRng1 m) := fun σ H R0 t => by
  obtain ⟨ρ, h, env, hr, he, p⟩ := t
  refine ⟨ρ, h, env, hr, he, ?_⟩
  unfold mRng1 at p
  show Po K G _ W ρ H σ ((m env h).bind fun d h1 => (evs [] env h1).bind fun ds h2 => .ok (d :: ds) h2) _
  cases q : m env h with
  | bad => rw [q] at p; exact p.elim
  | exc c fs h' => rw [q] at p; exact p
  | ok d h1 =>
    rw [q] at p
    cases d with
    | int j =>
      simp only [R.bind_ok] at p
      split at p
      · rename_i hj
        intro ρ' H' vs e a b
        cases b with
        | cons b1 b2 =>
          cases b1; cases b2
          exact ⟨j, rfl, (inR_of hj).1, (inR_of hj).2, p ρ' H' _ e a walks_rng⟩
      · exact p.elim
    | _ => exact p.elim
theorem io_rng2 {ma mb : M} : ItOk K G W (iRng2 (tL K G W (evs [ma, mb]))) (mRng2 ma mb) := fun σ H R0 t => by
  obtain ⟨ρ, h, env, hr, he, p⟩ := t
  refine ⟨ρ, h, env, hr, he, ?_⟩
  unfold mRng2 at p
  show Po K G _ W ρ H σ ((ma env h).bind fun d h1 => ((mb env h1).bind fun d2 h2 => (evs [] env h2).bind fun ds h3 => .ok (d2 :: ds) h3).bind fun ds h2 => .ok (d :: ds) h2) _
  cases q : ma env h with
  | bad => rw [q] at p; exact p.elim
  | exc c fs h' => rw [q] at p; exact p
  | ok d h1 =>
    rw [q] at p
    simp only [R.bind_ok] at p ⊢
    cases q2 : mb env h1 with
    | bad => rw [q2] at p; exact p.elim
    | exc c fs h' => rw [q2] at p; exact p
    | ok d2 h2 =>
      rw [q2] at p
      simp only [R.bind_ok] at p ⊢
      split at p
      · rename_i i j
        split at p
        · rename_i hj
          intro ρ' H' vs e a b
          cases b with
          | cons b1 b2 =>
            cases b2 with
            | cons b2 b3 =>
              cases b1; cases b2; cases b3
              exact ⟨i, j, rfl, ⟨(inR_of hj.1).1, (inR_of hj.1).2, (inR_of hj.2).1, (inR_of hj.2).2⟩, p ρ' H' _ e a walks_rng⟩
        · exact p.elim
      · exact p.elim
end

/-! ### while -/
def whileF (t : MT) (body : S) : Nat → Ev → Hh → SR
  | 0, _, _ => .bad
  | n + 1, env, h => bindS (t env h) env fun c h1 => if c = true then (match body env h1 with
    | .nx e' h' => whileF t body n e' h'
    | .ct e' h' => whileF t body n e' h'
    | .bk e' h' => .nx e' h'
    | r => r) else .nx env h1
def sWhile (fuel : Nat) (t : MT) (body : S) : S := fun env h => whileF t body fuel env h
theorem s_while {X : Cx} {G : Cl} {W : WX} {c : Expr} {body : List Stmt} {pos : Pos} {t : MT} {sb : S} (fuel : Nat) (hp : PassesOwn (model X.prog X.w) X.A X.env X.xe) (hc : PT X c (tT X.K G W t)) (hb : PSs X body (tS X.K G W sb)) : PS X (.While c body [] pos) (tS X.K G W (sWhile fuel t sb)) := psImp (ps_while hp hc hb) fun D0 σ H q => by
  obtain ⟨ρ, h, env, hr, he, p⟩ := q
  refine ⟨fun m σ' H' => ∃ ρ' h' env', Rh X.K G ρ' H' h' ∧ Re X.K ρ' H' σ' env' ∧ PoS X.K G W ρ' H' D0 (whileF t sb m env' h'), ⟨fuel, ρ, h, env, hr, he, p⟩, ?_⟩
  rintro m σ1 H1 ⟨ρ1, h1, env1, hr1, he1, p1⟩
  cases m with
  | zero => exact p1.elim
  | succ m =>
    unfold whileF at p1
    refine tG_mono (tS_bind (rel := relB) hr1 he1 p1) fun b H2 ⟨ρ2, h2, d, e2, hr2, he2, r2, p2⟩ => ?_
    subst r2
    cases b with
    | true =>
      refine ⟨fun σ' H' => ∃ ρ' h' env', Rh X.K G ρ' H' h' ∧ Re X.K ρ' H' σ' env' ∧ PoS X.K G W ρ' H' D0 (whileF t sb m env' h'), fun σ' H' w => ⟨m, Nat.lt_succ_self _, w⟩, ⟨ρ2, h2, env1, hr2, he2, ?_⟩⟩
      simp only [if_true] at p2
      cases q : sb env1 h2 with
      | nx e' h' => rw [q] at p2; exact fun ρ' H' σ' e a b => ⟨ρ', h', e', a, b, PoS.shift p2 e⟩
      | ct e' h' => rw [q] at p2; exact fun ρ' H' σ' e a b => ⟨ρ', h', e', a, b, PoS.shift p2 e⟩
      | bk e' h' => rw [q] at p2; exact p2
      | rt d h' => rw [q] at p2; exact p2
      | exc c fs e' h' => rw [q] at p2; exact p2
      | bad => rw [q] at p2; exact p2
    | false => exact p2.nx_ hr2 he2

/-! ### defs -/
abbrev Fm := List D → Hh → R D
def fnM (n : Nat) (body : S) : Fm := fun ds h => match body (ds.map some ++ List.replicate (n - ds.length) none) h with
  | .nx _ h' => .ok .non h'
  | .rt d h' => .ok d h'
  | .exc c fs _ h' => .exc c fs h'
  | _ => .bad
def spM (K : PySem.W.Frag) (G : Cl) (n : Nat) (f : Fm) : Sp := fun vs H Q E => ∃ ρ h ds, Rh K G ρ H h ∧ Rvs K ρ H vs ds ∧ vs.length = n ∧ Po K G (relV K) (fun c d _ H => E c d H) ρ H [] (f ds h) Q
/-- what the rules ask of the place where a body runs -/
structure Ct (X : Cx) (W : WX) (k : Nat) : Prop where
  tk : Takes X W
  po : PassesOwn (model X.prog X.w) X.A X.env X.xe
  hr : Room k X.A
  hc : X.calm = true
  nd : X.N.Nodup
theorem Ct.hu {X : Cx} {W : WX} {k : Nat} (c : Ct X W k) : X.A.units + 64 < cLine := c.hr.units
theorem Ct.hu1 {X : Cx} {W : WX} {k : Nat} (c : Ct X W k) : X.A.units + 1 < cLine := hu_of c.hr
/-- a def of the text, as its callers know it -/
def Ok (P : Program) (w : World) (K : PySem.W.Frag) (mg : Str → Option Value) (base : Heap) (G : Cl) (j : Nat) (x : Str) (ps : List Str) (fm : Fm) : Prop :=
  ∃ f fd, mg x = some (.ref f) ∧ PySem.W.keepIn K (.ref f) = true ∧ Binds K fd ps [] ∧ FnOk P w K mg base (L2.CX P w) j f fd ps (spM K G ps.length fm)
def eCall (fm : Fm) (ms : List M) : M := fun env h => (evs ms env h).bind fun ds h1 => fm ds h1
section
variable {P : Program} {w : World} {K : PySem.W.Frag} {mg : Str → Option Value} {base : Heap} {G : Cl}
theorem start_re {ρ : List Addr} {H : Hp} {vs : List V} {ds : List D} {N : List Str} (r : Rvs K ρ H vs ds) : Re K ρ H (L2.start N vs) (ds.map some ++ List.replicate (N.length - ds.length) none) := by
  have hl := r.length
  refine ⟨by unfold L2.start; simp [hl], fun i d e => ?_⟩
  by_cases q : i < ds.length
  · rw [List.getElem?_append_left (by simpa using q), List.getElem?_map] at e
    cases z : ds[i]? with
    | none => rw [z] at e; cases e
    | some d' =>
      rw [z] at e
      cases e
      obtain ⟨v, h1, h2⟩ := r.get z
      refine ⟨v, ?_, h2⟩
      unfold L2.start
      rw [List.getElem?_append_left (by simp; omega), List.getElem?_map, h1]
      rfl
  · rw [List.getElem?_append_right (by simp; omega)] at e
    rw [List.getElem?_replicate] at e
    split at e <;> cases e
theorem fn_ok {x qual : Str} {st : Stmt} {f : Addr} {fd : FuncData} {N ps : List Str} {k n np : Nat} {body : S} (hn : N.length = n) (hp : ps.length = np) (F : Fun K x qual st f fd) (S : FnScope N ps (defScope st))
    (hb : ∀ (cdv : Value) (A : Around) (outer : List Env) (s : Shared) (H : Hp) (E : XK), Ct (cxOf (L2.CX P w) P w K mg base N qual (defScope st) f cdv A outer s H E) (fun c d _ H => E c d H) k →
      PSs (cxOf (L2.CX P w) P w K mg base N qual (defScope st) f cdv A outer s H E) (defBody st) (tS K G (fun c d _ H => E c d H) body)) : FnOk P w K mg base (L2.CX P w) (k + 1) f fd ps (spM K G np (fnM n body)) := by
  subst hn hp
  refine F.okX S (fun vs H Q E ⟨_, _, _, _, _, l, _⟩ => l) fun cdv A outer s H vs Q E hr ⟨ρ, h, ds, rh, rs, l, p⟩ => ?_
  refine ⟨_, hb cdv A outer s H E ⟨takes_of rfl rfl rfl rfl, passes_of rfl, hr, rfl, S.nd⟩, ρ, h, _, rh, start_re rs, ?_⟩
  unfold fnM at p
  cases q : body (ds.map some ++ List.replicate (N.length - ds.length) none) h with
  | nx env h' => rw [q] at p; exact fun ρ' H' σ' e a b => p ρ' H' .non e a .non
  | rt d h' => rw [q] at p; exact p
  | exc c fs env h' => rw [q] at p; exact fun ρ' H' σ' d e a b z => p ρ' H' d e a z
  | bk env h' => rw [q] at p; exact p.elim
  | ct env h' => rw [q] at p; exact p.elim
  | bad => rw [q] at p; exact p.elim
end
section
variable {X : Cx} {G : Cl} {W : WX} {e a b c : Expr} {es : List Expr} {pos p : Pos} {ms : List M} {k j : Nat} {x : Str} {ps : List Str} {fm : Fm}
theorem se_call (ct : Ct X W k) (F : Ok X.prog X.w X.K X.mg X.base G j x ps fm) (hj : j ≤ k) (hg : Gl X x) (ha : PA X (e :: es) (tL X.K G W (evs ms))) (hl : ms.length = ps.length := by rfl) (hdb : (x == ("__debug__" : Str)) = false := by decide)
    (he : starEach (e :: es) X.env = (false, eval e X.env) :: starEach es X.env := by rfl) (hpl : (backTo pos (starEach es X.env)).any (·.1) = false := by rfl) : PE X (.Call (.Name x p) (e :: es) [] pos) (tM X.K G W (eCall fm ms)) := by
  obtain ⟨f, fd, hm, hk, hb, F⟩ := F
  refine peImp (pe_callS F (ct.hr.mono hj) hg hm hk hb (fun σ => passAt ct.tk σ) ha hdb he hpl) fun σ H Q t => ?_
  obtain ⟨ρ, h, env, hr, he, p⟩ := t
  refine ⟨ρ, h, env, hr, he, ?_⟩
  unfold eCall at p
  cases q : evs ms env h with
  | bad => rw [q] at p; exact p
  | exc c fs h' => rw [q] at p; exact p
  | ok ds h1 =>
    rw [q] at p
    simp only [R.bind_ok] at p
    intro ρ' H' vs e1 a1 b1
    refine ⟨ρ', h1, ds, a1, b1, by rw [b1.length, evs_len q, hl], ?_⟩
    have p' := p.shift e1
    cases q2 : fm ds h1 with
    | bad => rw [q2] at p'; exact p'
    | exc c fs h' => rw [q2] at p'; exact p'
    | ok d h' => rw [q2] at p'; exact p'
end
end Sm
/-! SmE: built-in functions, list methods, o[i] = v, dicts. -/
namespace Sm
open PySem L2 PyProof.Rows

section
variable {X : Cx} {G : Cl} {W : WX} {e a b c o : Expr} {es : List Expr} {st : Stmt} {pos p : Pos} {m ma mb mo : M} {ms : List M} {K : PySem.W.Frag} {ρ : List Addr} {H : Hp} {h : Hh} {k : Nat}
theorem Rvs.one {vs : List V} {d : D} (r : Rvs K ρ H vs [d]) : ∃ v, vs = [v] ∧ Rv K ρ H v d := by
  cases r with
  | cons r q => cases q; exact ⟨_, rfl, r⟩
theorem Rvs.two {vs : List V} {d e : D} (r : Rvs K ρ H vs [d, e]) : ∃ v w, vs = [v, w] ∧ Rv K ρ H v d ∧ Rv K ρ H w e := by
  cases r with
  | cons r q =>
    obtain ⟨w, rfl, q2⟩ := q.one
    exact ⟨_, _, rfl, r, q2⟩

/-! ### numbers -/
def opAbs : List D → Hh → Option (D × Hh)
  | [.int i], h => some (.int (if i < 0 then -i else i), h)
  | _, _ => none
theorem im_abs : ImpN K G (fun xs H Q => ∃ i, xs = [.int i] ∧ Q (.int (if i < 0 then -i else i)) H) opAbs := fun {ρ H h xs ds d h' Q} hr rs e k => by
  unfold opAbs at e
  split at e
  · cases e
    obtain ⟨v, rfl, r⟩ := rs.one
    cases r
    exact ⟨_, rfl, k _ _ _ Ex.refl hr (.int _)⟩
  · cases e
def opInt : List D → Hh → Option (D × Hh)
  | [.int i], h => some (.int i, h)
  | [.bl b], h => some (.int (if b = true then 1 else 0), h)
  | _, _ => none
theorem im_int : ImpN K G (fun xs H Q => (∃ i, xs = [.int i] ∧ Q (.int i) H) ∨ ∃ k, xs = [.bl k] ∧ Q (.int (if k then 1 else 0)) H) opInt := fun {ρ H h xs ds d h' Q} hr rs e k => by
  unfold opInt at e
  split at e
  · cases e
    obtain ⟨v, rfl, r⟩ := rs.one
    cases r
    exact .inl ⟨_, rfl, k _ _ _ Ex.refl hr (.int _)⟩
  · cases e
    obtain ⟨v, rfl, r⟩ := rs.one
    cases r
    exact .inr ⟨_, rfl, k _ _ _ Ex.refl hr (.int _)⟩
  · cases e
def opMax : List D → Hh → Option (D × Hh)
  | [.int i, .int j], h => some (.int (if j > i then j else i), h)
  | _, _ => none
theorem im_max : ImpN K G (fun xs H Q => ∃ i j, xs = [.int i, .int j] ∧ Q (.int (if j > i then j else i)) H) opMax := fun {ρ H h xs ds d h' Q} hr rs e k => by
  unfold opMax at e
  split at e
  · cases e
    obtain ⟨v, w, rfl, r, r2⟩ := rs.two
    cases r; cases r2
    exact ⟨_, _, rfl, k _ _ _ Ex.refl hr (.int _)⟩
  · cases e
def opMin : List D → Hh → Option (D × Hh)
  | [.int i, .int j], h => some (.int (if j < i then j else i), h)
  | _, _ => none
theorem im_min : ImpN K G (fun xs H Q => ∃ i j, xs = [.int i, .int j] ∧ Q (.int (if j < i then j else i)) H) opMin := fun {ρ H h xs ds d h' Q} hr rs e k => by
  unfold opMin at e
  split at e
  · cases e
    obtain ⟨v, w, rfl, r, r2⟩ := rs.two
    cases r; cases r2
    exact ⟨_, _, rfl, k _ _ _ Ex.refl hr (.int _)⟩
  · cases e

/-! ### lengths, lists, tuples -/
def opLen : List D → Hh → Option (D × Hh)
  | [.str y], h => if y.length ≤ sizeLine then some (.int y.length, h) else none
  | [.tup ds], h => some (.int ds.length, h)
  | [.fls ds], h => some (.int ds.length, h)
  | [.ref n], h => match h[n]? with
    | some (.lst ds) => some (.int ds.length, h)
    | some (.dK ds) => some (.int ds.length, h)
    | some (.dT ds) => some (.int ds.length, h)
    | _ => none
  | _, _ => none
abbrev rLenAll (K : PySem.W.Frag) : List V → Hp → VK → Prop := fun xs H Q => (∃ x n, xs = [x] ∧ LenV K x H n ∧ Q (.int n) H) ∨ ((∃ a kvs, xs = [V.ref a] ∧ H a = some (.dK kvs) ∧ Q (.int kvs.length) H) ∨ rLenT xs H Q)
theorem call_lenAll : CallR X (.builtin "len") (rLenAll X.K) := call_len.or (call_lenD.or call_len_dT)
theorem im_len : ImpN K G (rLenAll K) opLen := fun {ρ H h xs ds d h' Q} hr rs e k => by
  unfold opLen at e
  split at e
  · split at e
    · cases e
      obtain ⟨v, rfl, r⟩ := rs.one
      cases r
      exact .inl ⟨_, _, rfl, ⟨by assumption, rfl⟩, k _ _ _ Ex.refl hr (.int _)⟩
    · cases e
  · cases e
    obtain ⟨v, rfl, r⟩ := rs.one
    obtain ⟨a, vs, rfl, t, q⟩ := r.sqT
    refine .inl ⟨_, vs.length, rfl, .inr ⟨vs, t, rfl⟩, ?_⟩
    rw [q.length]
    exact k _ _ _ Ex.refl hr (.int _)
  · cases e
    obtain ⟨v, rfl, r⟩ := rs.one
    cases r with
    | @fls a vs _ t q =>
      refine .inl ⟨_, vs.length, rfl, .inl ⟨vs, t.sq, rfl⟩, ?_⟩
      rw [q.length]
      exact k _ _ _ Ex.refl hr (.int _)
  · obtain ⟨v, rfl, r⟩ := rs.one
    cases r with
    | ref ra =>
      split at e
      · rename_i e0
        cases e
        obtain ⟨vs, q, r⟩ := ref_seq hr ra e0
        refine .inl ⟨_, vs.length, rfl, .inl ⟨vs, q, rfl⟩, ?_⟩
        rw [r.length]
        exact k _ _ _ Ex.refl hr (.int _)
      · rename_i e0
        cases e
        have z := hr.at_ ra e0
        cases z with
        | dK q r =>
          refine .inr (.inl ⟨_, _, rfl, q, ?_⟩)
          rw [Paired.length r]
          exact k _ _ _ Ex.refl hr (.int _)
      · rename_i e0
        cases e
        have z := hr.at_ ra e0
        cases z with
        | dT q r =>
          refine .inr (.inr ⟨_, _, rfl, q, ?_⟩)
          rw [Paired.length r]
          exact k _ _ _ Ex.refl hr (.int _)
      · cases e
  · cases e
@[simp] def kD : Key → D
  | .inl i => .int i
  | .inr x => .str x
theorem rv_key (k : Key) : Rv K ρ H (kV k) (kD k) := by
  cases k with
  | inl i => exact .int i
  | inr x => exact .str x
def opList : List D → Hh → Option (D × Hh)
  | [.tup ds], h => some (.ref h.length, h ++ [.lst ds])
  | [.fls ds], h => some (.ref h.length, h ++ [.lst ds])
  | [.ref n], h => match h[n]? with
    | some (.lst ds) => some (.ref h.length, h ++ [.lst ds])
    | some (.dK kvs) => some (.ref h.length, h ++ [.lst (kvs.map fun kv => kD kv.1)])
    | some (.dT kvs) => some (.ref h.length, h ++ [.lst (kvs.map fun kv => .tup (kv.1.map kD))])
    | _ => none
  | _, _ => none
abbrev rListAll (K : PySem.W.Frag) : List V → Hp → VK → Prop := fun xs H Q => (∃ p ys, xs = [.ref p] ∧ (SqL K H p ys ∨ SqT K H p ys) ∧ ∀ l, H l = none → Q (.ref l) (upd H l (.lst ys))) ∨ (rListD xs H Q ∨
  (∃ d kvs, xs = [V.ref d] ∧ Rd H d (.dT kvs) ∧ ∀ p bs, H p = none → IsKeys H kvs bs → Q (.ref p) (upd H p (.lst (bs.map V.ref)))))
theorem call_listAll (hc : X.calm = true) : CallR X (.type "list") (rListAll X.K) := call_list_of.or ((call_list_dK hc).or (call_list_dT hc))
theorem rvs_keys : ∀ {kvs : List (Key × V)} {ds : List (Key × D)}, Paired (fun (p : Key × V) (q : Key × D) => p.1 = q.1 ∧ Rv K ρ H p.2 q.2) kvs ds → Rvs K ρ H (kvs.map fun kv => kV kv.1) (ds.map fun kv => kD kv.1)
  | _, _, .nil => .nil
  | _, _, .cons (l₁ := l1) (l₂ := l2) h t => .cons (by dsimp only; rw [h.1]; exact rv_key _) (rvs_keys t)
theorem rvs_kV : ∀ ks : List Key, Rvs K ρ H (ks.map kV) (ks.map kD)
  | [] => .nil
  | k :: ks => .cons (rv_key k) (rvs_kV ks)
theorem rvs_keysT : ∀ {kvs : List (List Key × V)} {ds : List (List Key × D)} {bs : List Addr}, Paired (fun (p : List Key × V) (q : List Key × D) => p.1 = q.1 ∧ Rv K ρ H p.2 q.2) kvs ds → IsKeys H kvs bs → Rvs K ρ H (bs.map V.ref) (ds.map fun kv => .tup (kv.1.map kD))
  | _, _, _, .nil, .nil => .nil
  | _, _, _, .cons h t, .cons z y => .cons (.tup z (by rw [h.1]; exact rvs_kV _)) (rvs_keysT t y)
theorem im_list : ImpN K G (rListAll K) opList := fun {ρ H h xs ds d h' Q} hr rs e k => by
  unfold opList at e
  split at e
  · cases e
    obtain ⟨v, rfl, r⟩ := rs.one
    obtain ⟨a, vs, rfl, t, q⟩ := r.sqT
    exact .inl ⟨a, vs, rfl, .inr t, new_lst hr q k⟩
  · cases e
    obtain ⟨v, rfl, r⟩ := rs.one
    cases r with
    | fls t q => exact .inl ⟨_, _, rfl, .inl t.sq, new_lst hr q k⟩
  · obtain ⟨v, rfl, r⟩ := rs.one
    cases r with
    | ref ra =>
      split at e
      · rename_i e0
        cases e
        obtain ⟨vs, q, r⟩ := ref_seq hr ra e0
        exact .inl ⟨_, vs, rfl, .inl q, new_lst hr r k⟩
      · rename_i e0
        cases e
        have z := hr.at_ ra e0
        cases z with
        | dK q r => exact .inr (.inl ⟨_, _, rfl, q, new_lst hr (rvs_keys r) k⟩)
      · rename_i e0
        cases e
        have z := hr.at_ ra e0
        cases z with
        | dT q r => exact .inr (.inr ⟨_, _, rfl, .inl q, fun p bs n hb => new_lst hr (rvs_keysT r hb) k p n⟩)
      · cases e
  · cases e
def opTupleOf : List D → Hh → Option (D × Hh)
  | [.tup ds], h => some (.tup ds, h)
  | [.fls ds], h => some (.tup ds, h)
  | [.ref n], h => match h[n]? with
    | some (.lst ds) => some (.tup ds, h)
    | _ => none
  | _, _ => none
theorem im_tuple : ImpN K G (fun xs H Q => ∃ p ys, xs = [.ref p] ∧ ((SqL K H p ys ∧ ∀ l, H l = none → Q (.ref l) (upd H l (.tup ys))) ∨ (SqT K H p ys ∧ Q (.ref p) H))) opTupleOf := fun {ρ H h xs ds d h' Q} hr rs e k => by
  unfold opTupleOf at e
  split at e
  · cases e
    obtain ⟨v, rfl, r⟩ := rs.one
    obtain ⟨a, vs, rfl, t, q⟩ := r.sqT
    exact ⟨a, vs, rfl, .inr ⟨t, k _ _ _ Ex.refl hr r⟩⟩
  · cases e
    obtain ⟨v, rfl, r⟩ := rs.one
    cases r with
    | fls t q => exact ⟨_, _, rfl, .inl ⟨t.sq, new_tup hr q k⟩⟩
  · obtain ⟨v, rfl, r⟩ := rs.one
    cases r with
    | ref ra =>
      split at e
      · rename_i e0
        cases e
        obtain ⟨vs, q, r⟩ := ref_seq hr ra e0
        exact ⟨_, vs, rfl, .inl ⟨q, new_tup hr r k⟩⟩
      · cases e
  · cases e
/-- the ints, rising -/
def sortI (ns : List Int) : List Int := ns.mergeSort (fun a b => decide (a ≤ b))
theorem sortI_perm (ns : List Int) : (sortI ns).Perm ns := List.mergeSort_perm ns _
theorem sortI_pair (ns : List Int) : (sortI ns).Pairwise (· ≤ ·) := by
  have h := List.pairwise_mergeSort (le := fun a b : Int => decide (a ≤ b)) (fun a b c h1 h2 => by simp only [decide_eq_true_eq] at *; omega) (fun a b => by simp only [Bool.or_eq_true, decide_eq_true_eq]; omega) ns
  exact h.imp fun h => by simpa using h
theorem sortI_eq {ns ms : List Int} (hp : ms.Perm ns) (hs : ms.Pairwise (· ≤ ·)) : ms = sortI ns := PySem.W.ksm_same (hp.trans (sortI_perm ns).symm) hs (sortI_pair ns)
def keyInts : List (Key × D) → Option (List Int)
  | [] => some []
  | (.inl i, _) :: r => (keyInts r).map (i :: ·)
  | _ :: _ => none
def opSorted : List D → Hh → Option (D × Hh)
  | [.fls ds], h => match intsOf ds with
    | some ns => some (.ref h.length, h ++ [.lst ((sortI ns).map D.int)])
    | none => none
  | [.ref n], h => match h[n]? with
    | some (.lst ds) => match intsOf ds with
      | some ns => some (.ref h.length, h ++ [.lst ((sortI ns).map D.int)])
      | none => none
    | some (.dK kvs) => match keyInts kvs with
      | some ns => if ns.length < 64 then some (.ref h.length, h ++ [.lst ((sortI ns).map D.int)]) else none
      | none => none
    | _ => none
  | _, _ => none
abbrev rSortedDI : List V → Hp → VK → Prop := fun xs H Q => ∃ (a : Addr) (kvs : List (Key × V)) (ks : List Int), xs = [.ref a] ∧ Rd H a (.dK kvs) ∧ kvs.map (·.1) = ks.map Sum.inl ∧ ks.length < 64 ∧
    ∀ (ys : List Int) (p : Addr), ys.Perm ks → ys.Pairwise (· ≤ ·) → H p = none → Q (.ref p) (upd H p (.lst (ys.map V.int)))
theorem keyInts_eq : ∀ {kvs : List (Key × V)} {ds : List (Key × D)} {ns : List Int}, Paired (fun (p : Key × V) (q : Key × D) => p.1 = q.1 ∧ Rv K ρ H p.2 q.2) kvs ds → keyInts ds = some ns → kvs.map (·.1) = ns.map Sum.inl
  | _, _, ns, .nil, e => by cases e; rfl
  | _, _, ns, .cons (b := (.inl i, y)) h t, e => by
    simp only [keyInts, Option.map_eq_some_iff] at e
    obtain ⟨ms, e1, rfl⟩ := e
    rw [List.map_cons, List.map_cons, keyInts_eq t e1, h.1]
  | _, _, ns, .cons (b := (.inr x, y)) h t, e => by simp [keyInts] at e
theorem im_sorted : ImpN K G (fun xs H Q => rSortedI K xs H Q ∨ rSortedDI xs H Q) opSorted := fun {ρ H h xs ds d h' Q} hr rs e k => by
  unfold opSorted at e
  split at e
  · obtain ⟨v, rfl, r⟩ := rs.one
    cases r with
    | fls t r =>
      split at e
      · rename_i ns e1
        cases e
        have z := intsOf_eq e1
        subst z
        have y := r.ints
        subst y
        refine .inl ⟨_, ns, rfl, t.sq, fun ns' p hp hs hn => ?_⟩
        rw [sortI_eq hp hs]
        exact new_lst hr (Rvs.of_ints _) k p hn
      · cases e
  · obtain ⟨v, rfl, r⟩ := rs.one
    cases r with
    | ref ra =>
      split at e
      · rename_i e0
        split at e
        · rename_i ns e1
          cases e
          have z := intsOf_eq e1
          subst z
          obtain ⟨vs, q, r⟩ := ref_seq hr ra e0
          have y := r.ints
          subst y
          refine .inl ⟨_, ns, rfl, q, fun ns' p hp hs hn => ?_⟩
          rw [sortI_eq hp hs]
          exact new_lst hr (Rvs.of_ints _) k p hn
        · cases e
      · rename_i e0
        split at e
        · rename_i ns e1
          split at e
          · rename_i hl
            cases e
            have z := hr.at_ ra e0
            cases z with
            | dK q r =>
              refine .inr ⟨_, _, ns, rfl, .inl q, keyInts_eq r e1, hl, fun ns' p hp hs hn => ?_⟩
              rw [sortI_eq hp hs]
              exact new_lst hr (Rvs.of_ints _) k p hn
          · cases e
        · cases e
      · cases e
  · cases e

/-! ### isinstance -/
inductive Ty where
  | int | bool | str | tuple | list | dict | none
  deriving DecidableEq
def Ty.name : Ty → String
  | .int => "int" | .bool => "bool" | .str => "str" | .tuple => "tuple" | .list => "list" | .dict => "dict" | .none => "NoneType"
def isT : Ty → Ty → Bool
  | .int, .int => true | .bool, .bool => true | .bool, .int => true | .str, .str => true | .tuple, .tuple => true | .list, .list => true | .dict, .dict => true | .none, .none => true
  | _, _ => false
theorem kit_isT (a b : Ty) (hb : b ≠ .none) : kitB a.name b.name = some (isT a b) := by
  cases a <;> cases b <;> first | (exact absurd rfl hb) | decide +kernel
def tyD : D → Hh → Option Ty
  | .non, _ => some .none
  | .bl _, _ => some .bool
  | .int _, _ => some .int
  | .str _, _ => some .str
  | .tup _, _ => some .tuple
  | .fls _, _ => some .list
  | .ref n, h => match h[n]? with
    | some (.lst _) => some .list
    | some (.dK _) => some .dict
    | some (.dT _) => some .dict
    | _ => none
theorem tyD_ok (hr : Rh K G ρ H h) {v : V} {d : D} {t : Ty} (r : Rv K ρ H v d) (e : tyD d h = some t) : TyX K H v (.type t.name) := by
  cases r with
  | non => cases e; exact .base .non
  | bl b => cases e; exact .base (.bl b)
  | int i => cases e; exact .base (.int i)
  | str x => cases e; exact .base (.str x)
  | tup q _ => cases e; exact .base (.tup q)
  | ktp q _ _ =>
    cases e
    obtain ⟨o, its, n, h1, h2, _⟩ := q
    exact .kTuple h1 h2
  | fls q _ =>
    cases e
    rcases q with ⟨o, q⟩ | ⟨o, its, n, h1, h2, _⟩
    · exact .base (.frz q)
    · exact .kList h1 h2
  | ref ra =>
    simp only [tyD] at e
    split at e
    · rename_i e0
      cases e
      have z := hr.at_ ra e0
      cases z with
      | lst q _ => exact .base (.lst q)
    · rename_i e0
      cases e
      have z := hr.at_ ra e0
      cases z with
      | dK q _ => exact .base (.dK q)
    · rename_i e0
      cases e
      have z := hr.at_ ra e0
      cases z with
      | dT q _ => exact .base (.dT q)
    · cases e
def opIsi (t : Ty) (d : D) (h : Hh) : Option (D × Hh) := (tyD d h).map fun u => (.bl (isT u t), h)
theorem se_isi (t : Ty) {ec : Expr} (hx : PE X e (tM X.K G W m)) (hc : PE X ec (tC (.ty t.name))) (hg : Gl X "isinstance") (hm : X.mg "isinstance" = none) (ht : t ≠ .none := by decide) (h1 : starEach [e, ec] X.env = (false, eval e X.env) :: starEach [ec] X.env := by rfl) (h2 : starEach [ec] X.env = (false, eval ec X.env) :: starEach [] X.env := by rfl)
    (hpl : (backTo pos (starEach [ec] X.env)).any (·.1) = false := by rfl) : PE X (.Call (.Name "isinstance" p) [e, ec] [] pos) (tM X.K G W (eU (opIsi t) m)) :=
  peImp (pe_callB call_isi hg hm boot_isinstance (pa_cons hx (pa_cons hc pa_nil h2) h1) (by decide) (by decide) h1 hpl) fun σ H Q t' => by
    obtain ⟨ρ, h, env, hr, he, p⟩ := t'
    refine tG_mono (tG_bind (rel := relV X.K) hr he p) fun x H1 ⟨ρ1, h1, d, e1, hr1, he1, r1, p1⟩ => ?_
    obtain ⟨d2, h2, eq, k⟩ := p1.opt
    unfold opIsi at eq
    simp only [Option.map_eq_some_iff, Prod.mk.injEq] at eq
    obtain ⟨u, eu, rfl, rfl⟩ := eq
    exact ⟨x, .ty t.name, .type u.name, .type t.name, _, rfl, .ty _, tyD_ok hr1 r1 eu, kit_ty (kit_isT u t ht), k _ _ _ Ex.refl hr1 (.bl _)⟩
theorem se_ty {x : Str} {T : String} (hg : Gl X x) (hm : X.mg x = none) (hv : bootBuiltins x = some (.type T)) (hn : x ≠ "__name__" := by decide) (hd : (x == ("__debug__" : Str)) = false := by decide) : PE X (.Name x pos) (tC (.ty T)) := pe_bltn hg hm hv rfl hn hd

/-! ### methods of lists -/
def isL (d : D) (h : Hh) : Bool := match d with
  | .ref n => match h[n]? with
    | some (.lst _) => true
    | _ => false
  | _ => false
def eMt (f : D → List D → Hh → Option (D × Hh)) (mo : M) (ms : List M) : M := fun env h => (mo env h).bind fun o h1 => if isL o h1 = true then (evs ms env h1).bind fun ds h2 => R.opt (f o ds h2) else .bad
def ImpM (K : PySem.W.Frag) (G : Cl) (r : V → List V → Hp → VK → Prop) (f : D → List D → Hh → Option (D × Hh)) : Prop := ∀ {ρ : List Addr} {H : Hp} {h : Hh} {x : V} {o : D} {xs : List V} {ds : List D} {d : D} {h' : Hh} {Q : VK}, Rh K G ρ H h → Rv K ρ H x o → Rvs K ρ H xs ds → f o ds h = some (d, h') →
  (∀ ρ' H' v, Ex K ρ H ρ' H' → Rh K G ρ' H' h' → Rv K ρ' H' v d → Q v H') → r x xs H Q
theorem isL_ok (hr : Rh K G ρ H h) {v : V} {d : D} (r : Rv K ρ H v d) (e : isL d h = true) : tyV K "list" v H := by
  cases d with
  | ref n =>
    cases r with
    | ref ra =>
      simp only [isL] at e
      split at e
      · rename_i e0
        obtain ⟨vs, q, _⟩ := ref_lst hr ra e0
        exact .inl ⟨rfl, vs, SqL.of q⟩
      · cases e
  | _ => cases e
theorem mt_imp {r : V → List V → Hp → VK → Prop} {f : D → List D → Hh → Option (D × Hh)} (i : ImpM X.K G r f) (σ : L2.St) (H : Hp) (Q : VK) (t : tM X.K G W (eMt f mo ms) σ H Q) : tBM X.K "list" r (tM X.K G W mo) (tL X.K G W (evs ms)) σ H Q := by
  obtain ⟨ρ, h, env, hr, he, p⟩ := t
  refine tG_mono (tG_bind (rel := relV X.K) hr he p) fun x H1 ⟨ρ1, h1, d, e1, hr1, he1, r1, p1⟩ => ?_
  dsimp only at p1
  split at p1
  · rename_i hl
    refine ⟨isL_ok hr1 r1 hl, tG_mono (tG_bind (rel := relVs X.K) hr1 he1 p1) fun xs H2 ⟨ρ2, h2, ds, e2, hr2, he2, r2, p2⟩ => ?_⟩
    obtain ⟨d3, h3, eq, k⟩ := p2.opt
    exact i hr2 (r1.mono e2) r2 eq k
  · exact p1.elim
theorem mt0_imp {r : V → List V → Hp → VK → Prop} {f : D → List D → Hh → Option (D × Hh)} (i : ImpM X.K G r f) (σ : L2.St) (H : Hp) (Q : VK) (t : tM X.K G W (eMt f mo []) σ H Q) : tBM0 X.K "list" r (tM X.K G W mo) σ H Q := by
  obtain ⟨ρ, h, env, hr, he, p⟩ := t
  refine tG_mono (tG_bind (rel := relV X.K) hr he p) fun x H1 ⟨ρ1, h1, d, e1, hr1, he1, r1, p1⟩ => ?_
  dsimp only at p1
  split at p1
  · rename_i hl
    refine ⟨isL_ok hr1 r1 hl, ?_⟩
    have p2 : Po X.K G (relV X.K) W ρ1 H1 σ (R.opt (f d [] h1)) Q := p1
    obtain ⟨d3, h3, eq, k⟩ := p2.opt
    exact i hr1 r1 .nil eq k
  · exact p1.elim
def opAppend : D → List D → Hh → Option (D × Hh)
  | .ref n, [y], h => match h[n]? with
    | some (.lst xs) => if xs.length < sizeLine then some (.non, h.set n (.lst (xs ++ [y]))) else none
    | _ => none
  | _, _, _ => none
/-- a list is written -/
theorem wr_lst {n : Nat} {a : Addr} {ds ds' : List D} {vs' : List V} {v : V} {d : D} {Q : VK} (hr : Rh K G ρ H h) (ra : ρ[n]? = some a) (e : h[n]? = some (.lst ds)) (r : Rvs K ρ H vs' ds') (rv : Rv K ρ H v d)
    (k : ∀ ρ' H' v, Ex K ρ H ρ' H' → Rh K G ρ' H' (h.set n (.lst ds')) → Rv K ρ' H' v d → Q v H') : Q v (upd H a (.lst vs')) :=
  have e1 : Ex K ρ H ρ (upd H a (.lst vs')) := Ex.write hr ra e
  k ρ _ _ e1 (hr.write ra e (.lst upd_same (r.mono e1))) (rv.mono e1)
theorem im_append : ImpM K G rAppend opAppend := fun {ρ H h x o xs ds d h' Q} hr ro rs e k => by
  unfold opAppend at e
  split at e
  · cases ro with
    | ref ra =>
      obtain ⟨v, rfl, r⟩ := rs.one
      split at e
      · rename_i zs e0
        split at e
        · rename_i hl
          cases e
          obtain ⟨vs, q, r2⟩ := ref_lst hr ra e0
          exact ⟨_, vs, v, rfl, rfl, q, by rw [r2.length]; exact hl, wr_lst hr ra e0 (r2.append (.cons r .nil)) .non k⟩
        · cases e
      · cases e
  · cases e
def opPop : D → List D → Hh → Option (D × Hh)
  | .ref n, [], h => match h[n]? with
    | some (.lst xs) => match xs[xs.length - 1]? with
      | some y => some (y, h.set n (.lst xs.dropLast))
      | none => none
    | _ => none
  | _, _, _ => none
theorem im_pop : ImpM K G rPop opPop := fun {ρ H h x o xs ds d h' Q} hr ro rs e k => by
  unfold opPop at e
  split at e
  · cases ro with
    | ref ra =>
      cases rs
      split at e
      · rename_i zs e0
        split at e
        · rename_i y ey
          cases e
          obtain ⟨vs, q, r2⟩ := ref_lst hr ra e0
          obtain ⟨v, hv, rv⟩ := r2.get ey
          exact ⟨_, vs, v, rfl, rfl, q, by rw [r2.length]; exact hv, wr_lst hr ra e0 r2.dropLast rv k⟩
        · cases e
      · cases e
  · cases e
theorem se_append (ho : PE X o (tM X.K G W mo)) (ha : PA X (e :: es) (tL X.K G W (evs ms))) {apos : Pos} (hbase : attributeBase o "append" X.env (eval o X.env) = eval o X.env := by rfl)
    (hfew : ((backTo pos (starEach (e :: es) X.env)).all (fun x => !x.1) && (backToKw pos (keywordEach [] X.env)).all (fun x => x.1.isSome)
      && decide ((e :: es).length + ([] : List Keyword).length + (if ([] : List Keyword).isEmpty then 0 else 1) < 30)) = true := by rfl)
    (hline : (apos.endLine == pos.line) = true := by rfl) (hs : starEach (e :: es) X.env = (false, eval e X.env) :: starEach es X.env := by rfl) (hplain : (backTo pos (starEach es X.env)).any (·.1) = false := by rfl) :
    PE X (.Call (.Attribute o "append" apos) (e :: es) [] pos) (tM X.K G W (eMt opAppend mo ms)) :=
  peImp (pe_bm PySem.F.plainAttrs_list PySem.F.slot_list_append PySem.F.type_list_append mt_append ho ha hbase hfew hline hs hplain) fun σ H Q t => mt_imp im_append σ H Q t
theorem se_pop (ho : PE X o (tM X.K G W mo)) {apos : Pos} (hbase : attributeBase o "pop" X.env (eval o X.env) = eval o X.env := by rfl) (hline : (apos.endLine == pos.line) = true := by rfl) :
    PE X (.Call (.Attribute o "pop" apos) [] [] pos) (tM X.K G W (eMt opPop mo [])) :=
  peImp (pe_bm0 PySem.F.plainAttrs_list PySem.F.slot_list_pop PySem.F.type_list_pop mt_pop ho hbase hline) fun σ H Q t => mt0_imp im_pop σ H Q t

/-! ### o[i] = v -/
@[simp] def keyOf : D → Option Key
  | .int i => some (.inl i)
  | .str x => some (.inr x)
  | _ => none
@[simp] def keysOf : List D → Option (List Key)
  | [] => some []
  | d :: ds => match keyOf d, keysOf ds with
    | some k, some ks => some (k :: ks)
    | _, _ => none
def putP {κ : Type} [DecidableEq κ] (kvs : List (κ × D)) (k : κ) (v : D) : List (κ × D) :=
  if (kvs.any fun kv => decide (kv.1 = k)) = true then kvs.map (fun kv => if kv.1 = k then (kv.1, v) else kv) else kvs ++ [(k, v)]
def valP {κ : Type} [DecidableEq κ] (kvs : List (κ × D)) (k : κ) : Option D := (kvs.find? fun kv => decide (kv.1 = k)).map (·.2)
theorem keyOf_eq {d : D} {k : Key} (e : keyOf d = some k) : d = kD k := by
  cases d with
  | int i => cases e; rfl
  | str x => cases e; rfl
  | _ => cases e
theorem keysOf_eq : ∀ {ds : List D} {ks : List Key}, keysOf ds = some ks → ds = ks.map kD
  | [], ks, e => by cases e; rfl
  | d :: ds, ks, e => by
    simp only [keysOf] at e
    split at e
    · rename_i k ks' e1 e2
      cases e
      rw [keyOf_eq e1, keysOf_eq e2]
      rfl
    · cases e
theorem rv_keyD {v : V} {k : Key} (r : Rv K ρ H v (kD k)) : v = kV k := by
  cases k with
  | inl i => cases r; rfl
  | inr x => cases r; rfl
theorem rvs_keyD : ∀ {vs : List V} {ks : List Key}, Rvs K ρ H vs (ks.map kD) → vs = ks.map kV
  | _, [], .nil => rfl
  | _, k :: ks, .cons r rs => by rw [rv_keyD r, rvs_keyD rs]; rfl
theorem any_rel {κ : Type} [DecidableEq κ] {k : κ} : ∀ {kvs : List (κ × V)} {ds : List (κ × D)}, Paired (fun (p : κ × V) (q : κ × D) => p.1 = q.1 ∧ Rv K ρ H p.2 q.2) kvs ds → (kvs.any fun kv => decide (kv.1 = k)) = ds.any fun kv => decide (kv.1 = k)
  | _, _, .nil => rfl
  | _, _, .cons h t => by rw [List.any_cons, List.any_cons, any_rel t, h.1]
theorem map_rel {κ : Type} [DecidableEq κ] {k : κ} {v : V} {d : D} (rv : Rv K ρ H v d) : ∀ {kvs : List (κ × V)} {ds : List (κ × D)}, Paired (fun (p : κ × V) (q : κ × D) => p.1 = q.1 ∧ Rv K ρ H p.2 q.2) kvs ds →
    Paired (fun (p : κ × V) (q : κ × D) => p.1 = q.1 ∧ Rv K ρ H p.2 q.2) (kvs.map fun kv => if kv.1 = k then (kv.1, v) else kv) (ds.map fun kv => if kv.1 = k then (kv.1, d) else kv)
  | _, _, .nil => .nil
  | _, _, .cons h t => by
    refine .cons ?_ (map_rel rv t)
    dsimp only
    rw [h.1]
    split
    · exact ⟨rfl, rv⟩
    · exact h
theorem app_rel {α β : Type} {F : α → β → Prop} : ∀ {l₁ : List α} {l₂ : List β} {a : α} {b : β}, Paired F l₁ l₂ → F a b → Paired F (l₁ ++ [a]) (l₂ ++ [b])
  | _, _, _, _, .nil, h => .cons h .nil
  | _, _, _, _, .cons r t, h => .cons r (app_rel t h)
theorem put_rel {κ : Type} [DecidableEq κ] {k : κ} {v : V} {d : D} {kvs : List (κ × V)} {ds : List (κ × D)} (rv : Rv K ρ H v d) (r : Paired (fun (p : κ × V) (q : κ × D) => p.1 = q.1 ∧ Rv K ρ H p.2 q.2) kvs ds) :
    Paired (fun (p : κ × V) (q : κ × D) => p.1 = q.1 ∧ Rv K ρ H p.2 q.2) (putK kvs k v) (putP ds k d) := by
  unfold putK putP
  rw [any_rel r]
  split
  · exact map_rel rv r
  · exact app_rel r ⟨rfl, rv⟩
def opSetIx : D → D → D → Hh → Option Hh
  | .ref n, .tup ds, v, h => match h[n]? with
    | some (.dT kvs) => match keysOf ds with
      | some ks => if isK ds = false ∧ kvs.length < sizeLine then some (h.set n (.dT (putP kvs ks v))) else none
      | none => none
    | _ => none
  | .ref n, i, v, h => match h[n]? with
    | some (.lst xs) => match i with
      | .int i => (ixN xs.length i).map fun j => h.set n (.lst (xs.set j v))
      | _ => none
    | some (.dK kvs) => match keyOf i with
      | some k => if kvs.length < sizeLine then some (h.set n (.dK (putP kvs k v))) else none
      | none => none
    | _ => none
  | _, _, _, _ => none
theorem PSet.or {t t' : TSet} (h1 : PSet X t) (h2 : PSet X t') : PSet X (fun o i v H Q => t o i v H Q ∨ t' o i v H Q) := fun pins s σ H o i v ov iv u Q I ro ri rv q => by
  rcases q with q | q
  · exact h1 pins s σ H o i v ov iv u Q I ro ri rv q
  · exact h2 pins s σ H o i v ov iv u Q I ro ri rv q
theorem im_setIx {x y z : V} {o i v : D} {h' : Hh} {Q : Hp → Prop} (hr : Rh K G ρ H h) (ro : Rv K ρ H x o) (ri : Rv K ρ H y i) (rv : Rv K ρ H z v) (e : opSetIx o i v h = some h') (k : ∀ H', Ex K ρ H ρ H' → Rh K G ρ H' h' → Q H') : rSetL x y z H Q ∨ rSetD x y z H Q := by
  unfold opSetIx at e
  split at e
  · cases ro with
    | ref ra =>
      split at e
      · rename_i kvs e0
        split at e
        · rename_i ks e1
          split at e
          · rename_i hl
            cases e
            have zz := keysOf_eq e1
            subst zz
            have q := hr.at_ ra e0
            cases q with
            | @dT vkvs _ q r =>
              cases ri with
              | tup t rk =>
                have ek := rvs_keyD rk
                subst ek
                have e1 := Ex.write (K := K) (u := .dT (putK vkvs ks z)) hr ra e0
                refine .inr ⟨_, _, rfl, DPut.t q t (by rw [Paired.length r]; exact hl.2), k _ e1 (hr.write ra e0 (.dT upd_same ?_))⟩
                exact Paired.mapP (put_rel rv r) fun _ _ z => ⟨z.1, z.2.mono e1⟩
              | ktp _ f _ => rw [hl.1] at f; cases f
          · cases e
        · cases e
      · cases e
  · cases ro with
    | ref ra =>
      split at e
      · rename_i xs e0
        split at e
        · simp only [Option.map_eq_some_iff] at e
          obtain ⟨j, ej, rfl⟩ := e
          cases ri
          obtain ⟨vs, q, r⟩ := ref_lst hr ra e0
          have e1 := Ex.write (K := K) (u := .lst (vs.set j z)) hr ra e0
          exact .inl ⟨_, vs, _, j, rfl, rfl, q, by rw [r.length]; exact ej, k _ e1 (hr.write ra e0 (.lst upd_same ((r.set rv j).mono e1)))⟩
        · cases e
      · rename_i kvs e0
        split at e
        · rename_i kk e1
          split at e
          · rename_i hl
            cases e
            have zz := keyOf_eq e1
            subst zz
            have q := hr.at_ ra e0
            cases q with
            | @dK vkvs _ q r =>
              have ek := rv_keyD ri
              subst ek
              have e1 := Ex.write (K := K) (u := .dK (putK vkvs kk z)) hr ra e0
              refine .inr ⟨_, _, rfl, DPut.k q (by rw [Paired.length r]; exact hl), k _ e1 (hr.write ra e0 (.dK upd_same ?_))⟩
              exact Paired.mapP (put_rel rv r) fun _ _ z => ⟨z.1, z.2.mono e1⟩
          · cases e
        · cases e
      · cases e
  · cases e
def sSetIx (mo mi mv : M) : S := fun env h => bindS (mv env h) env fun v h1 => bindS (mo env h1) env fun o h2 => bindS (mi env h2) env fun i h3 => match opSetIx o i v h3 with
  | some h' => .nx env h'
  | none => .bad
theorem s_setIx {mv : M} {value i : Expr} {pos' : Pos} (hu : X.A.units + 1 < cLine) (ho : PE X o (tM X.K G W mo)) (hi : PE X i (tM X.K G W m)) (hv : PE X value (tM X.K G W mv))
    (ha : ∀ v, assign (.Subscript o i pos') X.env v = (do
      let ov ← holding [v] (eval o X.env)
      let iv ← holding [v, ov] (eval i X.env)
      standAt pos'
      holding [v, ov, iv] (setItem ov iv v)
      release [v, ov, iv] []) := by intro _; rfl)
    (hs : swapsWithSole [.Subscript o i pos'] value pos.line X.env = pure false := by rfl) (hw : swappedStores [.Subscript o i pos'] value X.env = pure none := by rfl)
    (h1 : (assignEach [.Subscript o i pos'] X.env).map (·.2) = [assign (.Subscript o i pos') X.env] := by rfl) : PS X (.Assign [.Subscript o i pos'] value pos) (tS X.K G W (sSetIx mo m mv)) :=
  psImp (ps_asg hv (pg_sub ho hi (PSet.or set_list (set_dict hu)) ha) hs hw h1) fun D0 σ H t => by
    obtain ⟨ρ, h, env, hr, he, p⟩ := t
    refine tG_mono (tS_bind (rel := relV X.K) hr he p) fun z H1 ⟨ρ1, h1, v, e1, hr1, he1, r1, p1⟩ => ?_
    refine tG_mono (tS_bind (rel := relV X.K) hr1 he1 p1) fun x H2 ⟨ρ2, h2, o, e2, hr2, he2, r2, p2⟩ => ?_
    refine tG_mono (tS_bind (rel := relV X.K) hr2 he2 p2) fun y H3 ⟨ρ3, h3, i, e3, hr3, he3, r3, p3⟩ => ?_
    dsimp only at p3
    split at p3
    · rename_i h' eq
      exact im_setIx hr3 (r2.mono e3) r3 ((r1.mono e2).mono e3) eq fun H' e' hr' => p3 ρ3 H' σ e' hr' (he3.mono e')
    · exact p3.elim
/-- {} -/
def eDK : M := fun _ h => .ok (.ref h.length) (h ++ [.dK []])
def eDT : M := fun _ h => .ok (.ref h.length) (h ++ [.dT []])
theorem se_dK : PE X (.Dict [] [] pos) (tM X.K G W eDK) := peImp pe_dnewK fun σ H Q t => by
  obtain ⟨ρ, h, env, hr, he, p⟩ := t
  exact fun q n => p (ρ ++ [q]) _ _ (Ex.push n) (hr.new n (.dK upd_same .nil)) (.ref (by rw [← hr.len]; exact get_push_eq))
theorem se_dT : PE X (.Dict [] [] pos) (tM X.K G W eDT) := peImp pe_dnewT fun σ H Q t => by
  obtain ⟨ρ, h, env, hr, he, p⟩ := t
  exact fun q n => p (ρ ++ [q]) _ _ (Ex.push n) (hr.new n (.dT upd_same .nil)) (.ref (by rw [← hr.len]; exact get_push_eq))
end
end Sm
/-! SmF: constants of the module, the law's end. -/
namespace Sm
open PySem L2 PyProof.Rows
theorem bt_len : bootBuiltins "len" = some (.builtin "len") := by first | exact PyProof.Rows.boot_len | exact PySem.boot_len | decide +kernel
theorem bt_isinstance : bootBuiltins "isinstance" = some (.builtin "isinstance") := by first | exact PyProof.Rows.boot_isinstance | exact PySem.boot_isinstance | decide +kernel
theorem bt_int : bootBuiltins "int" = some (.type "int") := by first | exact PyProof.Rows.boot_int | exact PySem.boot_int | decide +kernel
theorem bt_bool : bootBuiltins "bool" = some (.type "bool") := by first | exact PyProof.Rows.boot_bool | exact PySem.boot_bool | decide +kernel
theorem bt_str : bootBuiltins "str" = some (.type "str") := by first | exact PyProof.Rows.boot_str | exact PySem.boot_str | decide +kernel
theorem bt_list : bootBuiltins "list" = some (.type "list") := by first | exact PyProof.Rows.boot_list | exact PySem.boot_list | decide +kernel
theorem bt_tuple : bootBuiltins "tuple" = some (.type "tuple") := by first | exact PyProof.Rows.boot_tuple | exact PySem.boot_tuple | decide +kernel
theorem bt_dict : bootBuiltins "dict" = some (.type "dict") := by first | exact PyProof.Rows.boot_dict | exact PySem.boot_dict | decide +kernel
theorem bt_abs : bootBuiltins "abs" = some (.builtin "abs") := by first | exact PyProof.Rows.boot_abs | exact PySem.boot_abs | decide +kernel
theorem bt_max : bootBuiltins "max" = some (.builtin "max") := by first | exact PyProof.Rows.boot_max | exact PySem.boot_max | decide +kernel
theorem bt_min : bootBuiltins "min" = some (.builtin "min") := by first | exact PyProof.Rows.boot_min | exact PySem.boot_min | decide +kernel
theorem bt_sum : bootBuiltins "sum" = some (.builtin "sum") := by first | exact PyProof.Rows.boot_sum | exact PySem.boot_sum | decide +kernel
theorem bt_all : bootBuiltins "all" = some (.builtin "all") := by first | exact PyProof.Rows.boot_all | exact PySem.boot_all | decide +kernel
theorem bt_any : bootBuiltins "any" = some (.builtin "any") := by first | exact PyProof.Rows.boot_any | exact PySem.boot_any | decide +kernel
theorem bt_ord : bootBuiltins "ord" = some (.builtin "ord") := by first | exact PyProof.Rows.boot_ord | exact PySem.boot_ord | decide +kernel
theorem bt_sorted : bootBuiltins "sorted" = some (.builtin "sorted") := by first | exact PyProof.Rows.boot_sorted | exact PySem.boot_sorted | decide +kernel
theorem bt_set : bootBuiltins "set" = some (.type "set") := by first | exact PyProof.Rows.boot_set | exact PySem.boot_set | decide +kernel
theorem bt_range : bootBuiltins "range" = some (.type "range") := by first | exact PyProof.Rows.boot_range | exact PySem.boot_range | decide +kernel
theorem bt_reversed : bootBuiltins "reversed" = some (.type "reversed") := by first | exact PyProof.Rows.boot_reversed | exact PySem.boot_reversed | decide +kernel
theorem bt_repr : bootBuiltins "repr" = some (.builtin "repr") := by first | exact PyProof.Rows.boot_repr | exact PySem.boot_repr | decide +kernel
theorem bt_type : bootBuiltins "type" = some (.type "type") := by first | exact PyProof.Rows.boot_type | exact PySem.boot_type | decide +kernel
section
variable {X : Cx} {G : Cl} {W : WX} {e a b c o : Expr} {es : List Expr} {st : Stmt} {pos p : Pos} {m ma mb mo : M} {ms : List M} {K : PySem.W.Frag} {ρ : List Addr} {H : Hp} {h : Hh} {k : Nat}
theorem se_globI' {x : Str} {i : Int} (hg : Gl X x) (hm : ∃ u, X.mg x = some (.int i u)) (hd : (x == ("__debug__" : Str)) = false := by decide) : PE X (.Name x pos) (tM X.K G W (eC (.int i))) := let ⟨_, h⟩ := hm; se_globI hg h hd
theorem se_globS' {x y : Str} (hg : Gl X x) (hm : ∃ u, X.mg x = some (.str y u)) (hd : (x == ("__debug__" : Str)) = false := by decide) : PE X (.Name x pos) (tM X.K G W (eC (.str y))) := let ⟨_, h⟩ := hm; se_globS hg h hd
end
theorem law_end {K : PySem.W.Frag} {G : Cl} {f : Fm} (main : ∀ ns : List Int, ns.length ≤ 63 → ∃ h', f [.fls (ns.map D.int)] [] = .ok (.bl true) h') (H : Hp) (a : Addr) (ns : List Int) (hl : ns.length ≤ 63) (hO : Only H) (hS : SqL K H a (ns.map V.int)) :
    spM K G 1 f [.ref a] H (fun v _ => v = .bl true) (fun _ _ _ => False) := by
  obtain ⟨h', e⟩ := main ns hl
  have fl : FL K H a (ns.map V.int) := by
    rcases hS with (q | ⟨o, q⟩) | q
    · rcases hO a with z | ⟨o, xs, z⟩
      · rw [z] at q; cases q
      · rw [z] at q; cases q
    · exact .inl ⟨o, q⟩
    · exact .inr q
  refine ⟨[], [], [.fls (ns.map D.int)], ⟨rfl, fun i j a h => by simp at h, fun n o h => by simp at h⟩, .cons (.fls fl (Rvs.of_ints ns)) .nil, rfl, ?_⟩
  rw [e]
  intro ρ' H' v _ _ r
  cases r
  rfl
theorem walk_law {l : PySem.W.OpenLaw} {k : Nat} {q : Program} {loose : List Str} {XP : (Str → Option Value) → Heap → Prop} {YP : World → Heap → Prop} {d : DefRec} {K : Params → PySem.W.Frag} {f : Fm} {G : Cl}
    (hn : l.most = some 63) (hdf : d.params.defaults = []) (hr : Room k callerA)
    (hY : ∀ (w : World) (h : Heap), YP w h → (K w.params).In h) (main : ∀ ns : List Int, ns.length ≤ 63 → ∃ h', f [.fls (ns.map D.int)] [] = .ok (.bl true) h')
    (F : ∀ (w : World) (mg : Str → Option Value) (fa : Addr) (h : Heap), (K w.params).In h → h.Ns mainGlobals mg → mg d.name = some (.ref fa) →
      ∃ fd : FuncData, (∀ (s : Shared) (u : Value), BindsTo s fd ⟨[u], []⟩ [("script", u)]) ∧
        ∀ base : Heap, (K w.params).In base → base.Ns mainGlobals mg → FnOk l.prog w (K w.params) mg base (L2.CX l.prog w) k fa fd ["script"] (spM (K w.params) G 1 f)) :
    PySem.W.WalkO q loose XP YP l.row.toRowW d [] (fun f vs => PySem.call f vs) :=
  L2.walk_of (n := 63) (k := k) (x := "script") (CX := fun w => L2.CX l.prog w) (sp := fun w => spM (K w.params) G 1 f) hn (by decide) hdf hr hY F (fun w H a ns h1 h2 h3 => law_end main H a ns h1 h2 h3)
    fun w H s e s' z => by
      obtain ⟨_, _, _, _, _, _, _, _, _, _, _, _, z⟩ := z
      exact z
end Sm
/-! SmG: running the mirrors. -/
namespace Sm
open PySem L2 PyProof.Rows

/-- a loop, by what holds of the rest -/
theorem forL_wp {g : TgM} {body : S} {gd : Option (Nat × O)} (I : List D → Ev → Hh → Prop) (Post : SR → Prop)
    (step : ∀ x rest env h, I (x :: rest) env h → gdOk gd h ∧ ∃ env1, g x h env = some env1 ∧ ((∃ e' h', (body env1 h = .nx e' h' ∨ body env1 h = .ct e' h') ∧ I rest e' h') ∨ (∃ e' h', body env1 h = .bk e' h' ∧ Post (.nx e' h')) ∨ (∃ d h', body env1 h = .rt d h' ∧ Post (.rt d h')) ∨ (∃ c fs e' h', body env1 h = .exc c fs e' h' ∧ Post (.exc c fs e' h'))))
    (done : ∀ env h, I [] env h → gdOk gd h ∧ Post (.nx env h)) : ∀ (xs : List D) (env : Ev) (h : Hh), I xs env h → Post (forL g body gd xs env h)
  | [], env, h, i => by
    obtain ⟨a, b⟩ := done env h i
    unfold forL
    rw [if_pos a]
    exact b
  | x :: xs, env, h, i => by
    obtain ⟨a, env1, e1, r⟩ := step x xs env h i
    unfold forL
    rw [if_pos a, e1]
    dsimp only
    rcases r with ⟨e', h', q | q, i'⟩ | ⟨e', h', q, i'⟩ | ⟨d, h', q, i'⟩ | ⟨c, fs, e', h', q, i'⟩
    · rw [q]; exact forL_wp I Post step done xs e' h' i'
    · rw [q]; exact forL_wp I Post step done xs e' h' i'
    · rw [q]; exact i'
    · rw [q]; exact i'
    · rw [q]; exact i'
/-- the plain case: every turn goes on -/
theorem forL_inv {g : TgM} {body : S} {gd : Option (Nat × O)} (I : List D → Ev → Hh → Prop) (xs : List D) (env : Ev) (h : Hh) (h0 : I xs env h) (hg : ∀ rest env h, I rest env h → gdOk gd h)
    (step : ∀ x rest env h, I (x :: rest) env h → ∃ env1, g x h env = some env1 ∧ ∃ e' h', body env1 h = .nx e' h' ∧ I rest e' h') : ∃ e' h', forL g body gd xs env h = .nx e' h' ∧ I [] e' h' := by
  refine forL_wp (g := g) (body := body) (gd := gd) I (fun r => ∃ e' h', r = .nx e' h' ∧ I [] e' h') (fun x rest env h i => ?_) (fun env h i => ⟨hg _ _ _ i, env, h, rfl, i⟩) xs env h h0
  obtain ⟨env1, e1, e', h', q, i'⟩ := step x rest env h i
  exact ⟨hg _ _ _ i, env1, e1, .inl ⟨e', h', .inl q, i'⟩⟩
/-! ### the combinators step by step, no function under a binder -/
section
variable (env : Ev) (h : Hh) (f g : D → D → Hh → Option (D × Hh)) (f1 : D → Hh → Option (D × Hh)) (fn : List D → Hh → Option (D × Hh)) (fm : D → List D → Hh → Option (D × Hh)) (a b c : M) (ms : List M) (d e : D) (ds : List D) (i : Nat) (s1 s2 : S) (t u : MT)
def rOpt (o : Option (D × Hh)) : R D := R.opt o
@[simp] theorem rOpt_some : rOpt (some (d, h)) = .ok d h := rfl
@[simp] theorem eV_eq : eV i env h = match env[i]? with | some (some d) => .ok d h | _ => .bad := rfl
@[simp] theorem eC_eq : eC d env h = .ok d h := rfl
def eU1 (r : R D) : R D := r.bind fun x h1 => R.opt (f1 x h1)
@[simp] theorem eU_eq : eU f1 a env h = eU1 f1 (a env h) := rfl
@[simp] theorem eU1_ok : eU1 f1 (.ok d h) = R.opt (f1 d h) := rfl
def eB1 (env : Ev) (r : R D) : R D := r.bind fun x h1 => (b env h1).bind fun y h2 => R.opt (f x y h2)
def eB2 (d : D) (r : R D) : R D := r.bind fun y h2 => R.opt (f d y h2)
@[simp] theorem eB_eq : eB f a b env h = eB1 f b env (a env h) := rfl
@[simp] theorem eB1_ok : eB1 f b env (.ok d h) = eB2 f d (b env h) := rfl
@[simp] theorem eB2_ok : eB2 f d (.ok e h) = R.opt (f d e h) := rfl
def eAnd1 (env : Ev) (r : R D) : R D := r.bind fun d h1 => match d with
  | .bl true => b env h1
  | .bl false => .ok (.bl false) h1
  | _ => .bad
@[simp] theorem eAnd_eq : eAnd a b env h = eAnd1 b env (a env h) := rfl
@[simp] theorem eAnd1_t : eAnd1 b env (.ok (.bl true) h) = b env h := rfl
@[simp] theorem eAnd1_f : eAnd1 b env (.ok (.bl false) h) = .ok (.bl false) h := rfl
theorem eAnd1_d (p : Bool) : eAnd1 b env (.ok (.bl p) h) = if p = true then b env h else .ok (.bl false) h := by cases p <;> rfl
def eOr1 (env : Ev) (r : R D) : R D := r.bind fun d h1 => match d with
  | .bl false => b env h1
  | .bl true => .ok (.bl true) h1
  | _ => .bad
@[simp] theorem eOr_eq : eOr a b env h = eOr1 b env (a env h) := rfl
@[simp] theorem eOr1_f : eOr1 b env (.ok (.bl false) h) = b env h := rfl
@[simp] theorem eOr1_t : eOr1 b env (.ok (.bl true) h) = .ok (.bl true) h := rfl
theorem eOr1_d (p : Bool) : eOr1 b env (.ok (.bl p) h) = if p = true then .ok (.bl true) h else b env h := by cases p <;> rfl
def eNot1 (r : R D) : R D := r.bind fun d h1 => match d with
  | .bl b => .ok (.bl (!b)) h1
  | _ => .bad
@[simp] theorem eNot_eq : eNot a env h = eNot1 (a env h) := rfl
@[simp] theorem eNot1_b (k : Bool) : eNot1 (.ok (.bl k) h) = .ok (.bl (!k)) h := rfl
def eIf1 (env : Ev) (r : R Bool) : R D := r.bind fun c h1 => if c = true then a env h1 else b env h1
@[simp] theorem eIf_eq : eIf t a b env h = eIf1 a b env (t env h) := rfl
@[simp] theorem eIf1_t : eIf1 a b env (.ok true h) = a env h := rfl
@[simp] theorem eIf1_f : eIf1 a b env (.ok false h) = b env h := rfl
theorem eIf1_d (p : Bool) : eIf1 a b env (.ok p h) = if p = true then a env h else b env h := by cases p <;> rfl
def eCh1 (env : Ev) (r : R D) : R D := r.bind fun x h1 => (b env h1).bind fun y h2 => (R.opt (f x y h2)).bind fun z h3 => match z with
  | .bl true => (c env h3).bind fun w h4 => R.opt (g y w h4)
  | .bl false => .ok (.bl false) h3
  | _ => .bad
def eCh2 (env : Ev) (x : D) (r : R D) : R D := r.bind fun y h2 => (R.opt (f x y h2)).bind fun z h3 => match z with
  | .bl true => (c env h3).bind fun w h4 => R.opt (g y w h4)
  | .bl false => .ok (.bl false) h3
  | _ => .bad
def eCh3 (env : Ev) (y : D) (r : R D) : R D := r.bind fun z h3 => match z with
  | .bl true => (c env h3).bind fun w h4 => R.opt (g y w h4)
  | .bl false => .ok (.bl false) h3
  | _ => .bad
@[simp] theorem eCh_eq : eCh f g a b c env h = eCh1 f g b c env (a env h) := rfl
@[simp] theorem eCh1_ok : eCh1 f g b c env (.ok d h) = eCh2 f g c env d (b env h) := rfl
@[simp] theorem eCh2_ok : eCh2 f g c env d (.ok e h) = eCh3 g c env e (R.opt (f d e h)) := rfl
@[simp] theorem eCh3_t : eCh3 g c env e (.ok (.bl true) h) = eB2 g e (c env h) := rfl
@[simp] theorem eCh3_f : eCh3 g c env e (.ok (.bl false) h) = .ok (.bl false) h := rfl
def tTru1 (r : R D) : R Bool := r.bind fun d h1 => optB (opTruth d h1) h1
@[simp] theorem tTru_eq : tTru a env h = tTru1 (a env h) := rfl
@[simp] theorem tTru1_ok : tTru1 (.ok d h) = optB (opTruth d h) h := rfl
def tBl1 (r : R D) : R Bool := r.bind fun d h1 => optB (opBl d) h1
@[simp] theorem tBl_eq : tBl a env h = tBl1 (a env h) := rfl
@[simp] theorem tBl1_ok : tBl1 (.ok d h) = optB (opBl d) h := rfl
def tAnd1 (env : Ev) (r : R Bool) : R Bool := r.bind fun c h1 => if c = true then u env h1 else .ok false h1
@[simp] theorem tAndM_eq : tAndM t u env h = tAnd1 u env (t env h) := rfl
@[simp] theorem tAnd1_t : tAnd1 u env (.ok true h) = u env h := rfl
@[simp] theorem tAnd1_f : tAnd1 u env (.ok false h) = .ok false h := rfl
theorem tAnd1_d (p : Bool) : tAnd1 u env (.ok p h) = if p = true then u env h else .ok false h := by cases p <;> rfl
def tOr1 (env : Ev) (r : R Bool) : R Bool := r.bind fun c h1 => if c = true then .ok true h1 else u env h1
@[simp] theorem tOrM_eq : tOrM t u env h = tOr1 u env (t env h) := rfl
@[simp] theorem tOr1_t : tOr1 u env (.ok true h) = .ok true h := rfl
@[simp] theorem tOr1_f : tOr1 u env (.ok false h) = u env h := rfl
theorem tOr1_d (p : Bool) : tOr1 u env (.ok p h) = if p = true then .ok true h else u env h := by cases p <;> rfl
def tNot1 (r : R Bool) : R Bool := r.bind fun c h1 => .ok (!c) h1
@[simp] theorem tNotM_eq : tNotM t env h = tNot1 (t env h) := rfl
@[simp] theorem tNot1_ok (k : Bool) : tNot1 (.ok k h) = .ok (!k) h := rfl
def evs1 (env : Ev) (r : R D) : R (List D) := r.bind fun d h1 => (evs ms env h1).bind fun ds h2 => .ok (d :: ds) h2
def evs2 (d : D) (r : R (List D)) : R (List D) := r.bind fun ds h2 => .ok (d :: ds) h2
@[simp] theorem evs_nil : evs [] env h = .ok [] h := rfl
@[simp] theorem evs_cons : evs (a :: ms) env h = evs1 ms env (a env h) := rfl
@[simp] theorem evs1_ok : evs1 ms env (.ok d h) = evs2 d (evs ms env h) := rfl
@[simp] theorem evs2_ok : evs2 d (.ok ds h) = .ok (d :: ds) h := rfl
def eN1 (r : R (List D)) : R D := r.bind fun ds h1 => R.opt (fn ds h1)
@[simp] theorem eN_eq : eN fn ms env h = eN1 fn (evs ms env h) := rfl
@[simp] theorem eN1_ok : eN1 fn (.ok ds h) = R.opt (fn ds h) := rfl
def eTup1 (r : R (List D)) : R D := r.bind fun ds h1 => .ok (.tup ds) h1
@[simp] theorem eTup_eq : eTup ms env h = eTup1 (evs ms env h) := rfl
@[simp] theorem eTup1_ok : eTup1 (.ok ds h) = .ok (.tup ds) h := rfl
def eLst1 (r : R (List D)) : R D := r.bind fun ds h1 => .ok (.ref h1.length) (h1 ++ [.lst ds])
@[simp] theorem eLst_eq : eLst ms env h = eLst1 (evs ms env h) := rfl
@[simp] theorem eLst1_ok : eLst1 (.ok ds h) = .ok (.ref h.length) (h ++ [.lst ds]) := rfl
def eCall1 (k : Fm) (r : R (List D)) : R D := r.bind fun ds h1 => k ds h1
@[simp] theorem eCall_eq (k : Fm) : eCall k ms env h = eCall1 k (evs ms env h) := rfl
@[simp] theorem eCall1_ok (k : Fm) : eCall1 k (.ok ds h) = k ds h := rfl
def eMt1 (env : Ev) (r : R D) : R D := r.bind fun o h1 => if isL o h1 = true then (evs ms env h1).bind fun ds h2 => R.opt (fm o ds h2) else .bad
def eMt2 (o : D) (r : R (List D)) : R D := r.bind fun ds h2 => R.opt (fm o ds h2)
@[simp] theorem eMt_eq : eMt fm a ms env h = eMt1 fm ms env (a env h) := rfl
@[simp] theorem eMt1_ok : eMt1 fm ms env (.ok d h) = if isL d h = true then eMt2 fm d (evs ms env h) else .bad := rfl
@[simp] theorem eMt2_ok : eMt2 fm d (.ok ds h) = R.opt (fm d ds h) := rfl
variable (lo hi : Option M) (l k : Option Int)
def evO1 (r : R D) : R (Option Int) := r.bind fun d h1 => match d with
  | .int i => .ok (some i) h1
  | _ => .bad
@[simp] theorem evO_none : evO none env h = .ok none h := rfl
@[simp] theorem evO_some : evO (some a) env h = evO1 (a env h) := rfl
@[simp] theorem evO1_ok (j : Int) : evO1 (.ok (.int j) h) = .ok (some j) h := rfl
def eSl1 (env : Ev) (r : R D) : R D := r.bind fun d h1 => (evO lo env h1).bind fun l h2 => (evO hi env h2).bind fun u h3 => R.opt (opSl d l u h3)
def eSl2 (env : Ev) (d : D) (r : R (Option Int)) : R D := r.bind fun l h2 => (evO hi env h2).bind fun u h3 => R.opt (opSl d l u h3)
def eSl3 (d : D) (l : Option Int) (r : R (Option Int)) : R D := r.bind fun u h3 => R.opt (opSl d l u h3)
@[simp] theorem eSl_eq : eSl a lo hi env h = eSl1 lo hi env (a env h) := rfl
@[simp] theorem eSl1_ok : eSl1 lo hi env (.ok d h) = eSl2 hi env d (evO lo env h) := rfl
@[simp] theorem eSl2_ok : eSl2 hi env d (.ok l h) = eSl3 d l (evO hi env h) := rfl
@[simp] theorem eSl3_ok : eSl3 d l (.ok k h) = R.opt (opSl d l k h) := rfl
@[simp] theorem eDK_eq : eDK env h = .ok (.ref h.length) (h ++ [.dK []]) := rfl
@[simp] theorem eDT_eq : eDT env h = .ok (.ref h.length) (h ++ [.dT []]) := rfl
/-! statements -/
@[simp] theorem sSkip_eq : sSkip env h = .nx env h := rfl
def sSeq1 (r : SR) : SR := match r with
  | .nx env' h' => s2 env' h'
  | r => r
@[simp] theorem sSeq_eq : sSeq s1 s2 env h = sSeq1 s2 (s1 env h) := by
  unfold sSeq sSeq1
  cases s1 env h <;> rfl
@[simp] theorem sSeq1_nx : sSeq1 s2 (.nx env h) = s2 env h := rfl
@[simp] theorem sSeq1_rt : sSeq1 s2 (.rt d h) = .rt d h := rfl
@[simp] theorem sSeq1_bk : sSeq1 s2 (.bk env h) = .bk env h := rfl
@[simp] theorem sSeq1_ct : sSeq1 s2 (.ct env h) = .ct env h := rfl
@[simp] theorem sSeq1_exc (n : Nat) : sSeq1 s2 (.exc n ds env h) = .exc n ds env h := rfl
def sRet1 (env : Ev) (r : R D) : SR := bindS r env fun d h1 => .rt d h1
@[simp] theorem sRet_eq : sRet a env h = sRet1 env (a env h) := rfl
@[simp] theorem sRet1_ok : sRet1 env (.ok d h) = .rt d h := rfl
@[simp] theorem sRet1_exc (n : Nat) : sRet1 env (.exc n ds h) = .exc n ds env h := rfl
@[simp] theorem sRetN_eq : sRetN env h = .rt .non h := rfl
def sExpr1 (env : Ev) (r : R D) : SR := bindS r env fun _ h1 => .nx env h1
@[simp] theorem sExpr_eq : sExpr a env h = sExpr1 env (a env h) := rfl
@[simp] theorem sExpr1_ok : sExpr1 env (.ok d h) = .nx env h := rfl
@[simp] theorem sExpr1_exc (n : Nat) : sExpr1 env (.exc n ds h) = .exc n ds env h := rfl
def sSet1 (i : Nat) (env : Ev) (r : R D) : SR := bindS r env fun d h1 => .nx (env.set i (some d)) h1
@[simp] theorem sSet_eq : sSet i a env h = sSet1 i env (a env h) := rfl
@[simp] theorem sSet1_ok : sSet1 i env (.ok d h) = .nx (env.set i (some d)) h := rfl
@[simp] theorem sSet1_exc (n : Nat) : sSet1 i env (.exc n ds h) = .exc n ds env h := rfl
def sIf1 (env : Ev) (r : R Bool) : SR := bindS r env fun c h1 => if c = true then s1 env h1 else s2 env h1
@[simp] theorem sIf_eq : sIf t s1 s2 env h = sIf1 s1 s2 env (t env h) := rfl
@[simp] theorem sIf1_t : sIf1 s1 s2 env (.ok true h) = s1 env h := rfl
@[simp] theorem sIf1_f : sIf1 s1 s2 env (.ok false h) = s2 env h := rfl
theorem sIf1_d (p : Bool) : sIf1 s1 s2 env (.ok p h) = if p = true then s1 env h else s2 env h := by cases p <;> rfl
@[simp] theorem sBk_eq : sBk env h = .bk env h := rfl
@[simp] theorem sCt_eq : sCt env h = .ct env h := rfl
variable (tg : TgM) (mi : Ev → Hh → R Src) (src : Src)
def sUnp1 (env : Ev) (r : R D) : SR := bindS r env fun d h1 => match tg d h1 env with
  | some env' => .nx env' h1
  | none => .bad
@[simp] theorem sUnp_eq : sUnp tg a env h = sUnp1 tg env (a env h) := rfl
@[simp] theorem sUnp1_ok : sUnp1 tg env (.ok d h) = match tg d h env with
  | some env' => .nx env' h
  | none => .bad := rfl
@[simp] theorem gtName_eq : gtName i d h env = some (env.set i (some d)) := rfl
noncomputable def sFor1 (env : Ev) (r : R Src) : SR := bindS r env fun src h1 => forL tg s1 src.2 src.1 env h1
@[simp] theorem sFor_eq : sFor mi tg s1 env h = sFor1 s1 tg env (mi env h) := rfl
@[simp] theorem sFor1_ok : sFor1 s1 tg env (.ok src h) = forL tg s1 src.2 src.1 env h := rfl
def mSeq1 (r : R D) : R Src := r.bind fun d h1 => match d with
  | .tup ds => .ok (ds, none) h1
  | .fls ds => .ok (ds, none) h1
  | .ref n => match h1[n]? with
    | some (.lst ds) => .ok (ds, some (n, .lst ds)) h1
    | _ => .bad
  | _ => .bad
@[simp] theorem mSeq_eq : mSeq a env h = mSeq1 (a env h) := rfl
@[simp] theorem mSeq1_t : mSeq1 (.ok (.tup ds) h) = .ok (ds, none) h := rfl
@[simp] theorem mSeq1_f : mSeq1 (.ok (.fls ds) h) = .ok (ds, none) h := rfl
@[simp] theorem mSeq1_r (n : Nat) : mSeq1 (.ok (.ref n) h) = match h[n]? with
    | some (.lst ds) => .ok (ds, some (n, .lst ds)) h
    | _ => .bad := rfl
def mRng11 (r : R D) : R Src := r.bind fun d h1 => match d with
  | .int j => if inR j = true then .ok (rngD 0 j.toNat, none) h1 else .bad
  | _ => .bad
@[simp] theorem mRng1_eq : mRng1 a env h = mRng11 (a env h) := rfl
@[simp] theorem mRng11_ok (j : Int) : mRng11 (.ok (.int j) h) = if inR j = true then .ok (rngD 0 j.toNat, none) h else .bad := rfl
def mRng21 (env : Ev) (r : R D) : R Src := r.bind fun d h1 => (b env h1).bind fun e h2 => match d, e with
  | .int i, .int j => if inR i = true ∧ inR j = true then .ok (rngD i (j - i).toNat, none) h2 else .bad
  | _, _ => .bad
def mRng22 (d : D) (r : R D) : R Src := r.bind fun e h2 => match d, e with
  | .int i, .int j => if inR i = true ∧ inR j = true then .ok (rngD i (j - i).toNat, none) h2 else .bad
  | _, _ => .bad
@[simp] theorem mRng2_eq : mRng2 a b env h = mRng21 b env (a env h) := rfl
@[simp] theorem mRng21_ok : mRng21 b env (.ok d h) = mRng22 d (b env h) := rfl
@[simp] theorem mRng22_ok (i j : Int) : mRng22 (.int i) (.ok (.int j) h) = if inR i = true ∧ inR j = true then .ok (rngD i (j - i).toNat, none) h else .bad := rfl
def sSetIx1 (mo mi : M) (env : Ev) (r : R D) : SR := bindS r env fun v h1 => bindS (mo env h1) env fun o h2 => bindS (mi env h2) env fun i h3 => match opSetIx o i v h3 with
  | some h' => .nx env h'
  | none => .bad
def sSetIx2 (mi : M) (env : Ev) (v : D) (r : R D) : SR := bindS r env fun o h2 => bindS (mi env h2) env fun i h3 => match opSetIx o i v h3 with
  | some h' => .nx env h'
  | none => .bad
def sSetIx3 (env : Ev) (v o : D) (r : R D) : SR := bindS r env fun i h3 => match opSetIx o i v h3 with
  | some h' => .nx env h'
  | none => .bad
@[simp] theorem sSetIx_eq : sSetIx a b c env h = sSetIx1 a b env (c env h) := rfl
@[simp] theorem sSetIx1_ok : sSetIx1 a b env (.ok d h) = sSetIx2 b env d (a env h) := rfl
@[simp] theorem sSetIx2_ok : sSetIx2 b env d (.ok e h) = sSetIx3 env d e (b env h) := rfl
@[simp] theorem sSetIx3_ok (z : D) : sSetIx3 env d e (.ok z h) = match opSetIx e z d h with
  | some h' => .nx env h'
  | none => .bad := rfl
def fnEnd (r : SR) : R D := match r with
  | .nx _ h' => .ok .non h'
  | .rt d h' => .ok d h'
  | .exc c fs _ h' => .exc c fs h'
  | _ => .bad
@[simp] theorem fnM_eq (n : Nat) : fnM n s1 ds h = fnEnd (s1 (ds.map some ++ List.replicate (n - ds.length) none) h) := by
  unfold fnM fnEnd
  cases s1 (ds.map some ++ List.replicate (n - ds.length) none) h <;> rfl
@[simp] theorem fnEnd_nx : fnEnd (.nx env h) = .ok .non h := rfl
@[simp] theorem fnEnd_rt : fnEnd (.rt d h) = .ok d h := rfl
@[simp] theorem fnEnd_exc (n : Nat) : fnEnd (.exc n ds env h) = .exc n ds h := rfl
def sAug1 (i : Nat) (x : D) (env : Ev) (r : R D) : SR := bindS r env fun y h1 => bindS (R.opt (f x y h1)) env fun z h2 => .nx (env.set i (some z)) h2
@[simp] theorem sAug_eq : sAug f i a env h = match env[i]? with
  | some (some x) => sAug1 f i x env (a env h)
  | _ => .bad := rfl
@[simp] theorem sAug1_ok : sAug1 f i d env (.ok e h) = sSet1 i env (R.opt (f d e h)) := rfl
end
section
variable (i j : Int) (x y : Str) (k l : Bool) (xs ys : List D) (n m : Nat) (h : Hh) (d e : D)
@[simp] theorem opAdd_ii : opAdd (.int i) (.int j) h = some (.int (i + j), h) := rfl
@[simp] theorem opAdd_ib : opAdd (.int i) (.bl k) h = some (.int (i + b2i k), h) := rfl
@[simp] theorem opAdd_ss : opAdd (.str x) (.str y) h = if x.length + y.length ≤ sizeLine then some (.str (x ++ y), h) else none := rfl
@[simp] theorem opAdd_tt : opAdd (.tup xs) (.tup ys) h = if xs.length + ys.length ≤ sizeLine then some (.tup (xs ++ ys), h) else none := rfl
@[simp] theorem opAdd_rr : opAdd (.ref m) (.ref n) h = match h[m]?, h[n]? with
    | some (.lst xs), some (.lst ys) => if xs.length + ys.length ≤ sizeLine then some (.ref h.length, h ++ [.lst (xs ++ ys)]) else none
    | _, _ => none := rfl
@[simp] theorem opSub_ii : opSub (.int i) (.int j) h = some (.int (i - j), h) := rfl
@[simp] theorem opMul_ii : opMul (.int i) (.int j) h = if mulOk i j = true then some (.int (i * j), h) else none := rfl
@[simp] theorem opMod_ii : opMod (.int i) (.int j) h = if 0 < j then some (.int (i % j), h) else none := rfl
@[simp] theorem opFdiv_ii : opFdiv (.int i) (.int j) h = if 0 < j ∧ j < 1073741824 then some (.int (i / j), h) else none := rfl
@[simp] theorem opPow_ii : opPow (.int i) (.int j) h = if 0 ≤ j ∧ j ≤ 1000000 ∧ i.natAbs < 18446744073709551616 then some (.int (i ^ j.toNat), h) else none := rfl
@[simp] theorem opNeg_i : opNeg (.int i) h = some (.int (-i), h) := rfl
@[simp] theorem opEq_ii : opEq (.int i) (.int j) h = some (.bl (decide (i = j)), h) := rfl
@[simp] theorem opEq_ss : opEq (.str x) (.str y) h = some (.bl (decide (x = y)), h) := rfl
@[simp] theorem opEq_bb : opEq (.bl k) (.bl l) h = some (.bl (decide (k = l)), h) := rfl
@[simp] theorem opEq_nn : opEq .non .non h = some (.bl true, h) := rfl
@[simp] theorem opNe_ii : opNe (.int i) (.int j) h = some (.bl (!decide (i = j)), h) := rfl
@[simp] theorem opNe_ss : opNe (.str x) (.str y) h = some (.bl (!decide (x = y)), h) := rfl
@[simp] theorem opNe_bb : opNe (.bl k) (.bl l) h = some (.bl (!decide (k = l)), h) := rfl
@[simp] theorem opNe_nn : opNe .non .non h = some (.bl false, h) := rfl
@[simp] theorem opLt_ii : opLt (.int i) (.int j) h = some (.bl (decide (i < j)), h) := rfl
@[simp] theorem opLt_ss : opLt (.str x) (.str y) h = some (.bl (decide (x.cps.toList < y.cps.toList)), h) := rfl
@[simp] theorem opLe_ii : opLe (.int i) (.int j) h = some (.bl (decide (i ≤ j)), h) := rfl
@[simp] theorem opGt_ii : opGt (.int i) (.int j) h = some (.bl (decide (j < i)), h) := rfl
@[simp] theorem opGe_ii : opGe (.int i) (.int j) h = some (.bl (decide (j ≤ i)), h) := rfl
@[simp] theorem opIsN_n : opIsN .non h = some (.bl true, h) := rfl
@[simp] theorem opIsN_i : opIsN (.int i) h = some (.bl false, h) := rfl
@[simp] theorem opIsN_b : opIsN (.bl k) h = some (.bl false, h) := rfl
@[simp] theorem opIsN_s : opIsN (.str x) h = some (.bl false, h) := rfl
@[simp] theorem opIsN_t : opIsN (.tup xs) h = some (.bl false, h) := rfl
@[simp] theorem opIsN_f : opIsN (.fls xs) h = some (.bl false, h) := rfl
@[simp] theorem opIsN_r : opIsN (.ref n) h = some (.bl false, h) := rfl
@[simp] theorem opNotN_n : opNotN .non h = some (.bl false, h) := rfl
@[simp] theorem opNotN_i : opNotN (.int i) h = some (.bl true, h) := rfl
@[simp] theorem opNotN_b : opNotN (.bl k) h = some (.bl true, h) := rfl
@[simp] theorem opNotN_s : opNotN (.str x) h = some (.bl true, h) := rfl
@[simp] theorem opNotN_t : opNotN (.tup xs) h = some (.bl true, h) := rfl
@[simp] theorem opNotN_f : opNotN (.fls xs) h = some (.bl true, h) := rfl
@[simp] theorem opNotN_r : opNotN (.ref n) h = some (.bl true, h) := rfl
@[simp] theorem opTruth_n : opTruth .non h = some false := rfl
@[simp] theorem opTruth_b : opTruth (.bl k) h = some k := rfl
@[simp] theorem opTruth_i : opTruth (.int i) h = some (i != 0) := rfl
@[simp] theorem opTruth_t : opTruth (.tup xs) h = some (!xs.isEmpty) := rfl
@[simp] theorem opTruth_f : opTruth (.fls xs) h = some (!xs.isEmpty) := rfl
@[simp] theorem opTruth_s : opTruth (.str y) h = if y.length ≤ sizeLine then some ((y.length : Int) != 0) else none := rfl
@[simp] theorem opTruth_r : opTruth (.ref n) h = match h[n]? with
    | some (.lst ds) => some (!ds.isEmpty)
    | some (.dK ds) => some (!ds.isEmpty)
    | _ => none := rfl
@[simp] theorem opBl_b : opBl (.bl k) = some k := rfl
@[simp] theorem opIx_t : opIx (.tup xs) (.int i) h = (atI xs i).map fun d => (d, h) := rfl
@[simp] theorem opIx_f : opIx (.fls xs) (.int i) h = (atI xs i).map fun d => (d, h) := rfl
@[simp] theorem opIx_s : opIx (.str x) (.int i) h = if x.length ≤ sizeLine then (atI x.cps.toList i).map fun c => (.str ⟨#[c]⟩, h) else none := rfl
@[simp] theorem opIx_r : opIx (.ref n) (.int i) h = match h[n]? with
    | some (.lst ds) => (atI ds i).map fun d => (d, h)
    | _ => none := rfl
variable (lo hi : Option Int)
@[simp] theorem opSl_t : opSl (.tup xs) lo hi h = some (.tup (cutD xs lo hi), h) := rfl
@[simp] theorem opSl_f : opSl (.fls xs) lo hi h = some (.ref h.length, h ++ [.lst (cutD xs lo hi)]) := rfl
@[simp] theorem opSl_s : opSl (.str x) lo hi h = if x.length ≤ sizeLine then some (.str (cutS x lo hi), h) else none := rfl
@[simp] theorem opSl_r : opSl (.ref n) lo hi h = match h[n]? with
    | some (.lst ds) => some (.ref h.length, h ++ [.lst (cutD ds lo hi)])
    | _ => none := rfl
@[simp] theorem opRev_f : opRev (.fls xs) h = some (.ref h.length, h ++ [.lst xs.reverse]) := rfl
@[simp] theorem opRev_r : opRev (.ref n) h = match h[n]? with
    | some (.lst ds) => some (.ref h.length, h ++ [.lst ds.reverse])
    | _ => none := rfl
@[simp] theorem partsOf_t : partsOf (.tup xs) h = some xs := rfl
@[simp] theorem partsOf_f : partsOf (.fls xs) h = some xs := rfl
@[simp] theorem partsOf_r : partsOf (.ref n) h = match h[n]? with
    | some (.lst ds) => some ds
    | _ => none := rfl
@[simp] theorem gtTup_eq (is : List Nat) (env : Ev) : gtTup is d h env = match partsOf d h with
  | some ds => if ds.length = is.length then some (setAll is ds env) else none
  | none => none := rfl
@[simp] theorem opAbs_i : opAbs [.int i] h = some (.int (if i < 0 then -i else i), h) := rfl
@[simp] theorem opInt_i : opInt [.int i] h = some (.int i, h) := rfl
@[simp] theorem opInt_b : opInt [.bl k] h = some (.int (if k = true then 1 else 0), h) := rfl
@[simp] theorem opMax_ii : opMax [.int i, .int j] h = some (.int (if j > i then j else i), h) := rfl
@[simp] theorem opMin_ii : opMin [.int i, .int j] h = some (.int (if j < i then j else i), h) := rfl
@[simp] theorem opLen_t : opLen [.tup xs] h = some (.int xs.length, h) := rfl
@[simp] theorem opLen_f : opLen [.fls xs] h = some (.int xs.length, h) := rfl
@[simp] theorem opLen_s : opLen [.str y] h = if y.length ≤ sizeLine then some (.int y.length, h) else none := rfl
@[simp] theorem opLen_r : opLen [.ref n] h = match h[n]? with
    | some (.lst ds) => some (.int ds.length, h)
    | some (.dK ds) => some (.int ds.length, h)
    | some (.dT ds) => some (.int ds.length, h)
    | _ => none := rfl
@[simp] theorem opList_t : opList [.tup xs] h = some (.ref h.length, h ++ [.lst xs]) := rfl
@[simp] theorem opList_f : opList [.fls xs] h = some (.ref h.length, h ++ [.lst xs]) := rfl
@[simp] theorem opList_r : opList [.ref n] h = match h[n]? with
    | some (.lst ds) => some (.ref h.length, h ++ [.lst ds])
    | some (.dK kvs) => some (.ref h.length, h ++ [.lst (kvs.map fun kv => kD kv.1)])
    | some (.dT kvs) => some (.ref h.length, h ++ [.lst (kvs.map fun kv => .tup (kv.1.map kD))])
    | _ => none := rfl
@[simp] theorem opTupleOf_t : opTupleOf [.tup xs] h = some (.tup xs, h) := rfl
@[simp] theorem opTupleOf_f : opTupleOf [.fls xs] h = some (.tup xs, h) := rfl
@[simp] theorem opTupleOf_r : opTupleOf [.ref n] h = match h[n]? with
    | some (.lst ds) => some (.tup ds, h)
    | _ => none := rfl
@[simp] theorem opSorted_r : opSorted [.ref n] h = match h[n]? with
    | some (.lst ds) => match intsOf ds with
      | some ns => some (.ref h.length, h ++ [.lst ((sortI ns).map D.int)])
      | none => none
    | some (.dK kvs) => match keyInts kvs with
      | some ns => if ns.length < 64 then some (.ref h.length, h ++ [.lst ((sortI ns).map D.int)]) else none
      | none => none
    | _ => none := rfl
@[simp] theorem isi_n (t : Ty) : opIsi t .non h = some (.bl (isT .none t), h) := rfl
@[simp] theorem isi_b (t : Ty) : opIsi t (.bl k) h = some (.bl (isT .bool t), h) := rfl
@[simp] theorem isi_i (t : Ty) : opIsi t (.int i) h = some (.bl (isT .int t), h) := rfl
@[simp] theorem isi_s (t : Ty) : opIsi t (.str x) h = some (.bl (isT .str t), h) := rfl
@[simp] theorem isi_t (t : Ty) : opIsi t (.tup xs) h = some (.bl (isT .tuple t), h) := rfl
@[simp] theorem isi_f (t : Ty) : opIsi t (.fls xs) h = some (.bl (isT .list t), h) := rfl
@[simp] theorem isi_r (t : Ty) : opIsi t (.ref n) h = (match h[n]? with
    | some (.lst _) => some .list
    | some (.dK _) => some .dict
    | some (.dT _) => some .dict
    | _ => none : Option Ty).map fun u => (.bl (isT u t), h) := rfl
@[simp] theorem isL_r : isL (.ref n) h = (match h[n]? with
    | some (.lst _) => true
    | _ => false) := rfl
@[simp] theorem opAppend_r : opAppend (.ref n) [d] h = match h[n]? with
    | some (.lst xs) => if xs.length < sizeLine then some (.non, h.set n (.lst (xs ++ [d]))) else none
    | _ => none := rfl
@[simp] theorem opPop_r : opPop (.ref n) [] h = match h[n]? with
    | some (.lst xs) => match xs[xs.length - 1]? with
      | some y => some (y, h.set n (.lst xs.dropLast))
      | none => none
    | _ => none := rfl
@[simp] theorem opSetIx_i : opSetIx (.ref n) (.int i) d h = match h[n]? with
    | some (.lst xs) => (ixN xs.length i).map fun j => h.set n (.lst (xs.set j d))
    | some (.dK kvs) => if kvs.length < sizeLine then some (h.set n (.dK (putP kvs (.inl i) d))) else none
    | _ => none := by
  cases e : h[n]? with
  | none => simp [opSetIx, e]
  | some o => cases o <;> simp [opSetIx, e]
@[simp] theorem opSetIx_s : opSetIx (.ref n) (.str x) d h = match h[n]? with
    | some (.dK kvs) => if kvs.length < sizeLine then some (h.set n (.dK (putP kvs (.inr x) d))) else none
    | _ => none := by
  cases e : h[n]? with
  | none => simp [opSetIx, e]
  | some o => cases o <;> simp [opSetIx, e]
@[simp] theorem opSetIx_t : opSetIx (.ref n) (.tup xs) d h = match h[n]? with
    | some (.dT kvs) => match keysOf xs with
      | some ks => if isK xs = false ∧ kvs.length < sizeLine then some (h.set n (.dT (putP kvs ks d))) else none
      | none => none
    | _ => none := rfl
end
@[simp] theorem isT_ii : isT .int .int = true := rfl
@[simp] theorem isT_ib : isT .int .bool = false := rfl
@[simp] theorem isT_bi : isT .bool .int = true := rfl
@[simp] theorem isT_bb : isT .bool .bool = true := rfl
@[simp] theorem isT_it : isT .int .tuple = false := rfl
@[simp] theorem isT_tt : isT .tuple .tuple = true := rfl
@[simp] theorem isT_nt : isT .none .tuple = false := rfl
theorem forL_nil {g : TgM} {body : S} {gd : Option (Nat × O)} {env : Ev} {h : Hh} (hg : gdOk gd h) : forL g body gd [] env h = .nx env h := by
  unfold forL
  rw [if_pos hg]
theorem forL_nx {g : TgM} {body : S} {gd : Option (Nat × O)} {x : D} {xs : List D} {env env1 e' : Ev} {h h' : Hh} (hg : gdOk gd h) (e1 : g x h env = some env1) (e2 : body env1 h = .nx e' h') : forL g body gd (x :: xs) env h = forL g body gd xs e' h' := by
  rw [forL, if_pos hg, e1]
  dsimp only
  rw [e2]
theorem forL_rt {g : TgM} {body : S} {gd : Option (Nat × O)} {x d : D} {xs : List D} {env env1 : Ev} {h h' : Hh} (hg : gdOk gd h) (e1 : g x h env = some env1) (e2 : body env1 h = .rt d h') : forL g body gd (x :: xs) env h = .rt d h' := by
  rw [forL, if_pos hg, e1]
  dsimp only
  rw [e2]
/-- a loop that folds -/
theorem forL_fold {α σ : Type} {g : TgM} {body : S} {gd : Option (Nat × O)} (f : α → D) (upd : σ → α → σ) (Inv : σ → Ev → Hh → Prop) (hg : ∀ s env h, Inv s env h → gdOk gd h) (s0 : σ) (xs : List α) (env : Ev) (h : Hh) (h0 : Inv s0 env h)
    (step : ∀ pre a post env h, xs = pre ++ a :: post → Inv (pre.foldl upd s0) env h → ∃ env1, g (f a) h env = some env1 ∧ ∃ e' h', body env1 h = .nx e' h' ∧ Inv (upd (pre.foldl upd s0) a) e' h') :
    ∃ e' h', forL g body gd (xs.map f) env h = .nx e' h' ∧ Inv (xs.foldl upd s0) e' h' := by
  obtain ⟨e', h', eq, pre, post, hx, hp, i⟩ := forL_inv (g := g) (body := body) (gd := gd) (fun rest env h => ∃ pre post, xs = pre ++ post ∧ rest = post.map f ∧ Inv (pre.foldl upd s0) env h) (xs.map f) env h ⟨[], xs, rfl, rfl, h0⟩
    (fun _ _ _ ⟨_, _, _, _, i⟩ => hg _ _ _ i) (fun x rest env h ⟨pre, post, hx, hp, i⟩ => by
      cases post with
      | nil => cases hp
      | cons a post =>
        obtain ⟨rfl, rfl⟩ := List.cons.inj hp
        obtain ⟨env1, e1, e', h', q, i'⟩ := step pre a post env h hx i
        exact ⟨env1, e1, e', h', q, pre ++ [a], post, by rw [hx, List.append_assoc]; rfl, rfl, by rw [List.foldl_append]; exact i'⟩)
  refine ⟨e', h', eq, ?_⟩
  cases post with
  | nil =>
    rw [List.append_nil] at hx
    rw [hx]
    exact i
  | cons _ _ => cases hp
/-- 0, 1, .. below n -/
def upto (n : Nat) : List Int := (List.range n).map fun (i : Nat) => (i : Int)
theorem rngD_upto (n : Nat) : rngD 0 n = (upto n).map D.int := by
  unfold rngD upto
  rw [List.map_map]
  apply List.map_congr_left
  intro a _
  simp
theorem mem_upto {n : Nat} {x : Int} : x ∈ upto n ↔ 0 ≤ x ∧ x < n := by
  unfold upto
  simp only [List.mem_map, List.mem_range]
  constructor
  · rintro ⟨a, h, rfl⟩
    omega
  · rintro ⟨h1, h2⟩
    exact ⟨x.toNat, by omega, by omega⟩
theorem len_upto (n : Nat) : (upto n).length = n := by unfold upto; simp
/-! ### places behind a heap -/
section
variable (h : Hh) (a b c d : O)
@[simp] theorem hp_at1 : (h ++ [a])[h.length]? = some a := by simp
@[simp] theorem hp_at2 : (h ++ [a, b])[h.length]? = some a := by simp
@[simp] theorem hp_at2b : (h ++ [a, b])[h.length + 1]? = some b := by
  rw [List.getElem?_append_right (by omega)]
  simp
@[simp] theorem hp_set1 : (h ++ [a]).set h.length c = h ++ [c] := by simp
@[simp] theorem hp_set2 : (h ++ [a, b]).set h.length c = h ++ [c, b] := by simp
end
theorem cut_to {xs : List D} {n : Nat} : cutD xs none (some (n : Int)) = xs.take n := by
  unfold cutD
  rw [HT.sIx_none, HT.sIx_nat]
  simp only [List.drop_zero, Nat.sub_zero]
  by_cases h : n ≤ xs.length
  · rw [Nat.min_eq_left h]
  · rw [Nat.min_eq_right (by omega), List.take_of_length_le (Nat.le_refl _), List.take_of_length_le (by omega)]
theorem cut_from {xs : List D} {n : Nat} : cutD xs (some (n : Int)) none = xs.drop n := by
  unfold cutD
  rw [HT.sIx_none, HT.sIx_nat]
  by_cases h : n ≤ xs.length
  · rw [Nat.min_eq_left h, List.take_of_length_le (by simp)]
  · rw [Nat.min_eq_right (by omega), List.drop_of_length_le (Nat.le_refl _), List.drop_of_length_le (by omega)]
    simp
/-- an int's range -/
theorem rngD_nil (lo : Int) : rngD lo 0 = [] := rfl
theorem rngD_succ (lo : Int) (n : Nat) : rngD lo (n + 1) = .int lo :: rngD (lo + 1) n := by
  unfold rngD
  rw [List.range_succ_eq_map]
  simp only [List.map_cons, List.map_map]
  congr 1
  · simp
  · apply List.map_congr_left
    intro a _
    simp only [Function.comp]
    congr 1
    push_cast
    omega
@[simp] theorem b2i_t : b2i true = 1 := rfl
@[simp] theorem b2i_f : b2i false = 0 := rfl
theorem mulOk_r {i j : Int} (h1 : -18446744073709551616 < j) (h2 : j < 18446744073709551616) : mulOk i j = true := by
  unfold mulOk
  simp [h1, h2]
theorem mulOk_l {i j : Int} (h1 : -18446744073709551616 < i) (h2 : i < 18446744073709551616) : mulOk i j = true := by
  unfold mulOk
  simp [h1, h2]
end Sm
/-! SmH: comprehensions, range with a step, extend, all, any, sum, is True, += -/
namespace Sm
open PySem L2 PyProof.Rows

/-! ### the slots of a comprehension's own names -/
theorem wipe_get (σ : L2.St) (j : Nat) : ∀ vs : List Nat, (wipe σ vs)[j]? = if j ∈ vs then (σ[j]?).map (fun _ => none) else σ[j]?
  | [] => by simp [wipe]
  | v :: vs => by
    unfold wipe
    by_cases e : v = j
    · subst e
      have h0 : v ∈ v :: vs := by simp
      rw [if_pos h0]
      by_cases l : v < σ.length
      · rw [List.getElem?_set_self (by rw [wipe_length]; exact l), List.getElem?_eq_getElem l]; rfl
      · rw [List.getElem?_eq_none (by rw [List.length_set, wipe_length]; omega), List.getElem?_eq_none (by omega)]; rfl
    · have e' : ¬ j = v := fun z => e z.symm
      rw [List.getElem?_set_ne e, wipe_get σ j vs]
      simp [e']
theorem wipe_idem (σ : L2.St) (vs : List Nat) : wipe (wipe σ vs) vs = wipe σ vs := by
  apply List.ext_getElem?
  intro j
  rw [wipe_get, wipe_get]
  split
  · rw [Option.map_map]; rfl
  · rfl
theorem wipe_set {σ : L2.St} {vs : List Nat} {i : Nat} {x : Option V} (h : i ∈ vs) : wipe (σ.set i x) vs = wipe σ vs := by
  apply List.ext_getElem?
  intro j
  rw [wipe_get, wipe_get]
  split
  · by_cases e : i = j
    · subst e
      rw [List.getElem?_set, if_pos rfl]
      by_cases l : i < σ.length
      · rw [if_pos l, List.getElem?_eq_getElem l]; rfl
      · rw [if_neg l, List.getElem?_eq_none (by omega)]
    · rw [List.getElem?_set_ne e]
  · rename_i n
    rw [List.getElem?_set_ne (fun e => by subst e; exact n h)]
@[simp] def wipeE (env : Ev) : List Nat → Ev
  | [] => env
  | v :: vs => (wipeE env vs).set v none
theorem Re.wipe {K : PySem.W.Frag} {ρ : List Addr} {H : Hp} {σ : L2.St} {env : Ev} (r : Re K ρ H σ env) : ∀ vs : List Nat, Re K ρ H (L2.wipe σ vs) (wipeE env vs)
  | [] => r
  | v :: vs => by
    have r' := Re.wipe r vs
    unfold L2.wipe wipeE
    refine ⟨by rw [List.length_set, List.length_set, r'.len], fun i d e => ?_⟩
    by_cases q : v = i
    · subst q
      rw [List.getElem?_set, if_pos rfl] at e
      split at e <;> cases e
    · rw [List.getElem?_set_ne q] at e ⊢
      exact r'.get i d e
/-- a target that stores at these slots alone -/
def TgOkW (K : PySem.W.Frag) (G : Cl) (vs : List Nat) (g : TG) (s : TgM) : Prop := ∀ {ρ : List Addr} {H : Hp} {h : Hh} {σ : L2.St} {env env' : Ev} {v : V} {d : D} {Q : L2.St → Hp → Prop}, Rh K G ρ H h → Re K ρ H σ env → Rv K ρ H v d → s d h env = some env' → (∀ σ', Re K ρ H σ' env' → L2.wipe σ' vs = L2.wipe σ vs → Q σ' H) → g v σ H Q
theorem tgw_name {K : PySem.W.Frag} {G : Cl} {vs : List Nat} {i : Nat} (hi : i ∈ vs) : TgOkW K G vs (gName i) (gtName i) := fun {ρ H h σ env env' v d Q} hr he r e k => by
  cases e
  exact k _ (he.set r i) (wipe_set hi)
theorem names_impW {K : PySem.W.Frag} {vs : List Nat} {ρ : List Addr} {H : Hp} : ∀ {is : List Nat} {us : List V} {ds : List D} {σ : L2.St} {env : Ev} {Q : L2.St → Hp → Prop}, (∀ i ∈ is, i ∈ vs) → ds.length = is.length → Re K ρ H σ env → Rvs K ρ H us ds → (∀ σ', Re K ρ H σ' (setAll is ds env) → L2.wipe σ' vs = L2.wipe σ vs → Q σ' H) → gNames is us σ H Q
  | [], _, [], σ, env, Q, _, _, he, .nil, k => ⟨rfl, k σ he rfl⟩
  | i :: is, _, d :: ds, σ, env, Q, hv, l, he, .cons (v := v) (vs := us) r rs, k => ⟨v, us, rfl, names_impW (is := is) (fun j hj => hv j (by simp [hj])) (by simpa using l) (he.set r i) rs fun σ' a b => k σ' a (b.trans (wipe_set (hv i (by simp))))⟩
theorem tgw_tup {K : PySem.W.Frag} {G : Cl} {vs is : List Nat} {n : Nat} (hn : n = is.length) (hv : ∀ i ∈ is, i ∈ vs) : TgOkW K G vs (fun v σ H Q => gTup K n (gNames is) v σ H Q ∨ gLst K n (gNames is) v σ H Q) (gtTup is) := fun {ρ H h σ env env' v d Q} hr he r e k => by
  unfold gtTup at e
  split at e
  · rename_i ds e1
    split at e
    · rename_i hl
      cases e
      unfold partsOf at e1
      split at e1
      · cases e1
        obtain ⟨a, vs, rfl, t, r⟩ := r.sqT
        exact .inl ⟨a, vs, rfl, t, by rw [r.length, hl, hn], names_impW hv hl he r k⟩
      · cases e1
        cases r with
        | fls t r => exact .inr ⟨_, _, rfl, t.sq, by rw [r.length, hl, hn], names_impW hv hl he r k⟩
      · cases r with
        | ref ra =>
          split at e1
          · rename_i e0
            cases e1
            obtain ⟨vs, q, r⟩ := ref_seq hr ra e0
            exact .inr ⟨_, vs, rfl, q, by rw [r.length, hl, hn], names_impW hv hl he r k⟩
          · cases e1
      · cases e1
    · cases e
  · cases e

/-! ### [e for x in xs if t] -/
/-- within a comprehension nothing raises -/
abbrev WN : WX := fun _ _ _ _ => False
theorem Ct.blk {X : Cx} {W : WX} {k : Nat} (c : Ct X W k) (s : Shared) (H : Hp) (scope : Scope) (cenv : Env) (fp : List Addr) : Ct (X.blk s H scope cenv fp) WN k :=
  ⟨fun _ _ ⟨_, _, _, _, _, _, _, _, _, _, _, _, _, _, _, _, w⟩ => w.elim, PassesOwn.never, c.hr, c.hc, c.nd⟩
open Classical in
noncomputable def lcL (g : TgM) (t : MT) (m : M) (vs : List Nat) (n : Nat) (gd : Option (Nat × O)) (env : Ev) : List D → Hh → R D
  | [], h => if gdOk gd h then .ok (.ref n) h else .bad
  | x :: xs, h => if gdOk gd h then (match g x h (wipeE env vs) with
    | none => .bad
    | some env1 => match t env1 h with
      | .ok true h1 => (match m env1 h1 with
        | .ok d h2 => (match h2[n]? with
          | some (.lst acc) => if acc.length < sizeLine then lcL g t m vs n gd env xs (h2.set n (.lst (acc ++ [d]))) else .bad
          | _ => .bad)
        | _ => .bad)
      | .ok false h1 => lcL g t m vs n gd env xs h1
      | _ => .bad) else .bad
noncomputable def eLc (mi : Ev → Hh → R Src) (g : TgM) (t : MT) (m : M) (vs : List Nat) : M := fun env h => (mi env h).bind fun src h1 => lcL g t m vs h1.length src.2 env src.1 (h1 ++ [.lst []])
def tYesM : MT := fun _ h => .ok true h
section
variable {X : Cx} {G : Cl} {W : WX} {e a b c elt tg iter : Expr} {ifs es : List Expr} {pos p : Pos} {m mo : M} {ms : List M} {t : MT} {K : PySem.W.Frag} {ρ : List Addr} {H : Hp} {h : Hh} {σ : L2.St} {env : Ev} {D0 : Ends}
theorem lc_sound {wi : TI} {mi : Ev → Hh → R Src} {g : TG} {s : TgM} {tt : TT} {te : TE} {vs : List Nat} (oi : ItOk K G W wi mi) (ok : TgOkW K G vs g s) (ht : ∀ σ H Q, tT K G WN t σ H Q → tt σ H Q) (hte : ∀ σ H Q, tM K G WN m σ H Q → te σ H Q) (σ : L2.St) (H : Hp) (Q : VK)
    (q : tM K G W (eLc mi s t m vs) σ H Q) : tLc wi g tt te vs σ H Q := by
  obtain ⟨ρ, h, env, hr, he, p⟩ := q
  refine oi σ H _ (tG_mono (tG_bind hr he p) fun J H1 ⟨ρ1, h1, src, e1, hr1, he1, w, p1⟩ => fun L hL => ?_)
  obtain ⟨xs, gd⟩ := src
  dsimp only at w p1
  have hr2 := Rh.new (o := .lst []) hr1 hL (Ro.lst upd_same .nil)
  have hx2 : Ex K ρ1 H1 (ρ1 ++ [L]) (upd H1 L (.lst [])) := Ex.push hL
  have hn : (ρ1 ++ [L])[h1.length]? = some L := by rw [← hr1.len]; exact get_push_eq
  generalize h1.length = n at hn p1
  refine ⟨fun i k H' => i ≤ xs.length ∧ k = xs.length - i ∧ ∃ ρ' h', Ex K ρ1 H1 ρ' H' ∧ Rh K G ρ' H' h' ∧ ρ'[n]? = some L ∧ Re K ρ' H' σ env ∧ Po K G (relV K) W ρ' H' σ (lcL s t m vs n gd env (xs.drop i) h') Q, ⟨_, Nat.zero_le _, rfl, _, _, hx2, hr2, hn, he1.mono hx2, p1.shift hx2⟩, ?_⟩
  rintro i k H' ⟨hi, rfl, ρ', h', ex, hr', hn', he', p'⟩
  by_cases hlt : i < xs.length
  · rw [List.drop_eq_getElem_cons hlt] at p'
    unfold lcL at p'
    split at p'
    · rename_i hg
      refine .inr ⟨w.go i ρ' H' h' hr' ex hg hlt, fun H'' => ∃ ρ2 h2, Ex K ρ' H' ρ2 H'' ∧ Rh K G ρ2 H'' h2 ∧ Po K G (relV K) W ρ2 H'' σ (lcL s t m vs n gd env (xs.drop (i + 1)) h2) Q, fun H'' ⟨ρ2, h2, e2, r2, p2⟩ => ⟨_, by omega, hlt, rfl, ρ2, h2, ex.trans e2, r2, e2.pre _ _ hn', he'.mono e2, p2⟩, fun x H'' y => ?_⟩
      obtain ⟨rfl, rx⟩ := w.yld i ρ' H' h' x H'' hr' ex hg y xs[i] (by simp [hlt])
      split at p'
      · exact p'.elim
      · rename_i env2 q2
        refine ok hr' (he'.wipe vs) rx q2 fun σ2 he2 hw => ⟨hw.trans (wipe_idem σ vs), ?_⟩
        refine ht σ2 _ _ ⟨ρ', h', env2, hr', he2, ?_⟩
        split at p'
        · rename_i h3 q3
          rw [q3]
          intro ρ3 H3 b e3 r3 hb
          subst hb
          simp only [if_true]
          refine hte σ2 _ _ ⟨ρ3, h3, env2, r3, he2.mono e3, ?_⟩
          split at p'
          · rename_i d h4 q4
            rw [q4]
            intro ρ4 H4 v e4 r4 rv
            split at p'
            · rename_i acc q5
              split at p'
              · rename_i hl
                have hn4 : ρ4[n]? = some L := e4.pre _ _ (e3.pre _ _ hn')
                obtain ⟨us, k1, k2⟩ := ref_lst r4 hn4 q5
                have e5 : Ex K ρ4 H4 ρ4 (upd H4 L (.lst (us ++ [v]))) := Ex.write r4 hn4 q5
                refine ⟨us, k1, by rw [k2.length]; exact hl, ρ4, _, (e3.trans e4).trans e5, r4.write hn4 q5 (.lst upd_same ((k2.append (.cons rv .nil)).mono e5)), p'.shift ((e3.trans e4).trans e5)⟩
              · exact p'.elim
            · exact p'.elim
          · exact p'.elim
        · rename_i h3 q3
          rw [q3]
          intro ρ3 H3 b e3 r3 hb
          subst hb
          simp only [Bool.false_eq_true, if_false]
          exact ⟨ρ3, h3, e3, r3, p'.shift e3⟩
        · exact p'.elim
    · exact p'.elim
  · have hl : i = xs.length := by omega
    subst hl
    rw [List.drop_length] at p'
    unfold lcL at p'
    split at p'
    · rename_i hg
      exact .inl ⟨w.stop ρ' H' h' hr' ex hg, p' ρ' H' _ Ex.refl hr' (.ref hn')⟩
    · exact p'.elim
theorem se_lc {scope : Scope} {own : List (Str × Nat)} {wi : TI} {mi : Ev → Hh → R Src} {g : TG} {s : TgM} {tt : TT} (hc : X.calm = true) (hN : X.N.Nodup) (hi : PI X tg iter wi) (oi : ItOk X.K G W wi mi) (bk : BlkOk X.N X.env.scope scope own)
    (hg : ∀ (s : Shared) (H : Hp) (C : Addr) (cl : List (Str × Addr)) (fp : List Addr), PG (X.blk s H scope (compEnvC scope cl C X.env) fp) tg g) (ok : TgOkW X.K G (own.map (·.2)) g s)
    (ht : ∀ (s : Shared) (H : Hp) (C : Addr) (cl : List (Str × Addr)) (fp : List Addr), PTs (X.blk s H scope (compEnvC scope cl C X.env) fp) ifs tt) (htt : ∀ σ H Q, tT X.K G WN t σ H Q → tt σ H Q)
    (he : ∀ (s : Shared) (H : Hp) (C : Addr) (cl : List (Str × Addr)) (fp : List Addr), PE (X.blk s H scope (compEnvC scope cl C X.env) fp) elt (tM X.K G WN m)) (hs : ∀ x, foldedSetIterable iter X.env x = pure x := by intro _; rfl) :
    PE X (.ListComp elt [⟨tg, iter, ifs, 0⟩] scope pos) (tM X.K G W (eLc mi s t m (own.map (·.2)))) :=
  peImp (pe_lc hc hN hi bk hg ht he hs) fun σ H Q q => lc_sound oi ok htt (fun _ _ _ z => z) σ H Q q
theorem s_setLc {i : Nat} {y : Str} {py spos : Pos} {scope : Scope} {own : List (Str × Nat)} {wi : TI} {mi : Ev → Hh → R Src} {g : TG} {s : TgM} {tt : TT} (hc : X.calm = true) (hN : X.N.Nodup)
    (hsw : swapsWith (.ListComp elt [⟨tg, iter, ifs, 0⟩] scope pos) (some (.Name y py)) spos.line X.env = pure true) (hi : PI X tg iter wi) (oi : ItOk X.K G W wi mi) (bk : BlkOk X.N X.env.scope scope own)
    (hg : ∀ (s : Shared) (H : Hp) (C : Addr) (cl : List (Str × Addr)) (fp : List Addr), PG (X.blk s H scope (compEnvC scope cl C X.env) fp) tg g) (ok : TgOkW X.K G (own.map (·.2)) g s)
    (ht : ∀ (s : Shared) (H : Hp) (C : Addr) (cl : List (Str × Addr)) (fp : List Addr), PTs (X.blk s H scope (compEnvC scope cl C X.env) fp) ifs tt) (htt : ∀ σ H Q, tT X.K G WN t σ H Q → tt σ H Q)
    (he : ∀ (s : Shared) (H : Hp) (C : Addr) (cl : List (Str × Addr)) (fp : List Addr), PE (X.blk s H scope (compEnvC scope cl C X.env) fp) elt (tM X.K G WN m)) (hs : ∀ x, foldedSetIterable iter X.env x = pure x := by intro _; rfl)
    (hy : X.N[i]? = some y := by rfl) (hyl : X.env.scope.names.lookup y = some .local := by rfl) :
    PS X (.Assign [.Name y py] (.ListComp elt [⟨tg, iter, ifs, 0⟩] scope pos) spos) (tS X.K G W (sSet i (eLc mi s t m (own.map (·.2))))) :=
  psImp (ps_setLc hc hN hy hyl hsw hi bk hg ht he hs) fun D0 σ H q => by
    obtain ⟨ρ, h, env, hr, he, p⟩ := q
    refine lc_sound oi ok htt (fun _ _ _ z => z) σ H _ (tG_mono (tS_bind (rel := relV X.K) hr he p) fun x H1 ⟨ρ1, h1, d, e1, hr1, he1, r1, p1⟩ => ?_)
    exact p1.nx_ hr1 (he1.set r1 i)
theorem inBlkE {k : Nat} {s : Shared} {H : Hp} {scope : Scope} {cenv : Env} {fp : List Addr} {t : TE} (c : Ct X W k) (f : Ct (X.blk s H scope cenv fp) WN k → PE (X.blk s H scope cenv fp) e t) : PE (X.blk s H scope cenv fp) e t := f (c.blk _ _ _ _ _)
theorem inBlkT {k : Nat} {s : Shared} {H : Hp} {scope : Scope} {cenv : Env} {fp : List Addr} {t : TT} (c : Ct X W k) (f : Ct (X.blk s H scope cenv fp) WN k → PT (X.blk s H scope cenv fp) e t) : PTs (X.blk s H scope cenv fp) [e] t := pts_one (f (c.blk _ _ _ _ _))
theorem yes_imp : ∀ σ H Q, tT K G WN tYesM σ H Q → tYes σ H Q := fun σ H Q ⟨ρ, h, env, hr, he, p⟩ => p ρ H true Ex.refl hr rfl
end
/-! ### range with a step -/
def rngS (lo c : Int) (n : Nat) : List D := (List.range n).map fun (i : Nat) => D.int (lo + (i : Int) * c)
def okR3 (i j c : Int) : Bool := decide (c ≠ 0) && decide (c.natAbs < 1073741824) && PySem.Builtin.Range.small i j c
def cntR3 (i j c : Int) : Nat := (PySem.Builtin.Range.rangeSize i j c).toNat
def mRng3 (ma mb mc : M) : Ev → Hh → R Src := fun env h => (ma env h).bind fun d h1 => (mb env h1).bind fun e h2 => (mc env h2).bind fun f h3 => match d, e, f with
  | .int i, .int j, .int c => if okR3 i j c = true then .ok (rngS i c (cntR3 i j c), none) h3 else .bad
  | _, _, _ => .bad
section
variable {X : Cx} {G : Cl} {W : WX} {K : PySem.W.Frag} {ρ : List Addr} {H : Hp} {h : Hh} {σ : L2.St} {env : Ev}
theorem walks_rngS {lo c : Int} {n : Nat} : Walks K G ρ H (Itc lo c n) (rngS lo c n) none := by
  have hl : (rngS lo c n).length = n := by unfold rngS; simp
  refine ⟨fun i ρ' H' h' hr e _ hi => by rw [hl] at hi; exact hi, fun i ρ' H' h' x H2 hr e _ y d hd => ?_, fun ρ' H' h' hr e _ => by rw [hl]; exact Nat.le_refl _⟩
  obtain ⟨rfl, rfl⟩ := y
  unfold rngS at hd
  rw [List.getElem?_map] at hd
  cases q : (List.range n)[i]? with
  | none => rw [q] at hd; cases hd
  | some j =>
    rw [q] at hd
    cases hd
    obtain ⟨h1, h2⟩ := List.getElem?_eq_some_iff.mp q
    simp at h2
    subst h2
    exact ⟨rfl, .int _⟩
theorem io_rng3 {ma mb mc : M} : ItOk K G W (iRng3 (tL K G W (evs [ma, mb, mc]))) (mRng3 ma mb mc) := fun σ H R0 t => by
  obtain ⟨ρ, h, env, hr, he, p⟩ := t
  refine ⟨ρ, h, env, hr, he, ?_⟩
  unfold mRng3 at p
  show Po K G _ W ρ H σ ((ma env h).bind fun d h1 => ((mb env h1).bind fun d2 h2 => ((mc env h2).bind fun d3 h3 => (evs [] env h3).bind fun ds h4 => .ok (d3 :: ds) h4).bind fun ds h3 => .ok (d2 :: ds) h3).bind fun ds h2 => .ok (d :: ds) h2) _
  cases q : ma env h with
  | bad => rw [q] at p; exact p.elim
  | exc c fs h' => rw [q] at p; exact p
  | ok d h1 =>
    rw [q] at p
    simp only [R.bind_ok] at p ⊢
    cases q2 : mb env h1 with
    | bad => rw [q2] at p; exact p.elim
    | exc c fs h' => rw [q2] at p; exact p
    | ok d2 h2 =>
      rw [q2] at p
      simp only [R.bind_ok] at p ⊢
      cases q3 : mc env h2 with
      | bad => rw [q3] at p; exact p.elim
      | exc c fs h' => rw [q3] at p; exact p
      | ok d3 h3 =>
        rw [q3] at p
        simp only [R.bind_ok] at p ⊢
        split at p
        · rename_i i j c
          split at p
          · rename_i hj
            intro ρ' H' vs e a b
            cases b with
            | cons b1 b2 =>
              cases b2 with
              | cons b2 b3 =>
                cases b3 with
                | cons b3 b4 =>
                  cases b1; cases b2; cases b3; cases b4
                  unfold okR3 at hj
                  simp only [Bool.and_eq_true, decide_eq_true_eq] at hj
                  exact ⟨i, j, c, cntR3 i j c, rfl, ⟨hj.1.1, hj.1.2, hj.2, rangeSize_toNat i j c⟩, p ρ' H' _ e a walks_rngS⟩
          · exact p.elim
        · exact p.elim
end
/-! ### all, any, sum -/
def bools : List D → Option (List Bool)
  | [] => some []
  | .bl b :: r => (bools r).map (b :: ·)
  | _ :: _ => none
theorem bools_eq {K : PySem.W.Frag} {ρ : List Addr} {H : Hp} : ∀ {vs : List V} {ds : List D} {bs : List Bool}, Rvs K ρ H vs ds → bools ds = some bs → vs = bs.map V.bl
  | _, _, _, .nil, e => by cases e; rfl
  | _, _, bs, .cons (d := .bl b) h t, e => by
    simp only [bools, Option.map_eq_some_iff] at e
    obtain ⟨ms, e1, rfl⟩ := e
    cases h
    rw [List.map_cons, ← bools_eq t e1]
  | _, _, _, .cons (d := .non) h t, e => by simp [bools] at e
  | _, _, _, .cons (d := .int _) h t, e => by simp [bools] at e
  | _, _, _, .cons (d := .str _) h t, e => by simp [bools] at e
  | _, _, _, .cons (d := .tup _) h t, e => by simp [bools] at e
  | _, _, _, .cons (d := .fls _) h t, e => by simp [bools] at e
  | _, _, _, .cons (d := .ref _) h t, e => by simp [bools] at e
def opAll : List D → Hh → Option (D × Hh)
  | [.fls ds], h => (bools ds).map fun bs => (.bl (bs.all id), h)
  | [.ref n], h => match h[n]? with
    | some (.lst ds) => (bools ds).map fun bs => (.bl (bs.all id), h)
    | _ => none
  | _, _ => none
def opAny : List D → Hh → Option (D × Hh)
  | [.fls ds], h => (bools ds).map fun bs => (.bl (bs.any id), h)
  | [.ref n], h => match h[n]? with
    | some (.lst ds) => (bools ds).map fun bs => (.bl (bs.any id), h)
    | _ => none
  | _, _ => none
def opSum : List D → Hh → Option (D × Hh)
  | [.fls ds], h => (intsOf ds).map fun ns => (.int ns.sum, h)
  | [.ref n], h => match h[n]? with
    | some (.lst ds) => (intsOf ds).map fun ns => (.int ns.sum, h)
    | _ => none
  | _, _ => none
section
variable {X : Cx} {G : Cl} {W : WX} {e o a b c : Expr} {es : List Expr} {pos p : Pos} {m mo : M} {ms : List M} {K : PySem.W.Frag}
theorem im_all : ImpN K G (rAll K) opAll := fun {ρ H h xs ds d h' Q} hr rs e k => by
  unfold opAll at e
  split at e
  · obtain ⟨v, rfl, r⟩ := rs.one
    cases r with
    | fls t r2 =>
      rw [Option.map_eq_some_iff] at e
      obtain ⟨bs, e1, e2⟩ := e
      cases e2
      have q := t.sq
      rw [bools_eq r2 e1] at q
      exact ⟨_, bs, rfl, q, k _ _ _ Ex.refl hr (.bl _)⟩
  · obtain ⟨v, rfl, r⟩ := rs.one
    cases r with
    | ref ra =>
      split at e
      · rename_i zs e0
        rw [Option.map_eq_some_iff] at e
        obtain ⟨bs, e1, e2⟩ := e
        cases e2
        obtain ⟨vs, q, r2⟩ := ref_seq hr ra e0
        rw [bools_eq r2 e1] at q
        exact ⟨_, bs, rfl, q, k _ _ _ Ex.refl hr (.bl _)⟩
      · cases e
  · cases e
theorem im_any : ImpN K G (rAny K) opAny := fun {ρ H h xs ds d h' Q} hr rs e k => by
  unfold opAny at e
  split at e
  · obtain ⟨v, rfl, r⟩ := rs.one
    cases r with
    | fls t r2 =>
      rw [Option.map_eq_some_iff] at e
      obtain ⟨bs, e1, e2⟩ := e
      cases e2
      have q := t.sq
      rw [bools_eq r2 e1] at q
      exact ⟨_, bs, rfl, q, k _ _ _ Ex.refl hr (.bl _)⟩
  · obtain ⟨v, rfl, r⟩ := rs.one
    cases r with
    | ref ra =>
      split at e
      · rename_i zs e0
        rw [Option.map_eq_some_iff] at e
        obtain ⟨bs, e1, e2⟩ := e
        cases e2
        obtain ⟨vs, q, r2⟩ := ref_seq hr ra e0
        rw [bools_eq r2 e1] at q
        exact ⟨_, bs, rfl, q, k _ _ _ Ex.refl hr (.bl _)⟩
      · cases e
  · cases e
theorem im_sum : ImpN K G (rSum K) opSum := fun {ρ H h xs ds d h' Q} hr rs e k => by
  unfold opSum at e
  split at e
  · obtain ⟨v, rfl, r⟩ := rs.one
    cases r with
    | fls t r2 =>
      rw [Option.map_eq_some_iff] at e
      obtain ⟨bs, e1, e2⟩ := e
      cases e2
      have q := t.sq
      have := intsOf_eq e1
      subst this
      rw [r2.ints] at q
      exact ⟨_, bs, rfl, q, k _ _ _ Ex.refl hr (.int _)⟩
  · obtain ⟨v, rfl, r⟩ := rs.one
    cases r with
    | ref ra =>
      split at e
      · rename_i zs e0
        rw [Option.map_eq_some_iff] at e
        obtain ⟨bs, e1, e2⟩ := e
        cases e2
        obtain ⟨vs, q, r2⟩ := ref_seq hr ra e0
        have := intsOf_eq e1
        subst this
        rw [r2.ints] at q
        exact ⟨_, bs, rfl, q, k _ _ _ Ex.refl hr (.int _)⟩
      · cases e
  · cases e
/-! ### is True -/
def opIsB : D → D → Hh → Option (D × Hh)
  | .bl a, .bl b, h => some (.bl (decide (a = b)), h)
  | _, _, _ => none
theorem im_isB : Imp2 K G (fun x y H Q => ∃ a b : Bool, x = .bl a ∧ y = .bl b ∧ Q (.bl (decide (a = b))) H) opIsB := fun {ρ H h x y dx dy d h' Q} hr rx ry e k => by
  cases rx <;> cases ry <;> simp only [opIsB] at e <;> cases e
  exact ⟨_, _, rfl, rfl, k _ _ _ Ex.refl hr (.bl _)⟩
theorem se_isB {ma mb : M} {a b : Expr} (hu : X.A.units + 64 < cLine) (ha : PE X a (tM X.K G W ma)) (hb : PE X b (tM X.K G W mb)) : PE X (.Compare a [.Is] [b] pos) (tM X.K G W (eB opIsB ma mb)) := se_cmp op_is_bl im_isB ha hb (nomark _)
theorem st_isB {ma mb : M} {a b : Expr} (hu : X.A.units + 64 < cLine) (ha : PE X a (tM X.K G W ma)) (hb : PE X b (tM X.K G W mb)) : PT X (.Compare a [.Is] [b] pos) (tT X.K G W (tBl (eB opIsB ma mb))) := st_cmp op_is_bl im_isB ha hb (nomark _)
/-! ### += of numbers -/
def opIAddI : D → D → Hh → Option (D × Hh)
  | .int a, .int b, h => some (.int (a + b), h)
  | _, _, _ => none
theorem im_iaddI : Imp2 K G (rI0 fun i j => .int (i + j)) opIAddI := fun {ρ H h x y dx dy d h' Q} hr rx ry e k => by
  cases rx <;> cases ry <;> simp only [opIAddI] at e <;> cases e
  exact ⟨_, _, rfl, rfl, k _ _ _ Ex.refl hr (.int _)⟩
/-! ### extend -/
def opExtend : D → List D → Hh → Option (D × Hh)
  | .ref n, [.ref k], h => match h[n]?, h[k]? with
    | some (.lst xs), some (.lst ys) => if xs.length + ys.length ≤ sizeLine then some (.non, h.set n (.lst (xs ++ ys))) else none
    | _, _ => none
  | _, _, _ => none
theorem im_extend : ImpM K G rExtend opExtend := fun {ρ H h x o xs ds d h' Q} hr ro rs e k => by
  unfold opExtend at e
  split at e
  · cases ro with
    | ref ra =>
      obtain ⟨v, rfl, r⟩ := rs.one
      cases r with
      | ref rb =>
        split at e
        · rename_i zs ys e0 e1
          split at e
          · rename_i hl
            cases e
            obtain ⟨vs, q, r2⟩ := ref_lst hr ra e0
            obtain ⟨us, q1, r3⟩ := ref_lst hr rb e1
            exact ⟨_, _, vs, us, rfl, rfl, q, q1, by rw [r2.length, r3.length]; exact hl, wr_lst hr ra e0 (r2.append r3) .non k⟩
          · cases e
        · cases e
  · cases e
theorem se_extend (ho : PE X o (tM X.K G W mo)) (ha : PA X (e :: es) (tL X.K G W (evs ms))) {apos : Pos} (hbase : attributeBase o "extend" X.env (eval o X.env) = eval o X.env := by rfl)
    (hfew : ((backTo pos (starEach (e :: es) X.env)).all (fun x => !x.1) && (backToKw pos (keywordEach [] X.env)).all (fun x => x.1.isSome)
      && decide ((e :: es).length + ([] : List Keyword).length + (if ([] : List Keyword).isEmpty then 0 else 1) < 30)) = true := by rfl)
    (hline : (apos.endLine == pos.line) = true := by rfl) (hs : starEach (e :: es) X.env = (false, eval e X.env) :: starEach es X.env := by rfl) (hplain : (backTo pos (starEach es X.env)).any (·.1) = false := by rfl) :
    PE X (.Call (.Attribute o "extend" apos) (e :: es) [] pos) (tM X.K G W (eMt opExtend mo ms)) :=
  peImp (pe_bm PySem.F.plainAttrs_list PySem.F.slot_list_extend PySem.F.type_list_extend mt_extend ho ha hbase hfew hline hs hplain) fun σ H Q t => mt_imp im_extend σ H Q t
end
end Sm
/-! SmI: running the mirrors of SmH -/
namespace Sm
open PySem L2 PyProof.Rows
section
variable (env : Ev) (h : Hh) (f g : D → D → Hh → Option (D × Hh)) (a b c m : M) (d e : D) (ds xs ys : List D) (i j k n : Nat) (s1 s2 : S) (t u : MT) (tg : TgM) (vs : List Nat) (mi : Ev → Hh → R Src) (src : Src)
noncomputable def eLc1 (env : Ev) (r : R Src) : R D := r.bind fun src h1 => lcL tg t m vs h1.length src.2 env src.1 (h1 ++ [.lst []])
@[simp] theorem eLc_eq : eLc mi tg t m vs env h = eLc1 m t tg vs env (mi env h) := rfl
@[simp] theorem eLc1_ok : eLc1 m t tg vs env (.ok src h) = lcL tg t m vs h.length src.2 env src.1 (h ++ [.lst []]) := rfl
@[simp] theorem tYesM_eq : tYesM env h = .ok true h := rfl
def mRng31 (env : Ev) (r : R D) : R Src := r.bind fun d h1 => (b env h1).bind fun e h2 => (c env h2).bind fun f h3 => match d, e, f with
  | .int i, .int j, .int c => if okR3 i j c = true then .ok (rngS i c (cntR3 i j c), none) h3 else .bad
  | _, _, _ => .bad
def mRng32 (env : Ev) (d : D) (r : R D) : R Src := r.bind fun e h2 => (c env h2).bind fun f h3 => match d, e, f with
  | .int i, .int j, .int c => if okR3 i j c = true then .ok (rngS i c (cntR3 i j c), none) h3 else .bad
  | _, _, _ => .bad
def mRng33 (d e : D) (r : R D) : R Src := r.bind fun f h3 => match d, e, f with
  | .int i, .int j, .int c => if okR3 i j c = true then .ok (rngS i c (cntR3 i j c), none) h3 else .bad
  | _, _, _ => .bad
@[simp] theorem mRng3_eq : mRng3 a b c env h = mRng31 b c env (a env h) := rfl
@[simp] theorem mRng31_ok : mRng31 b c env (.ok d h) = mRng32 c env d (b env h) := rfl
@[simp] theorem mRng32_ok : mRng32 c env d (.ok e h) = mRng33 d e (c env h) := rfl
@[simp] theorem mRng33_ok (x y z : Int) : mRng33 (.int x) (.int y) (.ok (.int z) h) = if okR3 x y z = true then .ok (rngS x z (cntR3 x y z), none) h else .bad := rfl
@[simp] theorem opAll_r : opAll [.ref n] h = match h[n]? with
    | some (.lst ds) => (bools ds).map fun bs => (.bl (bs.all id), h)
    | _ => none := rfl
@[simp] theorem opAny_r : opAny [.ref n] h = match h[n]? with
    | some (.lst ds) => (bools ds).map fun bs => (.bl (bs.any id), h)
    | _ => none := rfl
@[simp] theorem opSum_r : opSum [.ref n] h = match h[n]? with
    | some (.lst ds) => (intsOf ds).map fun ns => (.int ns.sum, h)
    | _ => none := rfl
@[simp] theorem opIsB_bb (p q : Bool) : opIsB (.bl p) (.bl q) h = some (.bl (decide (p = q)), h) := rfl
@[simp] theorem opIAddI_ii (x y : Int) : opIAddI (.int x) (.int y) h = some (.int (x + y), h) := rfl
@[simp] theorem opExtend_rr : opExtend (.ref n) [.ref k] h = match h[n]?, h[k]? with
    | some (.lst xs), some (.lst ys) => if xs.length + ys.length ≤ sizeLine then some (.non, h.set n (.lst (xs ++ ys))) else none
    | _, _ => none := rfl
end
/-- a comprehension that changes nothing -/
theorem lcL_pure {g : TgM} {t : MT} {m : M} {vs : List Nat} {gd : Option (Nat × O)} {env : Ev} (h : Hh) (f : D → D) (hg : ∀ acc, gdOk gd (h ++ [.lst acc])) : ∀ (xs acc : List D),
    (∀ x ∈ xs, ∀ acc, ∃ env1, g x (h ++ [.lst acc]) (wipeE env vs) = some env1 ∧ t env1 (h ++ [.lst acc]) = .ok true (h ++ [.lst acc]) ∧ m env1 (h ++ [.lst acc]) = .ok (f x) (h ++ [.lst acc])) →
    acc.length + xs.length ≤ sizeLine → lcL g t m vs h.length gd env xs (h ++ [.lst acc]) = .ok (.ref h.length) (h ++ [.lst (acc ++ xs.map f)])
  | [], acc, _, _ => by
    unfold lcL
    rw [if_pos (hg acc)]
    simp
  | x :: xs, acc, hx, hl => by
    obtain ⟨env1, e1, e2, e3⟩ := hx x (by simp) acc
    rw [List.length_cons] at hl
    unfold lcL
    rw [if_pos (hg acc), e1]
    dsimp only
    rw [e2]
    dsimp only
    rw [e3]
    simp only [hp_at1]
    rw [if_pos (by omega)]
    have := lcL_pure h f hg xs (acc ++ [f x]) (fun y hy => hx y (by simp [hy])) (by simp; omega)
    simpa using this
/-- a comprehension, by what holds of the rest and of the list so far -/
theorem lcL_inv {g : TgM} {t : MT} {m : M} {vs : List Nat} {n : Nat} {gd : Option (Nat × O)} {env : Ev} (I : List D → List D → Hh → Prop)
    (hg : ∀ rest acc h, I rest acc h → gdOk gd h)
    (step : ∀ x rest acc h, I (x :: rest) acc h → ∃ env1 d h2, g x h (wipeE env vs) = some env1 ∧ t env1 h = .ok true h ∧ m env1 h = .ok d h2 ∧ h2[n]? = some (.lst acc) ∧ acc.length < sizeLine ∧ I rest (acc ++ [d]) (h2.set n (.lst (acc ++ [d])))) :
    ∀ (xs acc : List D) (h : Hh), I xs acc h → ∃ acc' h', lcL g t m vs n gd env xs h = .ok (.ref n) h' ∧ I [] acc' h'
  | [], acc, h, i => by
    refine ⟨acc, h, ?_, i⟩
    unfold lcL
    rw [if_pos (hg _ _ _ i)]
  | x :: xs, acc, h, i => by
    obtain ⟨env1, d, h2, e1, e2, e3, e4, hl, i'⟩ := step x xs acc h i
    obtain ⟨acc', h', e, j⟩ := lcL_inv I hg step xs _ _ i'
    refine ⟨acc', h', ?_, j⟩
    unfold lcL
    rw [if_pos (hg _ _ _ i), e1]
    dsimp only
    rw [e2]
    dsimp only
    rw [e3]
    dsimp only
    rw [e4]
    dsimp only
    rw [if_pos hl]
    exact e
theorem inR_ok {i : Int} (h0 : -2000000 ≤ i) (h1 : i ≤ 2000000) : inR i = true := Nat.ble_eq_true_of_le (by omega)
theorem rngS_succ (lo c : Int) (n : Nat) : rngS lo c (n + 1) = .int lo :: rngS (lo + c) c n := by
  unfold rngS
  rw [List.range_succ_eq_map, List.map_cons, List.map_map]
  congr 1
  · simp
  · apply List.map_congr_left
    intro a _
    simp only [Function.comp]
    congr 1
    rw [Nat.succ_eq_add_one, Int.natCast_add, Int.add_mul]
    simp
    omega
theorem rngS_zero (lo c : Int) : rngS lo c 0 = [] := rfl
end Sm
/-! SmPool: the drawing functions that many laws share, once. -/
namespace SmPool
open PySem L2 PyProof.Rows Sm
noncomputable def b__law_pool_2 : S := (sIf (tBl (eB opGt (eV 4) (eC (.int 0)))) (sSeq (sExpr (eMt opAppend (eV 1) [(eB opMod (eN opInt [(eV 4)]) (eC (.int 1000)))]))
    (sSet 4 (eB opFdiv (eV 4) (eC (.int 1000))))) sSkip)
noncomputable def b__law_pool_1 : S := (sSeq (sSet 4 (eB opMod (eN opInt [(eB opAdd (eB opMul (eC (.int 2)) (eN opAbs [(eN opInt [(eV 3)])])) (eN opInt [(eB opLt (eV 3) (eC (.int 0)))]))]) (eB opPow (eC (.int 10)) (eC (.int 60)))))
    (sSeq (sSet 2 (eB opMod (eN opInt [(eB opAdd (eB opAdd (eB opMul (eV 2) (eC (.int 48271))) (eV 4)) (eC (.int 11)))]) (eC (.int 2147483647))))
    (sSeq (sIf (tBl (eB opLt (eV 4) (eB opPow (eC (.int 10)) (eC (.int 18))))) (sSeq (sExpr (eMt opAppend (eV 1) [(eB opFdiv (eB opMod (eN opInt [(eB opMul (eV 2) (eC (.int 742938285)))]) (eC (.int 2147483399))) (eC (.int 64)))]))
    (sSet 4 (eC (.int 0)))) sSkip)
    (sFor (mRng1 (eC (.int 20))) (gtName 5) b__law_pool_2))))
noncomputable def b__law_pool : S := (sSeq (sSet 1 (eLst []))
    (sSeq (sSet 2 (eC (.int 7)))
    (sSeq (sFor (mSeq (eSl (eV 0) none (some (eC (.int 63))))) (gtName 3) b__law_pool_1)
    (sRet (eB opAdd (eLst [(eV 2)]) (eU opRev (eV 1)))))))
noncomputable def m__law_pool : Fm := fnM 6 b__law_pool
noncomputable def b__law_take : S := (sSeq (sIf (tBl (eB opGt (eN opLen [(eV 0)]) (eC (.int 1)))) (sRet (eB opMod (eN opInt [(eMt opPop (eV 0) [])]) (eV 1))) sSkip)
    (sSeq (sSetIx (eV 0) (eC (.int 0)) (eB opMod (eN opInt [(eB opAdd (eB opMul (eB opIx (eV 0) (eC (.int 0))) (eC (.int 48271))) (eC (.int 11)))]) (eC (.int 2147483647))))
    (sRet (eB opMod (eN opInt [(eB opFdiv (eB opMod (eN opInt [(eB opMul (eB opIx (eV 0) (eC (.int 0))) (eC (.int 742938285)))]) (eC (.int 2147483399))) (eC (.int 64)))]) (eV 1)))))
noncomputable def m__law_take : Fm := fnM 2 b__law_take
noncomputable def b__law_wide : S := (sRet (eB opMod (eN opInt [(eB opAdd (eB opMul (eCall m__law_take [(eV 0), (eC (.int 1000))]) (eC (.int 1000))) (eCall m__law_take [(eV 0), (eC (.int 1000))]))]) (eV 1)))
noncomputable def m__law_wide : Fm := fnM 2 b__law_wide
noncomputable def b__law_edge : S := (sSeq (sSet 2 (eCall m__law_take [(eV 0), (eC (.int 6))]))
    (sSeq (sIf (tBl (eB opEq (eV 2) (eC (.int 0)))) (sRet (eC (.int 0))) sSkip)
    (sSeq (sIf (tBl (eB opEq (eV 2) (eC (.int 1)))) (sRet (eV 1)) sSkip)
    (sSeq (sIf (tBl (eB opEq (eV 2) (eC (.int 2)))) (sRet (eN opMax [(eC (.int 0)), (eB opSub (eV 1) (eCall m__law_take [(eV 0), (eC (.int 3))]))])) sSkip)
    (sSeq (sIf (tBl (eB opEq (eV 2) (eC (.int 3)))) (sRet (eN opMin [(eV 1), (eCall m__law_take [(eV 0), (eC (.int 8))])])) sSkip)
    (sRet (eCall m__law_wide [(eV 0), (eB opAdd (eV 1) (eC (.int 1)))])))))))
noncomputable def m__law_edge : Fm := fnM 3 b__law_edge
/-- a pool stands at n -/
def Pl (h : Hh) (n : Nat) : Prop := ∃ p : List Int, p ≠ [] ∧ p.length ≤ 2000 ∧ h[n]? = some (.lst (p.map D.int))
theorem take_spec {h : Hh} {n : Nat} {m : Int} {p : List Int} (hp : p ≠ []) (hl : p.length ≤ 2000) (e : h[n]? = some (.lst (p.map D.int))) (hm : 0 < m) :
    ∃ (r : Int) (q : List Int), q ≠ [] ∧ q.length ≤ 2000 ∧ 0 ≤ r ∧ r < m ∧ m__law_take [.ref n, .int m] h = .ok (.int r) (h.set n (.lst (q.map D.int))) := by
  obtain ⟨hn, e'⟩ := List.getElem?_eq_some_iff.mp e
  by_cases hlen : 1 < p.length
  · have hlen' : (1 : Int) < (p.length : Int) := by omega
    obtain ⟨y, hy⟩ : ∃ y, p[p.length - 1]? = some y := ⟨p[p.length - 1], by simp⟩
    refine ⟨y % m, p.dropLast, ?_, ?_, Int.emod_nonneg _ (by omega), Int.emod_lt_of_pos _ hm, ?_⟩
    · intro z
      have := congrArg List.length z
      simp at this
      omega
    · simp; omega
    · simp [m__law_take, b__law_take, e, hlen', hy, hm]
  · cases p with
    | nil => exact absurd rfl hp
    | cons x p =>
      have hp0 : p = [] := by
        cases p with
        | nil => rfl
        | cons _ _ => simp at hlen
      subst hp0
      refine ⟨(((x * 48271 + 11) % 2147483647) * 742938285 % 2147483399 / 64) % m, [(x * 48271 + 11) % 2147483647], by simp, by simp, Int.emod_nonneg _ (by omega), Int.emod_lt_of_pos _ hm, ?_⟩
      have hs : ∀ o : O, (h.set n o)[n]? = some o := fun o => List.getElem?_set_self hn
      simp [m__law_take, b__law_take, e, hm, mulOk_r, ixN, atI, hs]

theorem big_line {n : Nat} (h : n ≤ 3000) : n < sizeLine := by rw [sizeLine_eq]; omega
theorem inner_spec (h : Hh) (cells : O) (e0 e2 e3 : Option D) (num : Int) (e5 : Option D) (xs : List D) (p : List Int) (hl : p.length + xs.length ≤ 2900) :
    ∃ (q : List Int) (num' : Int) (e5' : Option D), q.length ≤ p.length + xs.length ∧ forL (gtName 5) b__law_pool_2 none xs [e0, some (.ref h.length), e2, e3, some (.int num), e5] (h ++ [.lst (p.map D.int), cells]) =
      .nx [e0, some (.ref h.length), e2, e3, some (.int num'), e5'] (h ++ [.lst (q.map D.int), cells]) := by
  obtain ⟨e', h', eq, q, num', e5', hq, rfl, rfl⟩ := forL_inv (g := gtName 5) (body := b__law_pool_2) (gd := none)
    (fun rest env h' => ∃ (q : List Int) (num' : Int) (e5' : Option D), q.length + rest.length ≤ p.length + xs.length ∧ env = [e0, some (.ref h.length), e2, e3, some (.int num'), e5'] ∧ h' = h ++ [.lst (q.map D.int), cells])
    xs _ _ ⟨p, num, e5, Nat.le_refl _, rfl, rfl⟩ (fun _ _ _ _ => trivial) (fun x rest env h' => by
      rintro ⟨q, num', e5', hq, rfl, rfl⟩
      rw [List.length_cons] at hq
      have hq' : q.length < sizeLine := big_line (by omega)
      refine ⟨_, rfl, ?_⟩
      by_cases hn : 0 < num'
      · exact ⟨[e0, some (.ref h.length), e2, e3, some (.int (num' / 1000)), some x], h ++ [.lst ((q ++ [num' % 1000]).map D.int), cells], by simp [b__law_pool_2, hn, hq'], q ++ [num' % 1000], num' / 1000, some x, by simp; omega, rfl, rfl⟩
      · exact ⟨[e0, some (.ref h.length), e2, e3, some (.int num'), some x], h ++ [.lst (q.map D.int), cells], by simp [b__law_pool_2, hn], q, num', some x, by omega, rfl, rfl⟩)
  exact ⟨q, num', e5', by simpa using hq, eq⟩
theorem rngD_len (lo : Int) (n : Nat) : (rngD lo n).length = n := by unfold rngD; simp
theorem pool_turn (h : Hh) (cells : O) (e0 : Option D) (seed y : Int) (e4 e5 : Option D) (q : List Int) (hq : q.length ≤ 1400) :
    ∃ (q2 : List Int) (seed' : Int) (e4' e5' : Option D), q2.length ≤ q.length + 21 ∧ b__law_pool_1 [e0, some (.ref h.length), some (.int seed), some (.int y), e4, e5] (h ++ [.lst (q.map D.int), cells]) =
      .nx [e0, some (.ref h.length), some (.int seed'), some (.int y), e4', e5'] (h ++ [.lst (q2.map D.int), cells]) := by
  have hq' : q.length < sizeLine := big_line (by omega)
  have h60 : (10 : Int) ^ 60 = 1000000000000000000000000000000000000000000000000000000000000 := by decide
  have h18 : (10 : Int) ^ 18 = 1000000000000000000 := by decide
  have hb : ∀ (b : Bool), (if b = true then (1 : Int) else 0) = (if b = true then (1 : Int) else 0) := fun _ => rfl
  generalize hN : (2 * (if y < 0 then -y else y) + (if decide (y < 0) = true then 1 else 0)) % (1000000000000000000000000000000000000000000000000000000000000 : Int) = N
  by_cases hn : N < 1000000000000000000
  · obtain ⟨q2, n2, e2, hl, eq⟩ := inner_spec h cells e0 (some (.int ((seed * 48271 + N + 11) % 2147483647))) (some (.int y)) 0 e5 (rngD 0 20) (q ++ [(seed * 48271 + N + 11) % 2147483647 * 742938285 % 2147483399 / 64]) (by rw [rngD_len]; simp; omega)
    rw [rngD_len, List.length_append] at hl
    refine ⟨q2, (seed * 48271 + N + 11) % 2147483647, some (.int n2), e2, by simp at hl; omega, ?_⟩
    rw [List.map_append, List.map_cons, List.map_nil] at eq
    rw [← eq]
    simp [b__law_pool_1, mulOk_r, mulOk_l, h60, h18, Sm.inR] at hN ⊢
    simp [hN, hn, hq', mulOk_r, mulOk_l, Sm.inR]
  · obtain ⟨q2, n2, e2, hl, eq⟩ := inner_spec h cells e0 (some (.int ((seed * 48271 + N + 11) % 2147483647))) (some (.int y)) N e5 (rngD 0 20) q (by rw [rngD_len]; omega)
    rw [rngD_len] at hl
    refine ⟨q2, (seed * 48271 + N + 11) % 2147483647, some (.int n2), e2, by omega, ?_⟩
    rw [← eq]
    simp [b__law_pool_1, mulOk_r, mulOk_l, h60, h18, Sm.inR] at hN ⊢
    simp [hN, hn, mulOk_r, mulOk_l, Sm.inR]
theorem pool_spec (ns : List Int) (hl : ns.length ≤ 63) (h : Hh) : ∃ (p : List Int) (a b c d : O), p ≠ [] ∧ p.length ≤ 2000 ∧
    m__law_pool [.fls (ns.map D.int)] h = .ok (.ref (h.length + 4)) (h ++ [a, b, c, d, .lst (p.map D.int)]) := by
  obtain ⟨e', h', eq, seed, q, e3, e4, e5, ⟨⟨r, hr⟩, hq⟩, rfl, rfl⟩ := forL_inv (g := gtName 3) (body := b__law_pool_1) (gd := some (h.length + 1, .lst (ns.map D.int)))
    (fun rest env h' => ∃ (seed : Int) (q : List Int) (e3 e4 e5 : Option D), ((∃ r : List Int, rest = r.map D.int) ∧ q.length + 21 * rest.length ≤ 1323) ∧ env = [some (.fls (ns.map D.int)), some (.ref h.length), some (.int seed), e3, e4, e5] ∧ h' = h ++ [.lst (q.map D.int), .lst (ns.map D.int)])
    (ns.map D.int) [some (.fls (ns.map D.int)), some (.ref h.length), some (.int 7), none, none, none] (h ++ [.lst [], .lst (ns.map D.int)]) ⟨7, [], none, none, none, ⟨⟨ns, rfl⟩, by simp; omega⟩, rfl, rfl⟩
    (fun rest env h' ⟨_, _, _, _, _, _, _, z⟩ => by subst z; simp) (fun x rest env h' => by
      rintro ⟨seed, q, e3, e4, e5, ⟨⟨r, hr⟩, hq⟩, rfl, rfl⟩
      cases r with
      | nil => cases hr
      | cons y r =>
        obtain ⟨rfl, rfl⟩ := List.cons.inj hr
        rw [List.length_cons] at hq
        obtain ⟨q2, seed', e4', e5', l2, eq⟩ := pool_turn h (.lst (ns.map D.int)) (some (.fls (ns.map D.int))) seed y e4 e5 q (by omega)
        exact ⟨_, rfl, _, _, eq, seed', q2, some (.int y), e4', e5', ⟨⟨r, rfl⟩, by omega⟩, rfl, rfl⟩)
  have hc : cutD (ns.map D.int) none (some 63) = ns.map D.int := by
    have := cut_to (xs := ns.map D.int) (n := 63)
    rw [List.take_of_length_le (by simpa using hl)] at this
    exact this
  have hz : 1 + q.length ≤ sizeLine := by rw [sizeLine_eq]; simp at hq; omega
  refine ⟨seed :: q.reverse, .lst (q.map D.int), .lst (ns.map D.int), .lst [.int seed], .lst (q.reverse.map D.int), by simp, by simp at hq ⊢; omega, ?_⟩
  simp [m__law_pool, b__law_pool, hc, eq, hz]
/-! ### draws: the pool at n -/
theorem set_at {h : Hh} {n : Nat} {o u : O} (e : h[n]? = some u) : (h.set n o)[n]? = some o := List.getElem?_set_self (List.getElem?_eq_some_iff.mp e).1
theorem wide_spec {h : Hh} {n : Nat} {m : Int} {p : List Int} (hp : p ≠ []) (hl : p.length ≤ 2000) (e : h[n]? = some (.lst (p.map D.int))) (hm : 0 < m) :
    ∃ (r : Int) (q : List Int), q ≠ [] ∧ q.length ≤ 2000 ∧ 0 ≤ r ∧ r < m ∧ m__law_wide [.ref n, .int m] h = .ok (.int r) (h.set n (.lst (q.map D.int))) := by
  obtain ⟨r1, q1, a1, b1, _, _, e1⟩ := take_spec (m := 1000) hp hl e (by decide)
  obtain ⟨r2, q2, a2, b2, _, _, e2⟩ := take_spec (h := h.set n (.lst (q1.map D.int))) (m := 1000) a1 b1 (set_at e) (by decide)
  refine ⟨(r1 * 1000 + r2) % m, q2, a2, b2, Int.emod_nonneg _ (by omega), Int.emod_lt_of_pos _ hm, ?_⟩
  simp [m__law_wide, b__law_wide, e1, e2, mulOk_r, hm]
theorem edge_spec {h : Hh} {n : Nat} {m : Int} {p : List Int} (hp : p ≠ []) (hl : p.length ≤ 2000) (e : h[n]? = some (.lst (p.map D.int))) (hm : 0 ≤ m) :
    ∃ (r : Int) (q : List Int), q ≠ [] ∧ q.length ≤ 2000 ∧ 0 ≤ r ∧ r ≤ m ∧ m__law_edge [.ref n, .int m] h = .ok (.int r) (h.set n (.lst (q.map D.int))) := by
  obtain ⟨k, q1, a1, b1, k1, k2, e1⟩ := take_spec (m := 6) hp hl e (by decide)
  have e' := set_at (o := .lst (q1.map D.int)) e
  by_cases h0 : k = 0
  · subst h0
    exact ⟨0, q1, a1, b1, by omega, by omega, by simp [m__law_edge, b__law_edge, e1]⟩
  by_cases h1 : k = 1
  · subst h1
    exact ⟨m, q1, a1, b1, by omega, by omega, by simp [m__law_edge, b__law_edge, e1]⟩
  by_cases h2 : k = 2
  · subst h2
    obtain ⟨r2, q2, a2, b2, _, _, e2⟩ := take_spec (m := 3) a1 b1 e' (by decide)
    exact ⟨if m - r2 > 0 then m - r2 else 0, q2, a2, b2, by split <;> omega, by split <;> omega, by simp [m__law_edge, b__law_edge, e1, e2]⟩
  by_cases h3 : k = 3
  · subst h3
    obtain ⟨r2, q2, a2, b2, _, _, e2⟩ := take_spec (m := 8) a1 b1 e' (by decide)
    exact ⟨if r2 < m then r2 else m, q2, a2, b2, by split <;> omega, by split <;> omega, by simp [m__law_edge, b__law_edge, e1, e2]⟩
  obtain ⟨r2, q2, a2, b2, _, _, e2⟩ := wide_spec (m := m + 1) a1 b1 e' (by omega)
  exact ⟨r2, q2, a2, b2, by omega, by omega, by simp [m__law_edge, b__law_edge, e1, e2, h0, h1, h2, h3]⟩
theorem wide_spec' {h : Hh} {n : Nat} {m : Int} {u : O} {p : List Int} (e : h[n]? = some u) (hp : p ≠ []) (hl : p.length ≤ 2000) (hm : 0 < m) :
    ∃ (r : Int) (q : List Int), q ≠ [] ∧ q.length ≤ 2000 ∧ 0 ≤ r ∧ r < m ∧ m__law_wide [.ref n, .int m] (h.set n (.lst (p.map D.int))) = .ok (.int r) (h.set n (.lst (q.map D.int))) := by
  obtain ⟨r, q, a, b, c, d, f⟩ := wide_spec hp hl (set_at e) hm
  exact ⟨r, q, a, b, c, d, by rw [f, List.set_set]⟩
theorem take_spec' {h : Hh} {n : Nat} {m : Int} {u : O} {p : List Int} (e : h[n]? = some u) (hp : p ≠ []) (hl : p.length ≤ 2000) (hm : 0 < m) :
    ∃ (r : Int) (q : List Int), q ≠ [] ∧ q.length ≤ 2000 ∧ 0 ≤ r ∧ r < m ∧ m__law_take [.ref n, .int m] (h.set n (.lst (p.map D.int))) = .ok (.int r) (h.set n (.lst (q.map D.int))) := by
  obtain ⟨r, q, a, b, c, d, f⟩ := take_spec hp hl (set_at e) hm
  exact ⟨r, q, a, b, c, d, by rw [f, List.set_set]⟩
theorem edge_spec' {h : Hh} {n : Nat} {m : Int} {u : O} {p : List Int} (e : h[n]? = some u) (hp : p ≠ []) (hl : p.length ≤ 2000) (hm : 0 ≤ m) :
    ∃ (r : Int) (q : List Int), q ≠ [] ∧ q.length ≤ 2000 ∧ 0 ≤ r ∧ r ≤ m ∧ m__law_edge [.ref n, .int m] (h.set n (.lst (p.map D.int))) = .ok (.int r) (h.set n (.lst (q.map D.int))) := by
  obtain ⟨r, q, a, b, c, d, f⟩ := edge_spec hp hl (set_at e) hm
  exact ⟨r, q, a, b, c, d, by rw [f, List.set_set]⟩
theorem get_app {h g : Hh} {n : Nat} {o : O} (e : h[n]? = some o) : (h ++ g)[n]? = some o := by
  rw [List.getElem?_append_left (List.getElem?_eq_some_iff.mp e).1]
  exact e
theorem set_app {h g : Hh} {n : Nat} {o u : O} (e : h[n]? = some o) : (h ++ g).set n u = h.set n u ++ g := List.set_append_left _ _ (List.getElem?_eq_some_iff.mp e).1

/-- what stood still stands, but the pool at p -/
def Xt (p : Nat) (h h' : Hh) : Prop := ∀ n o, n ≠ p → h[n]? = some o → h'[n]? = some o
theorem Xt.refl {p : Nat} {h : Hh} : Xt p h h := fun _ _ _ e => e
theorem Xt.trans {p : Nat} {h h1 h2 : Hh} (a : Xt p h h1) (b : Xt p h1 h2) : Xt p h h2 := fun n o q e => b n o q (a n o q e)
theorem Xt.app {p : Nat} {h g : Hh} : Xt p h (h ++ g) := fun _ _ _ e => get_app e
theorem Xt.set {p : Nat} {h : Hh} {o : O} : Xt p h (h.set p o) := fun n u q e => by rw [List.getElem?_set_ne (fun z => q z.symm)]; exact e
theorem Pl.app {h g : Hh} {p : Nat} (a : Pl h p) : Pl (h ++ g) p := by
  obtain ⟨q, x, y, z⟩ := a
  exact ⟨q, x, y, get_app z⟩
theorem Pl.lt {h : Hh} {p : Nat} (a : Pl h p) : p < h.length := by
  obtain ⟨q, x, y, z⟩ := a
  exact (List.getElem?_eq_some_iff.mp z).1
theorem take_x {h : Hh} {p : Nat} {m : Int} (a : Pl h p) (hm : 0 < m) : ∃ r h', 0 ≤ r ∧ r < m ∧ Pl h' p ∧ Xt p h h' ∧ h'.length = h.length ∧ m__law_take [.ref p, .int m] h = .ok (.int r) h' := by
  obtain ⟨q, x, y, z⟩ := a
  obtain ⟨r, q', x', y', c, d, e⟩ := take_spec x y z hm
  exact ⟨r, _, c, d, ⟨q', x', y', set_at z⟩, Xt.set, by simp, e⟩
theorem wide_x {h : Hh} {p : Nat} {m : Int} (a : Pl h p) (hm : 0 < m) : ∃ r h', 0 ≤ r ∧ r < m ∧ Pl h' p ∧ Xt p h h' ∧ h'.length = h.length ∧ m__law_wide [.ref p, .int m] h = .ok (.int r) h' := by
  obtain ⟨q, x, y, z⟩ := a
  obtain ⟨r, q', x', y', c, d, e⟩ := wide_spec x y z hm
  exact ⟨r, _, c, d, ⟨q', x', y', set_at z⟩, Xt.set, by simp, e⟩
theorem edge_x {h : Hh} {p : Nat} {m : Int} (a : Pl h p) (hm : 0 ≤ m) : ∃ r h', 0 ≤ r ∧ r ≤ m ∧ Pl h' p ∧ Xt p h h' ∧ h'.length = h.length ∧ m__law_edge [.ref p, .int m] h = .ok (.int r) h' := by
  obtain ⟨q, x, y, z⟩ := a
  obtain ⟨r, q', x', y', c, d, e⟩ := edge_spec x y z hm
  exact ⟨r, _, c, d, ⟨q', x', y', set_at z⟩, Xt.set, by simp, e⟩
theorem pool_x (ns : List Int) (hl : ns.length ≤ 63) : ∃ p h, Pl h p ∧ m__law_pool [.fls (ns.map D.int)] [] = .ok (.ref p) h := by
  obtain ⟨p, a, b, c, d, x, y, e⟩ := pool_spec ns hl []
  exact ⟨_, _, ⟨p, x, y, rfl⟩, e⟩
/-- all that stood stands -/
def Kp (h h' : Hh) : Prop := ∀ (n : Nat) (o : O), h[n]? = some o → h'[n]? = some o
theorem Kp.refl {h : Hh} : Kp h h := fun _ _ e => e
theorem Kp.trans {h h1 h2 : Hh} (a : Kp h h1) (b : Kp h1 h2) : Kp h h2 := fun n o e => b n o (a n o e)
theorem Kp.app {h g : Hh} : Kp h (h ++ g) := fun _ _ e => get_app e
theorem Kp.xt {h h' : Hh} {p : Nat} (a : Kp h h') : Xt p h h' := fun n o _ e => a n o e
theorem Kp.pl {h h' : Hh} {p : Nat} (a : Kp h h') (b : Pl h p) : Pl h' p := by
  obtain ⟨q, x, y, z⟩ := b
  exact ⟨q, x, y, a _ _ z⟩
theorem Kp.of_xt {h h' g : Hh} (a : Xt h.length (h ++ g) h') : Kp h h' := fun n o e => a n o (by have := (List.getElem?_eq_some_iff.mp e).1; omega) (get_app e)
theorem Pl.set_ne {H : Hh} {p j : Nat} {o : O} (P : Pl H p) (q : p ≠ j) : Pl (H.set j o) p := by
  obtain ⟨l, a, b, c⟩ := P
  exact ⟨l, a, b, by rw [List.getElem?_set_ne (fun z => q z.symm)]; exact c⟩
theorem Xt.set_new {p : Nat} {h H : Hh} {j : Nat} {o : O} (x : Xt p h H) (q : h.length ≤ j) : Xt p h (H.set j o) := fun n u hn e => by
  have := (List.getElem?_eq_some_iff.mp e).1
  rw [List.getElem?_set_ne (by omega)]
  exact x n u hn e
end SmPool
/-! SmX: own exceptions whose __init__ calls the built-in one through super() -/
namespace Sm
open PySem L2 PyProof.Rows
theorem bt_super : bootBuiltins "super" = some (.type "super") := by decide +kernel
section
variable {X : Cx} {pins : List (Addr × Obj)} {σ : L2.St} {H : Hp} {s : Shared} {E : Value → Shared → Prop}
/-- what K says of such a def and its class -/
structure SupK (X : Cx) (f cc cda D : Addr) (sn : Str) : Prop where
  hks : X.env.kindOf "super" = some .globalImplicit
  hkc : X.env.kindOf "__class__" = some .free
  hka : X.env.kindOf sn = some .local
  hfu : X.env.func = some f
  hco : X.env.code = .ref cda
  hcl : X.env.cells.lookup ("__class__" : Str) = some cc
  fd : ∃ o fd ar, X.K.lookup f = some o ∧ o.data = .func fd ∧ (fd.params.posonlyargs ++ fd.params.args).head? = some ar ∧ ar.arg = sn
  code : ∃ o vs file tf, X.K.lookup cda = some o ∧ o.data = .fields vs ∧ vs[2]? = some (.str file tf) ∧ ((X.prog.main.file : Str) == file) = true
  htop : (X.prog.main.scope.names.lookup ("super" : Str)).isSome = false
  cell : ∃ cl cld csl, X.K.lookup cc = some ⟨cl, cld, .cell (some (.ref D)), csl⟩
  cls : ∃ cdD, PySem.W.clsIn X.K D = some cdD
  mgs : X.mg "super" = none
  thi : PySem.W.nsIn X.K PySem.cStatics "thirdparty.any" = some none
/-- what K says of the class of the error that is made -/
structure SupC (K : PySem.W.Frag) (C D : Addr) : Prop where
  oex : OexC K C
  sub : PySem.W.mroIn K C (.ref D) = some true
  sup : PySem.W.ks_superIn K C D "__init__" = some (some (.builtin "ValueError.__init__"))
  val : PySem.W.subIn K (.ref C) (.type "ValueError") = some true
open PySem.W in
theorem wp_super_init {f cc cda D a C : Addr} {sn : Str} {body : List Stmt} {p0 p1 p2 p3 pos spos : Pos} {m : Str} {j : Nat} {pl : Sem Bool} (S : SupK X f cc cda D sn) (T : SupC X.K C D) (I : Inv X pins σ H s) (hN : X.N[0]? = some sn) (hσ : σ[0]? = some (some (.ref a))) (ha : H a = some (exo a C none)) {Q : Flow → Shared → Prop}
    (hq : ∀ s', Inv X pins σ H s' → Q .next s')
    (he : eval (.Call (.Attribute (.Call (.Name "super" p0) [] [] p1) "__init__" p2) [.Constant (.str m) j p3] [] pos) X.env = (do
      let ov ← attributeBase (.Call (.Name "super" p0) [] [] p1) "__init__" X.env (eval (.Call (.Name "super" p0) [] [] p1) X.env)
      standAt p2.atName
      let (f, first) ← holding [ov] (getMethod ov "__init__" pl)
      callWith pos f first (backTo pos (starEach [.Constant (.str m) j p3] X.env)) []))
    (hs : starEach [.Constant (.str m) j p3] X.env = (false, eval (.Constant (.str m) j p3) X.env) :: starEach [] X.env := by rfl) :
    _root_.PySem.wpAt (model X.prog X.w) X.A (.func body X.env) (exec (.Expr (.Call (.Attribute (.Call (.Name "super" p0) [] [] p1) "__init__" p2) [.Constant (.str m) j p3] [] pos) spos) X.env) Q X.xe s := by
  obtain ⟨oF, fd, ar, hf, hfd, hp, rfl⟩ := S.fd
  obtain ⟨oc, vs, file, tf, hcode, hoc, hvs, hfile⟩ := S.code
  obtain ⟨cl, cld, csl, hcell⟩ := S.cell
  obtain ⟨cdD, hD⟩ := S.cls
  have KX := I.kIn
  obtain ⟨t1, ho⟩ := exo_at I.hok ha
  refine ks_wpAt_Expr_any (hi := I.quiet) (ks_wpAt_MethodCall (pl := pl) ?_ he)
  refine ks_wpAt_super_base S.hks S.hkc rfl S.hfu (KX _ _ hf) hfd hp S.hco (KX _ _ hcode) hoc hvs hfile S.htop ?_
  obtain ⟨mb, b1, b2⟩ := I.mod.blt
  refine ks_loadName_global I.ok.kind S.hks (Calls.loadGlobal_builtin (by rw [I.ok.glob]; exact I.mod.glob.keeps I.bk) S.mgs (by rw [I.ok.blt]; exact b1.keeps I.bk) ((b2 _ (by decide)).trans bt_super) ⟨rfl, ?_⟩)
  refine wpAny_loadName_free I.ok.kind S.hkc S.hcl ⟨_, KX _ _ hcell, rfl⟩ ?_
  obtain ⟨mm, hn, hl⟩ := I.loc
  obtain ⟨u, ru, lk⟩ := hl 0 ar.arg (.ref a) hN hσ (.inl S.hka)
  obtain rfl : u = Value.ref a := ru
  have hmm : mm ar.arg = some (.ref a) := by
    rcases lk with ⟨_, z⟩ | ⟨z, _⟩
    · exact z
    · rw [S.hka] at z
      rcases z with z | z <;> cases z
  refine wpAny_loadName_local I.ok.kind S.hka hn hmm ?_
  obtain ⟨oD, hD1, hD2⟩ : ∃ oD, s.heap.get? D = some oD ∧ oD.data = .cls cdD := by
    unfold clsIn at hD
    split at hD
    · rename_i c d cd' sl ho'
      cases hD
      exact ⟨_, KX _ _ ho', rfl⟩
    · cases hD
  obtain ⟨hh, g, d, t, os⟩ := s
  refine ks_wpAny_isType_cls hD1 hD2 ⟨rfl, ?_⟩
  refine ks_wpAny_call_super hD1 hD2 ho rfl (fun c e => by cases e) (looks_mroIn KX T.sub) (fun h' e k => ?_)
  have I2 : Inv X pins σ H ⟨h', g, d, t, os⟩ := I.kept k
  have KX2 := I2.kIn
  have ho2 := k _ _ ho
  have Ia : InstAt h' a { cls := .ref C, dict := none, data := .fields #[.ref t1, .none, .none, .none, .bool false, .none] } C none := ⟨ho2, rfl, rfl, trivial⟩
  have hI : Looks (model X.prog X.w) h' (isInstance (.ref a) (.type "ValueError")) true := Ia.type.andThen (looks_subIn KX2 T.val)
  have hsup := T.sup
  obtain ⟨cdC, hcC⟩ : ∃ cdC, clsIn X.K C = some cdC := by
    cases hc : clsIn X.K C with
    | none => unfold ks_superIn at hsup; rw [hc] at hsup; cases hsup
    | some cd => exact ⟨cd, rfl⟩
  unfold ks_superIn at hsup
  rw [hcC] at hsup
  refine kxs_getMethod kxs_ValueError e (looks_opaque KX2 S.thi) (l₀ := cdC.mro) (fun A Q E s k q => wpAny_bind ((looks_clsIn KX2 hcC) A _ E s k (wpAny_pure q))) rfl KX2 hsup hI (ks_ne KX2 Ia hcC) (by decide) ?_
  have k3 : ∀ b o, h'.get? b = some o → (h'.push (kxs_mw "ValueError.__init__" a)).get? b = some o := fun b o e => Heap.get?_push_of_some _ e
  have I3 : Inv X pins σ H ⟨h'.push (kxs_mw "ValueError.__init__" a), g, d, t + 1, os⟩ := I2.kept k3
  have hu : (h'.push (kxs_mw "ValueError.__init__" a)).get? h'.objs.size = some (kxs_mw "ValueError.__init__" a) := Heap.get?_push_at rfl rfl
  dsimp only
  rw [hs]
  refine kxs_callWith (i := "ValueError.__init__") (x := a) rfl (Calls.evalArgs_plain ?_)
  show wpAny _ _ (spliced ((false, eval (.Constant (.str m) j p3) X.env) :: backTo pos (starEach [] X.env))) _ _ _
  refine Calls.spliced_cons (Calls.Constant_str ?_)
  refine Calls.spliced_nil ⟨hu, ?_⟩
  obtain ⟨nm, q, N, bs, bm, sn', sub, ab, col, dd, k0, k1, k2, k3', k5, hC, hbm⟩ := T.oex.cls
  have he3 := k3 _ _ ho2
  have hC3 := I3.kIn _ _ hC
  have fin : ∀ h4, (∀ b o, b ≠ a → (h'.push (kxs_mw "ValueError.__init__" a)).get? b = some o → h4.get? b = some o) → (∃ t2 : Addr, h4.get? a = some ({ cls := .ref C, dict := none, data := .fields #[.ref t2, .none, .none, .none, .bool false, .none] } : Obj)) → ∀ t4, Q .next ⟨h4, g, d, t4, os⟩ := fun h4 k4 ⟨t2, hx⟩ t4 => by
    have J := I3.write (t' := t4) (x := a) (e := a) (o := exo a C none) (by rw [ha]; exact True.intro) (.inl rfl) k4 ⟨_, hx⟩ (exo_ok hx)
    have eu : upd H a (exo a C none) = H := by
      funext b
      by_cases hb : b = a
      · rw [hb, upd_same, ha]
      · rw [upd_ne hb]
    rw [eu] at J
    exact hq _ J
  refine wpAny_call (codeAny_of_tree ?_)
  show wpAny _ X.A.in1 (callAny (.ref h'.objs.size) ⟨[.str m _], []⟩) _ _ _
  simp only [callAny]
  refine wpAny_bind (wpAny_load hu ?_)
  simp only [kxs_mw, show (Value.type "method-wrapper" == Value.type "method" || Value.type "method-wrapper" == Value.type "builtin_function_or_method" || Value.type "method-wrapper" == Value.type "method-wrapper") = true by decide, if_true]
  refine KFB.if_so (by decide) ?_
  refine wpAny_bind (check_bound_init F.excBase_ValueError.toExcCallFacts hC3 he3 rfl ?_)
  refine wpAny_bind (wpAny_pure (wpAny_pure ?_))
  refine ⟨plainId_quiet F.excBase_ValueError.init.plain _, codeAny_builtin F.excBase_ValueError.initEntry ?_⟩
  exact exc_init_tree (cls := .ref C) (t0 := t1) (dv := none) (c2 := .none) (c3 := .none) (b4 := .bool false) he3 (by rw [sizeLine_eq, List.length_singleton]; omega) (fun h4 k4 hx _ => fin h4 k4 ⟨_, hx⟩ _)
end
section
open NdefX
variable {CX : CXT} {P : Program} {w : World} {K : PySem.W.Frag} {mg : Str → Option Value} {base : Heap} {k : Nat} {N ps : List Str} {F : NF} {f cc D : Addr} {dV kV doc pm ct : Value} {an : Option Addr} {sp : Sp} {p0 p1 p2 p3 pos spos : Pos} {m sn : Str} {j : Nat} {rest : List Stmt}
abbrev fdx (F : NF) (dV kV doc pm : Value) (an : Option Addr) (ct : Value) : FuncData := PySem.W.fnX F.name F.qual F.params F.body F.scope F.cl dV kV doc pm an (.ref F.c) ct
theorem fn_init {pl : Sem Bool} {oc : Value} {od : Option Addr} {osl : Array (Option Value)} (lk : K.lookup f = some ⟨oc, od, .func (fdx F dV kV doc pm an ct), osl⟩) (hcd : PySem.W.codeIn K (.ref F.c) F.qual = true) (S : NScope N ps ["__class__"] F.scope)
    (hcl : F.cl = [(("__class__" : Str), cc)]) (hbd : F.body = .Expr (.Call (.Attribute (.Call (.Name "super" p0) [] [] p1) "__init__" p2) [.Constant (.str m) j p3] [] pos) spos :: rest)
    (hpar : ∃ ar, (F.params.posonlyargs ++ F.params.args).head? = some ar ∧ ar.arg = sn) (hsn : ps[0]? = some sn) (hks : F.scope.names.lookup ("super" : Str) = some .globalImplicit)
    (code : ∃ o vs file tf, K.lookup F.c = some o ∧ o.data = .fields vs ∧ vs[2]? = some (.str file tf) ∧ ((P.main.file : Str) == file) = true) (htop : (P.main.scope.names.lookup ("super" : Str)).isSome = false)
    (hcell : ∃ cl cld csl, K.lookup cc = some ⟨cl, cld, .cell (some (.ref D)), csl⟩) (hcls : ∃ cdD, PySem.W.clsIn K D = some cdD) (mgs : mg "super" = none) (thi : PySem.W.nsIn K PySem.cStatics "thirdparty.any" = some none)
    (he : ∀ L, eval (.Call (.Attribute (.Call (.Name "super" p0) [] [] p1) "__init__" p2) [.Constant (.str m) j p3] [] pos) (envF F f L) = (do
      let ov ← attributeBase (.Call (.Name "super" p0) [] [] p1) "__init__" (envF F f L) (eval (.Call (.Name "super" p0) [] [] p1) (envF F f L))
      standAt p2.atName
      let (fm, first) ← holding [ov] (getMethod ov "__init__" pl)
      callWith pos fm first (backTo pos (starEach [.Constant (.str m) j p3] (envF F f L))) []))
    (len : ∀ vs H Q E, sp vs H Q E → vs.length = ps.length)
    (hbody : ∀ (A : Around) (outer : List Env) (s : Shared) (H : Hp) (vs : List V) (Q : VK) (E : XK), Room k (A.deeper (envF F f s.heap.objs.size)) → sp vs H Q E →
      (∃ a C, vs[0]? = some (.ref a) ∧ SupC K C D ∧ H a = some (exo a C none)) ∧ ∃ t, PSs (ncx CX P w K mg base N F f A outer s H E) rest t ∧ t { nx := fun _ H' => Q .non H', rt := Q } (startF N vs [some (.ref D)]) H) :
    FnOk P w K mg base CX (k + 1) f (fdx F dV kV doc pm an ct) ps sp := by
  refine ⟨len, fun A outer s H args us vs Q E hr e0 hb r hsp => ?_⟩
  have KX : K.In s.heap := e0.mod.kin.keeps fun b o e => (e0.bs b o e).1
  have hl := len _ _ _ _ hsp
  have lim : s.heap.NoLimit := e0.mod.nolimit.keeps fun b o e => (e0.bs b o e).1
  obtain ⟨⟨a, C, hva, T, ha⟩, t, ht, hq⟩ := hbody A outer s H vs Q E (hr.deeper _) hsp
  obtain ⟨cl, cld, csl, hc⟩ := hcell
  have Cs : CellsAt F.cl ["__class__"] [some (.ref D)] s.heap H := by
    rw [hcl]
    have one : ∀ y c, List.lookup y [(("__class__" : Str), cc)] = some c → y = "__class__" ∧ c = cc := fun y c e => by
      simp only [List.lookup] at e
      split at e
      · rename_i q
        cases e
        exact ⟨by simpa using q, rfl⟩
      · cases e
    refine ⟨rfl, fun y c e => ?_, fun x y c e1 e2 => by rw [(one _ _ e1).1, (one _ _ e2).1], fun i y e => ?_⟩
    · obtain ⟨rfl, rfl⟩ := one _ _ e
      exact ⟨(e0.bs _ _ (e0.mod.kin _ _ hc)).2, _, _, KX _ _ hc, rfl⟩
    · cases i with
      | zero =>
        cases e
        refine ⟨cc, by simp [List.lookup], fun v e => ?_⟩
        cases e
        exact ⟨.ref D, rfl, _, KX _ _ hc, rfl⟩
      | succ i => simp at e
  refine PySem.ks_codeAny_call_defAt (binds := ps.zip us) hr.depth (KX _ _ lk) rfl lim (PySem.W.codeRec_of KX hcd) rfl hb S.nocell (fun ⟨n, _⟩ hy => S.par n (List.of_mem_zip hy).1) (fun h₁ hns kp => ?_) S.co S.gen S.kind
  have I : Inv (ncx CX P w K mg base N F f A outer s H E) [] (startF N vs [some (.ref D)]) H { s with heap := h₁, toks := s.toks + (ps.zip us).length } := inv_startN S hr.hd e0 hl r Cs hns kp
  obtain ⟨ar, hp1, hp2⟩ := hpar
  have SK : SupK (ncx CX P w K mg base N F f A outer s H E) f cc F.c D sn := by
    refine ⟨hks, S.frk _ (by simp), S.par sn (List.mem_of_getElem? hsn), rfl, rfl, ?_, ⟨_, _, ar, lk, rfl, hp1, hp2⟩, code, htop, ⟨cl, cld, csl, hc⟩, hcls, mgs, thi⟩
    show F.cl.lookup ("__class__" : Str) = some cc
    rw [hcl]
    simp [List.lookup]
  have hN : N[0]? = some sn := by
    have h1 := S.pre
    have h2 : (N.take (ps.length + 1))[0]? = (ps ++ [("__class__" : Str)])[0]? := by rw [← h1]; rfl
    rw [List.getElem?_take_of_lt (by omega)] at h2
    rw [h2, List.getElem?_append_left (List.getElem?_eq_some_iff.mp hsn).1]
    exact hsn
  have hσ : (startF N vs [some (V.ref D)])[0]? = some (some (.ref a)) := by
    unfold startF
    rw [List.getElem?_append_left (by simpa using (List.getElem?_eq_some_iff.mp hva).1), List.getElem?_map, hva]
    rfl
  have fin : ∀ {σ' : L2.St} {H' : Hp} {v : V} {u : Value} {s' : Shared}, Inv (ncx CX P w K mg base N F f A outer s H E) [] σ' H' s' → L2.RelV v u → Q v H' → CE outer P w H s Q u s' :=
    fun {σ' H' v u s'} J rv q => ⟨v, H', J.os, J.bare, J.base, J.hok, rv, q⟩
  show _root_.PySem.wpAt (model P w) (A.deeper (envF F f s.heap.objs.size)) (.func F.body (envF F f s.heap.objs.size)) (execs F.body (envF F f s.heap.objs.size)) _ _ _
  rw [hbd]
  refine PySem.ks_wpAt_execs_cons ?_
  refine wp_super_init (X := ncx CX P w K mg base N F f A outer s H E) SK T I hN hσ ha (fun s' J => ?_) (he _)
  dsimp only
  refine wpAt_of_wpAny ?_
  refine wpAny_mono (ht.run [] s' (startF N vs [some (.ref D)]) H _ J hq) (fun fl s'' hs => ?_) fun e s'' hs => hs
  cases fl with
  | ret u =>
    obtain ⟨v, σ', H', J, rv, q⟩ := hs
    exact fin J rv q
  | next =>
    obtain ⟨σ', H', J, q⟩ := hs
    exact fin (v := V.non) (u := Value.none) J rfl q
  | brk =>
    obtain ⟨_, _, _, q⟩ := hs
    exact False.elim q
  | cont =>
    obtain ⟨_, _, _, q⟩ := hs
    exact False.elim q
end
end Sm
/-! SmX2: raise C(..) of an own class whose __init__ says super().__init__('..'), self.f = f -/
namespace Sm
open PySem L2 PyProof.Rows
/-- what the __init__ of an error of the class at C with these fields does -/
def spI (C : Addr) (fs : List Str) : Sp := fun vs H Q _ => ∃ (a : Addr) (ys : List V), vs = .ref a :: ys ∧ ys.length = fs.length ∧ H a = some (exo a C none) ∧
  ∀ (H2 : Hp) (d : Addr), H2 a = some (exo a C (some d)) → H2 d = some (exd d (fs.zip ys).reverse) → H d = none → d ≠ a → (∀ b, b ≠ a → b ≠ d → H2 b = H b) → Q .non H2
/-- the readings of the stores, one after another -/
def tFs (K : PySem.W.Frag) : List (Str × Nat) → TS
  | [] => tNext
  | (f, i) :: r => tSeq (tOst K f (tVar 0) (tVar i)) (tFs K r)
theorem fs_read {K : PySem.W.Frag} {C a d : Addr} {σ : L2.St} {D : Ends} (T : OexC K C) (hσ : σ[0]? = some (some (.ref a))) (hda : d ≠ a) : ∀ (fis : List (Str × Nat)) (ys : List V) (L : List (Str × V)) (H : Hp), H a = some (exo a C (some d)) → H d = some (exd d L) → L.length + fis.length ≤ 900 → ys.length = fis.length →
    (∀ p ∈ fis.zip ys, σ[p.1.2]? = some (some p.2)) → (∀ p ∈ fis, PySem.W.findIn K (.ref C) p.1 = some none) →
    (∀ H2, H2 a = some (exo a C (some d)) → H2 d = some (exd d (((fis.map (·.1)).zip ys).reverse ++ L)) → (∀ b, b ≠ a → b ≠ d → H2 b = H b) → D.nx σ H2) → tFs K fis D σ H
  | [], [], L, H, ha, hd, hl, _, _, _, k => k H ha (by simpa using hd) fun _ _ _ => rfl
  | (f, i) :: fis, y :: ys, L, H, ha, hd, hl, hy, hs, hf, k => by
    refine ⟨y, hs ((f, i), y) (by simp), .ref a, hσ, a, C, rfl, T, hf (f, i) (by simp), .inr ⟨d, L, ha, hd, by simp at hl; omega, ?_⟩⟩
    refine fs_read T hσ hda fis ys ((f, y) :: L) _ (by rw [upd_ne hda.symm]; exact ha) upd_same (by simp at hl ⊢; omega) (by simpa using hy) (fun p hp => hs p (by simp [hp])) (fun p hp => hf p (by simp [hp])) fun H2 h1 h2 h3 => ?_
    refine k H2 h1 (by rw [h2]; simp) fun b b1 b2 => ?_
    rw [h3 b b1 b2, upd_ne b2]
theorem fs_read0 {K : PySem.W.Frag} {C a : Addr} {σ : L2.St} {D : Ends} (T : OexC K C) (hσ : σ[0]? = some (some (.ref a))) (f : Str) (i : Nat) (y : V) (fis : List (Str × Nat)) (ys : List V) (H : Hp) (ha : H a = some (exo a C none)) (hl : fis.length ≤ 800) (hy : ys.length = fis.length)
    (hs : ∀ p ∈ ((f, i) :: fis).zip (y :: ys), σ[p.1.2]? = some (some p.2)) (hf : ∀ p ∈ (f, i) :: fis, PySem.W.findIn K (.ref C) p.1 = some none)
    (k : ∀ H2 d, H2 a = some (exo a C (some d)) → H2 d = some (exd d ((((f, i) :: fis).map (·.1)).zip (y :: ys)).reverse) → H d = none → d ≠ a → (∀ b, b ≠ a → b ≠ d → H2 b = H b) → D.nx σ H2) : tFs K ((f, i) :: fis) D σ H := by
  refine ⟨y, hs ((f, i), y) (by simp), .ref a, hσ, a, C, rfl, T, hf (f, i) (by simp), .inl ⟨ha, fun d hd hda => ?_⟩⟩
  refine fs_read T hσ hda fis ys [(f, y)] _ upd_same (by rw [upd_ne hda]; exact upd_same) (by simp; omega) hy (fun p hp => hs p (by simp [hp])) (fun p hp => hf p (by simp [hp])) fun H2 h1 h2 h3 => ?_
  refine k H2 d h1 (by rw [h2]; simp) hd hda fun b b1 b2 => ?_
  rw [h3 b b1 b2, upd_ne b1, upd_ne b2]
/-- an error class of the program, as those who raise it know it -/
def ErrOk (P : Program) (w : World) (K : PySem.W.Frag) (mg : Str → Option Value) (base : Heap) (G : Cl) (j : Nat) (x : Str) (c : Nat) : Prop :=
  ∃ (fI : Addr) (fd : FuncData) (ps : List Str), mg x = some (.ref (G.at_ c)) ∧ OexC K (G.at_ c) ∧ PySem.W.findIn K (.ref (G.at_ c)) "__init__" = some (some (.ref fI)) ∧ PySem.W.typeIn K (.ref fI) = some (.type "function") ∧
    FnOk P w K mg base (L2.CX P w) j fI fd ps (spI (G.at_ c) (G.nm c)) ∧ Binds K fd ps [] ∧ (G.nm c).Nodup ∧ (G.nm c).length ≤ 900
def sRaise (c : Nat) (ms : List M) : S := fun env h => bindS (evs ms env h) env fun ds h1 => .exc c ds env h1
theorem zip_sub : ∀ (fs : List Str) (ys : List V), ((fs.zip ys).map (·.1)).Sublist fs
  | [], _ => by simp
  | f :: fs, [] => by simp
  | f :: fs, y :: ys => by
    rw [List.zip_cons_cons, List.map_cons]
    exact List.Sublist.cons_cons f (zip_sub fs ys)
theorem lookup_zip : ∀ {fs : List Str} {ys : List V} {i : Nat} {f : Str} {y : V}, fs.Nodup → fs[i]? = some f → ys[i]? = some y → (fs.zip ys).reverse.lookup f = some y := by
  intro fs ys i f y nd h1 h2
  have key : ∀ (l : List (Str × V)), (l.map (·.1)).Nodup → (f, y) ∈ l → l.lookup f = some y := by
    intro l
    induction l with
    | nil => intro _ h; simp at h
    | cons p l ih =>
      intro nd h
      obtain ⟨g, z⟩ := p
      rw [lookup_put]
      rcases List.mem_cons.mp h with e | e
      · cases e; rw [if_pos rfl]
      · simp only [List.map_cons, List.nodup_cons] at nd
        have : f ≠ g := fun q => nd.1 (by rw [← q]; exact List.mem_map_of_mem (f := (·.1)) e)
        rw [if_neg this]
        exact ih nd.2 e
  refine key _ ?_ ?_
  · rw [List.map_reverse]
    refine (List.reverse_perm _).nodup_iff.mpr ?_
    exact nd.sublist (zip_sub fs ys)
  · rw [List.mem_reverse]
    refine List.mem_of_getElem? (i := i) ?_
    rw [List.getElem?_zip_eq_some]
    exact ⟨h1, h2⟩
section
variable {X : Cx} {G : Cl} {W : WX} {e : Expr} {es : List Expr} {pos pos' p : Pos} {ms : List M} {k j c : Nat} {x : Str}
theorem s_raise (ct : Ct X W k) (Er : ErrOk X.prog X.w X.K X.mg X.base G j x c) (hj : j + 1 ≤ k) (hg : Gl X x) (ha : PA X (e :: es) (tL X.K G W (evs ms))) (hl : ms.length = (G.nm c).length)
    (hdb : (x == ("__debug__" : Str)) = false := by decide) (he : starEach (e :: es) X.env = (false, eval e X.env) :: starEach es X.env := by rfl) (hpl : (backTo pos (starEach es X.env)).any (·.1) = false := by rfl) :
    PS X (.Raise (some (.Call (.Name x p) (e :: es) [] pos)) none pos') (tS X.K G W (sRaise c ms)) := by
  obtain ⟨fI, fd, ps, hm, T, iC, tI, F1, hb, nd, hn⟩ := Er
  refine psImp (ps_raise ct.hc ct.tk (pmk_oex (ds := []) (dvs := []) T iC tI F1 (ct.hr.mono hj) hb .nil (passes_call ct.tk fun _ _ _ _ z => z.elim) hg hm ha hdb he hpl)) fun D0 σ H t => ?_
  obtain ⟨ρ, h, env, hr, hE, q⟩ := t
  refine ⟨ρ, h, env, hr, hE, ?_⟩
  unfold sRaise at q
  cases qe : evs ms env h with
  | bad => rw [qe] at q; exact q
  | exc c' fs h' => rw [qe] at q; exact fun ρ' H' d e a z => q ρ' H' σ d e a (hE.mono e) z
  | ok ds h1 =>
    rw [qe] at q
    intro ρ' H1 vs e1 r1 rv
    have hlen : vs.length = (G.nm c).length := by rw [rv.length, evs_len qe, hl]
    refine ⟨by omega, fun a ha' => ⟨a, vs, by simp, hlen, upd_same, fun H2 d k1 k2 k3 k4 k5 => ⟨rfl, d, _, k1, k2, ?_, ?_⟩⟩⟩
    · rw [upd_ne k4] at k3; exact k3
    · have hd : H1 d = none := by rw [upd_ne k4] at k3; exact k3
      have hH : upd (L2.del H2 a) d (.xd ((G.nm c).zip vs).reverse) = upd H1 d (.xd ((G.nm c).zip vs).reverse) := by
        funext b
        by_cases b2 : b = d
        · rw [b2, upd_same, upd_same]
        · rw [upd_ne b2, upd_ne b2]
          by_cases b1 : b = a
          · rw [b1, del_same, ha']
          · rw [del_ne b1, k5 b b1 b2, upd_ne b1]
      rw [hH]
      have ex2 : Ex X.K ρ' H1 ρ' (upd H1 d (.xd ((G.nm c).zip vs).reverse)) := Ex.fresh hd
      have q' : PoS X.K G W ρ H D0 (.exc c ds env h1) := q
      refine q' ρ' _ σ (some d) (e1.trans ex2) (r1.aux hd) (hE.mono (e1.trans ex2)) ⟨d, _, rfl, upd_same, by rw [← rv.length, hlen], fun i f hf => ?_⟩
      have hi : i < vs.length := by rw [hlen]; exact (List.getElem?_eq_some_iff.mp hf).1
      obtain ⟨y, hy, ry⟩ := rv.getV (i := i) (v := vs[i]) (by simp [hi])
      exact ⟨vs[i], y, lookup_zip nd hf (by simp [hi]), hy, ry.mono ex2⟩
end
end Sm
/-! SmY: try: .. except C as e: return an expression of e's fields -/
namespace Sm
open PySem L2 PyProof.Rows
/-- where the exception is known: slot, address, dict, class -/
structure XCt where
  i : Nat
  a : Addr
  d : Option Addr
  c : Nat
def tX (K : PySem.W.Frag) (G : Cl) {α β : Type} (rel : List Addr → Hp → β → α → Prop) (C : XCt) (m : List D → Ev → Hh → R α) : L2.St → Hp → (β → Hp → Prop) → Prop := fun σ H Q =>
  ∃ fs ρ h env, σ[C.i]? = some (some (.ref C.a)) ∧ Rx K G ρ H C.d C.c fs ∧ Rh K G ρ H h ∧ Re K ρ H σ env ∧ Po K G rel WN ρ H σ (m fs env h) Q
abbrev tXM (K : PySem.W.Frag) (G : Cl) (C : XCt) (m : List D → M) : TE := tX K G (relV K) C m
abbrev tXL (K : PySem.W.Frag) (G : Cl) (C : XCt) (m : List D → Ev → Hh → R (List D)) : TA := tX K G (relVs K) C m
section
variable {X : Cx} {G : Cl} {C : XCt} {e : Expr} {es : List Expr} {pos : Pos} {m : List D → M} {ms : List (List D → M)} {K : PySem.W.Frag}
def eFd (k : Nat) (fs : List D) : M := fun env h => match fs[k]? with
  | some d => .ok d h
  | none => .bad
abbrev evsX (ms : List (List D → M)) (fs : List D) : Ev → Hh → R (List D) := evs (ms.map fun m => m fs)
theorem xe_of {m : M} (he : PE X e (tM X.K G WN m)) : PE X e (tXM X.K G C fun _ => m) := peImp he fun σ H Q ⟨fs, ρ, h, env, _, _, hr, hE, p⟩ => ⟨ρ, h, env, hr, hE, p⟩
theorem xa_nil : PA X [] (tXL X.K G C (evsX [])) := paImp pa_nil fun σ H Q ⟨fs, ρ, h, env, _, _, hr, hE, p⟩ => p ρ H [] Ex.refl hr .nil
theorem xa_cons (ha : PE X e (tXM X.K G C m)) (hb : PA X es (tXL X.K G C (evsX ms))) (hs : starEach (e :: es) X.env = (false, eval e X.env) :: starEach es X.env := by rfl) : PA X (e :: es) (tXL X.K G C (evsX (m :: ms))) := paImp (pa_cons ha hb hs) fun σ H Q ⟨fs, ρ, h, env, hσ, rx, hr, hE, p⟩ => by
  refine ⟨fs, ρ, h, env, hσ, rx, hr, hE, ?_⟩
  unfold evsX at p
  rw [List.map_cons] at p
  unfold evs at p
  cases q : m fs env h with
  | bad => rw [q] at p; exact p
  | exc c' fs' h' => rw [q] at p; exact p
  | ok d h1 =>
    rw [q] at p
    simp only [R.bind_ok] at p
    intro ρ1 H1 v e1 hr1 rv
    refine ⟨fs, ρ1, h1, env, hσ, rx.mono e1, hr1, hE.mono e1, ?_⟩
    unfold evsX
    cases q2 : evs (ms.map fun m => m fs) env h1 with
    | bad => rw [q2] at p; exact p.elim
    | exc c' fs' h' => rw [q2] at p; exact (p.shift e1)
    | ok ds h2 =>
      rw [q2] at p
      intro ρ2 H2 vs e2 hr2 rvs
      exact p ρ2 H2 _ (e1.trans e2) hr2 (.cons (rv.mono e2) rvs)
def eTupX (ms : List (List D → M)) (fs : List D) : M := eTup (ms.map fun m => m fs)
def eLstX (ms : List (List D → M)) (fs : List D) : M := eLst (ms.map fun m => m fs)
theorem xe_tup {x1} (ha : PA X es (tXL X.K G C (evsX ms))) (hl : ms.length ≤ sizeLine := by decide) : PE X (.Tuple es x1 pos) (tXM X.K G C (eTupX ms)) := peImp (pe_tup ha) fun σ H Q ⟨fs, ρ, h, env, hσ, rx, hr, hE, p⟩ => by
  refine ⟨fs, ρ, h, env, hσ, rx, hr, hE, ?_⟩
  unfold eTupX eTup at p
  cases q : evs (ms.map fun m => m fs) env h with
  | bad => unfold evsX; rw [q] at p ⊢; exact p
  | exc c' fs' h' => unfold evsX; rw [q] at p ⊢; exact p
  | ok ds h1 =>
    unfold evsX
    rw [q] at p ⊢
    simp only [R.bind_ok] at p
    intro ρ1 H1 vs e1 hr1 rvs
    exact ⟨by rw [rvs.length, evs_len q, List.length_map]; exact hl, new_tup hr1 rvs (p.shift e1)⟩
theorem xe_lst (ha : PA X es (tXL X.K G C (evsX ms))) (hl : ms.length ≤ sizeLine := by decide) : PE X (.List es pos) (tXM X.K G C (eLstX ms)) := peImp (pe_lst ha) fun σ H Q ⟨fs, ρ, h, env, hσ, rx, hr, hE, p⟩ => by
  refine ⟨fs, ρ, h, env, hσ, rx, hr, hE, ?_⟩
  unfold eLstX eLst at p
  cases q : evs (ms.map fun m => m fs) env h with
  | bad => unfold evsX; rw [q] at p ⊢; exact p
  | exc c' fs' h' => unfold evsX; rw [q] at p ⊢; exact p
  | ok ds h1 =>
    unfold evsX
    rw [q] at p ⊢
    simp only [R.bind_ok] at p
    intro ρ1 H1 vs e1 hr1 rvs
    exact ⟨by rw [rvs.length, evs_len q, List.length_map]; exact hl, new_lst hr1 rvs (p.shift e1)⟩
/-- e.f -/
theorem xe_fld {oe : Obj} {cls : Value} {pn : List (Addr × Obj)} {x f : Str} {ip : Pos} {k : Nat} (T : XfC X.K (G.at_ C.c)) (hno : PySem.W.findIn X.K (.ref (G.at_ C.c)) f = some none) (hcls : cls = .ref (G.at_ C.c)) (hz : Zc cls C.d oe) (hf : ∃ vs, oe.data = .fields vs)
    (hx : X.N[C.i]? = some x) (hv : Vis X.env.scope x) (hk : (G.nm C.c)[k]? = some f) (hd : (x == ("__debug__" : Str)) = false := by decide) (hcd : (x == ("__classdict__" : Str)) = false := by decide)
    (hb : attributeBase (.Name x ip) f X.env (eval (.Name x ip) X.env) = eval (.Name x ip) X.env := by rfl) :
    PE (X.suite C.a ((C.a, oe) :: pn)) (.Attribute (.Name x ip) f pos) (tXM X.K G C (eFd k)) := by
  subst hcls
  refine peImp (pe_xf T hno hz hf (pe_var (X := X.suite C.a ((C.a, oe) :: pn)) hx hv hd hcd) hb) fun σ H Q ⟨fs, ρ, h, env, hσ, rx, hr, hE, p⟩ => ?_
  obtain ⟨dx, vfs, h1, h2, h3, h4⟩ := rx
  obtain ⟨v, y, k1, k2, k3⟩ := h4 k f hk
  refine ⟨.ref C.a, hσ, rfl, rfl, dx, vfs, v, h1, h2, k1, ?_⟩
  unfold eFd at p
  rw [k2] at p
  exact p ρ H v Ex.refl hr k3
end
/-! ### try: body except C as e: return expr -/
/-- the clause C0: which of the classes it takes -/
def sTryX (body : S) (mt : Nat → Option Bool) (i : Nat) (suite : List D → M) : S := fun env h => match body env h with
  | .exc c fs env' h' => (match mt c with
    | some true => if i < env'.length then (match suite fs (env'.set i none) h' with
      | .ok d h2 => .rt d h2
      | _ => .bad) else .bad
    | some false => .exc c fs env' h'
    | none => .bad)
  | r => r
theorem Ct.tr {X : Cx} {W W' : WX} {k : Nat} (c : Ct X W k) (pn : List (Addr × Obj)) (xe : Value → Shared → Prop) (tk : Takes (X.tr pn xe) W') (po : PassesOwn (model X.prog X.w) X.A X.env xe) : Ct (X.tr pn xe) W' k := ⟨tk, po, c.hr, c.hc, c.nd⟩
theorem Re.drop {K : PySem.W.Frag} {ρ : List Addr} {H : Hp} {σ : L2.St} {env : Ev} (r : Re K ρ H σ env) (i : Nat) (x : Option V) : Re K ρ H (σ.set i x) (env.set i none) := by
  refine ⟨by rw [List.length_set, List.length_set, r.len], fun j d e => ?_⟩
  by_cases q : i = j
  · subst q
    rw [List.getElem?_set, if_pos rfl] at e
    split at e <;> cases e
  · rw [List.getElem?_set_ne q] at e ⊢
    exact r.get j d e
theorem pss_of {X : Cx} {st : List Stmt} {t : TS} {p : Prop} (f : p → PSs X st t) : PSs X st (fun D σ H => p ∧ t D σ H) := ⟨fun pins s σ H D I ⟨hp, q⟩ => (f hp).run pins s σ H D I q⟩
section
variable {X : Cx} {G : Cl} {W : WX} {x n : Str} {c i k : Nat} {body : List Stmt} {ex : Expr} {np pos pos' rp : Pos} {sb : S} {mt : Nat → Option Bool} {sm : List D → M}
theorem s_tryX (ct : Ct X W k) (hs : X.stack = X.env :: X.outer) (hf : X.env.frame = some X.env.locals) (hi : X.N[i]? = some n) (hln : X.env.kindOf n = some .local) (hc : Names X x (.ref (G.at_ c)))
    (hm : ∀ c' b, mt c' = some b → PySem.W.exmOne X.K (.ref (G.at_ c')) (.ref (G.at_ c)) = some b) (hone : ∀ c', mt c' = some true → c' = c)
    (hb : ∀ (W : WX) (pn : List (Addr × Obj)) (xe : Value → Shared → Prop), Ct (X.tr pn xe) W k → PSs (X.tr pn xe) body (tS X.K G W sb))
    (hsu : ∀ (a : Addr) (oe : Obj) (cls : Value) (d : Option Addr) (pn : List (Addr × Obj)), Zc cls d oe → (∃ vs, oe.data = .fields vs) → cls = .ref (G.at_ c) → PE (X.suite a ((a, oe) :: pn)) ex (tXM X.K G ⟨i, a, d, c⟩ sm)) :
    PS X (.Try body [.ExceptHandler (some (.Name x np)) (some n) [.Return (some ex) rp] pos'] [] [] pos) (tS X.K G W (sTryX sb mt i sm)) := by
  refine psImp (ps_try_as (c := .ref (G.at_ c)) (Wout := W) (tb := fun W => tS X.K G W sb) (ts := fun a cls d D σ H => cls = .ref (G.at_ c) ∧ tXM X.K G ⟨i, a, d, c⟩ sm σ H D.rt) hs hf ct.nd hi hln hc ct.tk
    (fun W' pn xe tk po => hb W' pn xe (ct.tr pn xe tk po)) (fun a oe cls d pn hz hfl => pss_of fun hcls => pss_one (ps_ret (hsu a oe cls d pn hz hfl hcls)))) fun D0 σ H t => ?_
  obtain ⟨ρ, h, env, hr, he, q⟩ := t
  refine ⟨ρ, h, env, hr, he, ?_⟩
  unfold sTryX at q
  cases qb : sb env h with
  | bad => rw [qb] at q; exact q
  | nx e' h' => rw [qb] at q; exact q
  | rt d h' => rw [qb] at q; exact q
  | bk e' h' => rw [qb] at q; exact q
  | ct e' h' => rw [qb] at q; exact q
  | exc c' fs e' h' =>
    rw [qb] at q
    dsimp only at q
    intro ρ' H' σ' d e1 r1 re1 rx
    cases qm : mt c' with
    | none => rw [qm] at q; exact q.elim
    | some b =>
      rw [qm] at q
      cases b with
      | false => exact ⟨false, hm _ _ qm, (fun z => nomatch z), fun _ => q ρ' H' σ' d e1 r1 re1 rx⟩
      | true =>
        obtain rfl := hone _ qm
        dsimp only at q
        have hlen : i < e'.length := by
          refine Classical.byContradiction fun hn => ?_
          rw [if_neg hn] at q
          exact q
        rw [if_pos hlen] at q
        refine ⟨true, hm _ _ qm, fun _ a ha => ⟨rfl, fs, ρ', h', e'.set i none, ?_, rx, r1, re1.drop i _, ?_⟩, fun z => nomatch z⟩
        · have hl : i < σ'.length := by rw [re1.len]; exact hlen
          exact List.getElem?_set_self hl
        · cases qs : sm fs (e'.set i none) h' with
          | bad => rw [qs] at q; exact q.elim
          | exc c2 fs2 h2 => rw [qs] at q; exact q.elim
          | ok d2 h2 =>
            rw [qs] at q
            exact fun ρ2 H2 v e2 r2 rv => q ρ2 H2 v (e1.trans e2) r2 rv
end
end Sm
/-! SmZ: an error class from what K says of it; the law's end with classes -/
namespace Sm
open PySem L2 PyProof.Rows NdefX
theorem walk_lawG {l : PySem.W.OpenLaw} {k : Nat} {q : Program} {loose : List Str} {XP : (Str → Option Value) → Heap → Prop} {YP : World → Heap → Prop} {d : DefRec} {K : Params → PySem.W.Frag} {f : Fm}
    (hn : l.most = some 63) (hdf : d.params.defaults = []) (hr : Room k callerA)
    (hY : ∀ (w : World) (h : Heap), YP w h → (K w.params).In h) (main : ∀ ns : List Int, ns.length ≤ 63 → ∃ h', f [.fls (ns.map D.int)] [] = .ok (.bl true) h')
    (F : ∀ (w : World) (mg : Str → Option Value) (fa : Addr) (h : Heap), (K w.params).In h → h.Ns mainGlobals mg → mg d.name = some (.ref fa) →
      ∃ (G : Cl) (fd : FuncData), (∀ (s : Shared) (u : Value), BindsTo s fd ⟨[u], []⟩ [("script", u)]) ∧
        ∀ base : Heap, (K w.params).In base → base.Ns mainGlobals mg → FnOk l.prog w (K w.params) mg base (L2.CX l.prog w) k fa fd ["script"] (spM (K w.params) G 1 f)) :
    PySem.W.WalkO q loose XP YP l.row.toRowW d [] (fun f vs => PySem.call f vs) :=
  L2.walk_of (n := 63) (k := k) (x := "script") (CX := fun w => L2.CX l.prog w) (sp := fun w => fun vs H Q E => ∀ G, spM (K w.params) G 1 f vs H Q E) hn (by decide) hdf hr hY
    (fun w mg fa h a b c => by
      obtain ⟨G, fd, h1, h2⟩ := F w mg fa h a b c
      exact ⟨fd, h1, fun base x y => (h2 base x y).imp fun vs H Q E z => z G⟩)
    (fun w H a ns h1 h2 h3 => fun G => law_end main H a ns h1 h2 h3)
    fun w H s e s' z => by
      obtain ⟨_, _, _, _, _, _, _, _, _, _, _, _, z⟩ := z
      exact z
section
variable {P : Program} {w : World} {K : PySem.W.Frag} {mg : Str → Option Value} {base : Heap} {N ps : List Str} {F : NF} {f cc C : Addr} {dV kV doc pm ct : Value} {an : Option Addr} {p0 p1 p2 p3 pos spos : Pos} {m sn : Str} {j : Nat} {rest : List Stmt}
theorem init_ok {pl : Sem Bool} {oc : Value} {od : Option Addr} {osl : Array (Option Value)} {fis : List (Str × Nat)} (T : SupC K C C) (lk : K.lookup f = some ⟨oc, od, .func (fdx F dV kV doc pm an ct), osl⟩) (hcd : PySem.W.codeIn K (.ref F.c) F.qual = true) (S : NScope N ps ["__class__"] F.scope)
    (hcl : F.cl = [(("__class__" : Str), cc)]) (hbd : F.body = .Expr (.Call (.Attribute (.Call (.Name "super" p0) [] [] p1) "__init__" p2) [.Constant (.str m) j p3] [] pos) spos :: rest)
    (hpar : ∃ ar, (F.params.posonlyargs ++ F.params.args).head? = some ar ∧ ar.arg = sn) (hsn : ps[0]? = some sn) (hks : F.scope.names.lookup ("super" : Str) = some .globalImplicit)
    (code : ∃ o vs file tf, K.lookup F.c = some o ∧ o.data = .fields vs ∧ vs[2]? = some (.str file tf) ∧ ((P.main.file : Str) == file) = true) (htop : (P.main.scope.names.lookup ("super" : Str)).isSome = false)
    (hcell : ∃ cl cld csl, K.lookup cc = some ⟨cl, cld, .cell (some (.ref C)), csl⟩) (hcls : ∃ cdD, PySem.W.clsIn K C = some cdD) (mgs : mg "super" = none) (thi : PySem.W.nsIn K PySem.cStatics "thirdparty.any" = some none)
    (he : ∀ L, eval (.Call (.Attribute (.Call (.Name "super" p0) [] [] p1) "__init__" p2) [.Constant (.str m) j p3] [] pos) (envF F f L) = (do
      let ov ← attributeBase (.Call (.Name "super" p0) [] [] p1) "__init__" (envF F f L) (eval (.Call (.Name "super" p0) [] [] p1) (envF F f L))
      standAt p2.atName
      let (fm, first) ← holding [ov] (getMethod ov "__init__" pl)
      callWith pos fm first (backTo pos (starEach [.Constant (.str m) j p3] (envF F f L))) []))
    (hps : ps.length = fis.length + 1) (hne : fis ≠ []) (hfl : fis.length ≤ 800) (hix : ∀ (k : Nat) (p : Str × Nat), fis[k]? = some p → p.2 = k + 1) (hno : ∀ p ∈ fis, PySem.W.findIn K (.ref C) p.1 = some none)
    (hrest : ∀ (A : Around) (outer : List Env) (s : Shared) (H : Hp) (E : XK), PSs (ncx (L2.CX P w) P w K mg base N F f A outer s H E) rest (tFs K fis)) :
    FnOk P w K mg base (L2.CX P w) 1 f (fdx F dV kV doc pm an ct) ps (spI C (fis.map (·.1))) := by
  refine fn_init lk hcd S hcl hbd hpar hsn hks code htop hcell hcls mgs thi he (fun vs H Q E ⟨a, ys, h1, h2, _⟩ => by rw [h1, List.length_cons, h2, List.length_map, hps]) fun A outer s H vs Q E hr ⟨a, ys, h1, h2, h3, h4⟩ => ?_
  subst h1
  refine ⟨⟨a, C, rfl, T, h3⟩, tFs K fis, hrest A outer s H E, ?_⟩
  rw [List.length_map] at h2
  have hσ : ∀ k y, ys[k]? = some y → (startF N (V.ref a :: ys) [some (V.ref C)])[k + 1]? = some (some y) := fun k y e => by
    have hk : k < ys.length := (List.getElem?_eq_some_iff.mp e).1
    unfold startF
    rw [List.getElem?_append_left (by simp; omega), List.getElem?_map, List.getElem?_cons_succ, e]
    rfl
  cases fis with
  | nil => exact absurd rfl hne
  | cons p fis =>
    obtain ⟨f1, i1⟩ := p
    cases ys with
    | nil => simp at h2
    | cons y ys =>
      refine fs_read0 T.oex (by unfold startF; rfl) f1 i1 y fis ys H h3 (by simp at hfl; omega) (by simpa using h2) (fun q hq => ?_) hno fun H2 d k1 k2 k3 k4 k5 => h4 H2 d k1 k2 k3 k4 k5
      obtain ⟨k, hk⟩ := List.mem_iff_getElem?.mp hq
      rw [List.getElem?_zip_eq_some] at hk
      rw [hix k _ hk.1]
      exact hσ k _ hk.2
end
theorem exm_mk {K : PySem.W.Frag} {C : Addr} {t : Value} {b : Bool} {cd : ClassData} (e : PySem.W.subIn K (.ref C) (.type "BaseException") = some true) (cl : PySem.W.clsIn K C = some cd) (ty : PySem.W.typeIn K (.ref C) = some (.type "type")) (s : PySem.W.subIn K t (.ref C) = some b) : PySem.W.exmOne K t (.ref C) = some b := by
  unfold PySem.W.exmOne PySem.W.kitCls
  simp only [e, beq_self_eq_true, if_true, cl, ty, s, Option.isSome_some, Bool.and_self]
end Sm
/-! SmS: texts' methods with one argument: split, join -/
namespace Sm
open PySem L2 PyProof.Rows
def eM1 (f : D → D → Hh → Option (D × Hh)) (mo me : M) : M := fun env h => (mo env h).bind fun o h1 => match o with
  | .str a => (me env h1).bind fun d h2 => R.opt (f (.str a) d h2)
  | _ => .bad
def strsOf : List D → Option (List Str)
  | [] => some []
  | .str x :: r => (strsOf r).map (x :: ·)
  | _ :: _ => none
theorem strsOf_eq {K : PySem.W.Frag} {ρ : List Addr} {H : Hp} : ∀ {vs : List V} {ds : List D} {bs : List Str}, Rvs K ρ H vs ds → strsOf ds = some bs → vs = bs.map V.str
  | _, _, _, .nil, e => by cases e; rfl
  | _, _, bs, .cons (d := .str b) h t, e => by
    simp only [strsOf, Option.map_eq_some_iff] at e
    obtain ⟨ms, e1, rfl⟩ := e
    cases h
    rw [List.map_cons, ← strsOf_eq t e1]
  | _, _, _, .cons (d := .non) h t, e => by simp [strsOf] at e
  | _, _, _, .cons (d := .int _) h t, e => by simp [strsOf] at e
  | _, _, _, .cons (d := .bl _) h t, e => by simp [strsOf] at e
  | _, _, _, .cons (d := .tup _) h t, e => by simp [strsOf] at e
  | _, _, _, .cons (d := .fls _) h t, e => by simp [strsOf] at e
  | _, _, _, .cons (d := .ref _) h t, e => by simp [strsOf] at e
theorem Rvs.of_strs {K : PySem.W.Frag} {ρ : List Addr} {H : Hp} : ∀ xs : List Str, Rvs K ρ H (xs.map V.str) (xs.map D.str)
  | [] => .nil
  | x :: xs => .cons (.str x) (Rvs.of_strs xs)
def opSplit : D → D → Hh → Option (D × Hh)
  | .str a, .str b, h => if (b.length == 0) = false ∧ a.length + 2 ≤ sizeLine then some (.ref h.length, h ++ [.lst ((Txt.split a b).map D.str)]) else none
  | _, _, _ => none
def opJoin : D → D → Hh → Option (D × Hh)
  | .str a, d, h => match partsOf d h with
    | some ds => match strsOf ds with
      | some ys => if (ys.map (·.length)).sum + ys.length * a.length ≤ 16777216 then some (.str (Txt.join a ys), h) else none
      | none => none
    | none => none
  | _, _, _ => none
section
variable {X : Cx} {G : Cl} {W : WX} {e o : Expr} {pos : Pos} {mo me : M} {K : PySem.W.Frag}
def ImpS (K : PySem.W.Frag) (G : Cl) (r : V → List V → Hp → VK → Prop) (f : D → D → Hh → Option (D × Hh)) : Prop := ∀ {ρ : List Addr} {H : Hp} {h : Hh} {x y : V} {dx dy d : D} {h' : Hh} {Q : VK}, Rh K G ρ H h → Rv K ρ H x dx → Rv K ρ H y dy → f dx dy h = some (d, h') →
  (∀ ρ' H' v, Ex K ρ H ρ' H' → Rh K G ρ' H' h' → Rv K ρ' H' v d → Q v H') → r x [y] H Q
theorem m1_imp {r : V → List V → Hp → VK → Prop} {f : D → D → Hh → Option (D × Hh)} (i : ImpS X.K G r f) (σ : L2.St) (H : Hp) (Q : VK) (t : tM X.K G W (eM1 f mo me) σ H Q) : tM1 r (tM X.K G W mo) (tM X.K G W me) σ H Q := by
  obtain ⟨ρ, h, env, hr, he, p⟩ := t
  refine tG_mono (tG_bind (rel := relV X.K) hr he p) fun x H1 ⟨ρ1, h1, d, e1, hr1, he1, r1, p1⟩ => ?_
  cases d with
  | str a =>
    cases r1
    refine ⟨⟨a, rfl⟩, tG_mono (tG_bind (rel := relV X.K) hr1 he1 p1) fun y H2 ⟨ρ2, h2, d2, e2, hr2, he2, r2, p2⟩ => ?_⟩
    obtain ⟨d3, h3, eq, k⟩ := p2.opt
    exact i hr2 (.str a) r2 eq k
  | _ => exact p1.elim
theorem se_split {apos : Pos} (ho : PE X o (tM X.K G W mo)) (he : PE X e (tM X.K G W me)) (hs : starEach [e] X.env = [(false, eval e X.env)] := by rfl) (hbase : attributeBase o "split" X.env (eval o X.env) = eval o X.env := by rfl) (hline : (apos.endLine == pos.line) = true := by rfl) :
    PE X (.Call (.Attribute o "split" apos) [e] [] pos) (tM X.K G W (eM1 opSplit mo me)) := peImp (pe_split ho he hs hbase hline) fun σ H Q t => m1_imp (fun {ρ H h x y dx dy d h' Q} hr rx ry e k => by
  cases rx <;> cases ry <;> simp only [opSplit] at e <;> first | (cases e; done) | skip
  split at e
  · rename_i a b hab
    cases e
    refine ⟨a, b, rfl, rfl, hab.1, hab.2, fun p hp => ?_⟩
    refine k (ρ ++ [p]) _ _ (Ex.push hp) (hr.new hp (.lst upd_same (Rvs.of_strs _))) (.ref ?_)
    rw [← hr.len]
    exact get_push_eq
  · cases e) σ H Q t
theorem se_join {apos : Pos} (ho : PE X o (tM X.K G W mo)) (he : PE X e (tM X.K G W me)) (hs : starEach [e] X.env = [(false, eval e X.env)] := by rfl) (hbase : attributeBase o "join" X.env (eval o X.env) = eval o X.env := by rfl) (hline : (apos.endLine == pos.line) = true := by rfl) :
    PE X (.Call (.Attribute o "join" apos) [e] [] pos) (tM X.K G W (eM1 opJoin mo me)) := peImp (pe_join ho he hs hbase hline) fun σ H Q t => m1_imp (fun {ρ H h x y dx dy d h' Q} hr rx ry e k => by
  unfold opJoin at e
  split at e
  · cases rx
    split at e
    · rename_i ds e1
      split at e
      · rename_i ys e2
        split at e
        · rename_i hz
          cases e
          unfold partsOf at e1
          split at e1
          · cases e1
            obtain ⟨a, vs, rfl, t, r⟩ := ry.sqT
            rw [strsOf_eq r e2] at t
            exact ⟨_, a, ys, rfl, rfl, .inr t, hz, k _ _ _ Ex.refl hr (.str _)⟩
          · cases e1
            cases ry with
            | fls t r =>
              have t' := t.sq
              rw [strsOf_eq r e2] at t'
              exact ⟨_, _, ys, rfl, rfl, .inl t', hz, k _ _ _ Ex.refl hr (.str _)⟩
          · cases ry with
            | ref ra =>
              split at e1
              · rename_i e0
                cases e1
                obtain ⟨vs, q, r⟩ := ref_seq hr ra e0
                rw [strsOf_eq r e2] at q
                exact ⟨_, _, ys, rfl, rfl, .inl q, hz, k _ _ _ Ex.refl hr (.str _)⟩
              · cases e1
          · cases e1
        · cases e
      · cases e
    · cases e
  · cases e) σ H Q t
end
theorem fn_bad {P : Program} {w : World} {K : PySem.W.Frag} {mg : Str → Option Value} {base : Heap} {CX : CXT} {k : Nat} {f : Addr} {fd : FuncData} {ps : List Str} {G : Cl} {np : Nat} (hp : np = ps.length) : FnOk P w K mg base CX k f fd ps (spM K G np fun _ _ => .bad) :=
  ⟨fun vs H Q E ⟨_, _, _, _, _, l, _⟩ => l.trans hp, fun A outer s H args us vs Q E _ _ _ _ ⟨_, _, _, _, _, _, p⟩ => p.elim⟩
end Sm
/-! SmT: in, not in: a sign in a text; flat things in a list or tuple -/
namespace Sm
open PySem L2 PyProof.Rows
def toV : D → Option V
  | .non => some .non
  | .bl b => some (.bl b)
  | .int i => some (.int i)
  | .str x => some (.str x)
  | _ => none
def toVs : List D → Option (List V)
  | [] => some []
  | d :: ds => match toV d, toVs ds with
    | some v, some vs => some (v :: vs)
    | _, _ => none
theorem toV_eq {K : PySem.W.Frag} {ρ : List Addr} {H : Hp} {v v' : V} {d : D} (r : Rv K ρ H v d) (e : toV d = some v') : v = v' ∧ flatV v' = true := by
  cases d <;> simp only [toV] at e <;> cases e <;> cases r <;> exact ⟨rfl, rfl⟩
theorem toVs_eq {K : PySem.W.Frag} {ρ : List Addr} {H : Hp} : ∀ {vs vs' : List V} {ds : List D}, Rvs K ρ H vs ds → toVs ds = some vs' → vs = vs' ∧ vs'.all flatV = true
  | _, _, _, .nil, e => by cases e; exact ⟨rfl, rfl⟩
  | _, vs', _, .cons (d := d) (ds := ds) h t, e => by
    unfold toVs at e
    split at e
    · rename_i v vs e1 e2
      cases e
      obtain ⟨rfl, f1⟩ := toV_eq h e1
      obtain ⟨rfl, f2⟩ := toVs_eq t e2
      exact ⟨rfl, by simp [f1, f2]⟩
    · cases e
def opInB : D → D → Hh → Option Bool
  | .str x, .str z, _ => match x.cps.toList with
    | [c] => some (decide (c ∈ z.cps.toList))
    | _ => none
  | x, y, h => match toV x, partsOf y h with
    | some v, some ds => match toVs ds with
      | some vs => some (inV v vs)
      | none => none
    | _, _ => none
def opIn (x y : D) (h : Hh) : Option (D × Hh) := (opInB x y h).map fun b => (.bl b, h)
def opNin (x y : D) (h : Hh) : Option (D × Hh) := (opInB x y h).map fun b => (.bl (!b), h)
abbrev rSgn (neg : Bool) : R2 := fun x y H Q => ∃ (c : Nat) (z : Str), x = .str ⟨#[c]⟩ ∧ y = .str z ∧ Q (.bl (if neg then !decide (c ∈ z.cps.toList) else decide (c ∈ z.cps.toList))) H
section
variable {X : Cx} {G : Cl} {W : WX} {a b : Expr} {pos : Pos} {ma mb : M} {K : PySem.W.Frag}
theorem im_inB (neg : Bool) : Imp2 K G (fun x y H Q => rSgn neg x y H Q ∨ rIn K neg x y H Q) (fun x y h => (opInB x y h).map fun b => (.bl (if neg then !b else b), h)) := fun {ρ H h x y dx dy d h' Q} hr rx ry e k => by
  rw [Option.map_eq_some_iff] at e
  obtain ⟨bb, e1, e2⟩ := e
  cases e2
  unfold opInB at e1
  split at e1
  · rename_i x z
    cases rx; cases ry
    split at e1
    · rename_i c hc
      cases e1
      have hx : x = ⟨#[c]⟩ := by
        cases x with
        | mk cps =>
          simp only at hc
          congr 1
          apply Array.ext'
          simpa using hc
      exact .inl ⟨c, z, by rw [hx], rfl, k _ _ _ Ex.refl hr (.bl _)⟩
    · cases e1
  · split at e1
    · rename_i v ds e3 e4
      split at e1
      · rename_i vs e5
        cases e1
        obtain ⟨rfl, f1⟩ := toV_eq rx e3
        unfold partsOf at e4
        split at e4
        · cases e4
          obtain ⟨p, us, rfl, t, r⟩ := ry.sqT
          obtain ⟨rfl, f2⟩ := toVs_eq r e5
          exact .inr ⟨p, _, rfl, .inr t, f1, f2, k _ _ _ Ex.refl hr (.bl _)⟩
        · cases e4
          cases ry with
          | fls t r =>
            obtain ⟨rfl, f2⟩ := toVs_eq r e5
            exact .inr ⟨_, _, rfl, .inl t.sq, f1, f2, k _ _ _ Ex.refl hr (.bl _)⟩
        · cases ry with
          | ref ra =>
            split at e4
            · rename_i e0
              cases e4
              obtain ⟨us, q, r⟩ := ref_seq hr ra e0
              obtain ⟨rfl, f2⟩ := toVs_eq r e5
              exact .inr ⟨_, _, rfl, .inl q, f1, f2, k _ _ _ Ex.refl hr (.bl _)⟩
            · cases e4
        · cases e4
      · cases e1
    · cases e1
theorem im_in : Imp2 K G (fun x y H Q => (∃ (c : Nat) (z : Str), x = .str ⟨#[c]⟩ ∧ y = .str z ∧ Q (.bl (decide (c ∈ z.cps.toList))) H) ∨ rIn K false x y H Q) opIn := im_inB false
theorem im_nin : Imp2 K G (fun x y H Q => (∃ (c : Nat) (z : Str), x = .str ⟨#[c]⟩ ∧ y = .str z ∧ Q (.bl (!decide (c ∈ z.cps.toList))) H) ∨ rIn K true x y H Q) opNin := im_inB true
theorem se_in (hu : X.A.units + 64 < cLine) (ha : PE X a (tM X.K G W ma)) (hb : PE X b (tM X.K G W mb)) (hm : behindInMarks .In b = false := by rfl) : PE X (.Compare a [.In] [b] pos) (tM X.K G W (eB opIn ma mb)) := se_cmp (op_in_sign.or op_in_seq) im_in ha hb hm
theorem se_nin (hu : X.A.units + 64 < cLine) (ha : PE X a (tM X.K G W ma)) (hb : PE X b (tM X.K G W mb)) (hm : behindInMarks .NotIn b = false := by rfl) : PE X (.Compare a [.NotIn] [b] pos) (tM X.K G W (eB opNin ma mb)) := se_cmp (op_notIn_sign.or op_notIn_seq) im_nin ha hb hm
theorem st_in (hu : X.A.units + 64 < cLine) (ha : PE X a (tM X.K G W ma)) (hb : PE X b (tM X.K G W mb)) (hm : behindInMarks .In b = false := by rfl) : PT X (.Compare a [.In] [b] pos) (tT X.K G W (tBl (eB opIn ma mb))) := st_cmp (op_in_sign.or op_in_seq) im_in ha hb hm
theorem st_nin (hu : X.A.units + 64 < cLine) (ha : PE X a (tM X.K G W ma)) (hb : PE X b (tM X.K G W mb)) (hm : behindInMarks .NotIn b = false := by rfl) : PT X (.Compare a [.NotIn] [b] pos) (tT X.K G W (tBl (eB opNin ma mb))) := st_cmp (op_notIn_sign.or op_notIn_seq) im_nin ha hb hm
end
end Sm
/-! SmU: running the mirrors of SmX2, SmY, SmS, SmT -/
namespace Sm
open PySem L2 PyProof.Rows
section
variable (env : Ev) (h : Hh) (f : D → D → Hh → Option (D × Hh)) (mo me m : M) (d e : D) (ds fs : List D) (ms : List M) (mx : List (List D → M)) (c k i : Nat) (sb : S) (mt : Nat → Option Bool) (sm : List D → M) (x y z : Str) (n : Nat)
def sRaise1 (c : Nat) (env : Ev) (r : R (List D)) : SR := bindS r env fun ds h1 => .exc c ds env h1
@[simp] theorem sRaise_eq : sRaise c ms env h = sRaise1 c env (evs ms env h) := rfl
@[simp] theorem sRaise1_ok : sRaise1 c env (.ok ds h) = .exc c ds env h := rfl
def sTryX1 (mt : Nat → Option Bool) (i : Nat) (sm : List D → M) (r : SR) : SR := match r with
  | .exc c fs env' h' => (match mt c with
    | some true => if i < env'.length then (match sm fs (env'.set i none) h' with
      | .ok d h2 => .rt d h2
      | _ => .bad) else .bad
    | some false => .exc c fs env' h'
    | none => .bad)
  | r => r
@[simp] theorem sTryX_eq : sTryX sb mt i sm env h = sTryX1 mt i sm (sb env h) := rfl
@[simp] theorem sTryX1_rt : sTryX1 mt i sm (.rt d h) = .rt d h := rfl
@[simp] theorem sTryX1_nx : sTryX1 mt i sm (.nx env h) = .nx env h := rfl
@[simp] theorem sTryX1_exc : sTryX1 mt i sm (.exc c fs env h) = match mt c with
    | some true => if i < env.length then (match sm fs (env.set i none) h with
      | .ok d h2 => .rt d h2
      | _ => .bad) else .bad
    | some false => .exc c fs env h
    | none => .bad := rfl
@[simp] theorem eTupX_eq : eTupX mx fs = eTup (mx.map fun m => m fs) := rfl
@[simp] theorem eLstX_eq : eLstX mx fs = eLst (mx.map fun m => m fs) := rfl
def eM11 (f : D → D → Hh → Option (D × Hh)) (me : M) (env : Ev) (r : R D) : R D := r.bind fun o h1 => match o with
  | .str a => (me env h1).bind fun d h2 => R.opt (f (.str a) d h2)
  | _ => .bad
def eM12 (f : D → D → Hh → Option (D × Hh)) (a : Str) (r : R D) : R D := r.bind fun d h2 => R.opt (f (.str a) d h2)
@[simp] theorem eM1_eq : eM1 f mo me env h = eM11 f me env (mo env h) := rfl
@[simp] theorem eM11_ok : eM11 f me env (.ok (.str x) h) = eM12 f x (me env h) := rfl
@[simp] theorem eM12_ok : eM12 f x (.ok d h) = R.opt (f (.str x) d h) := rfl
@[simp] theorem opSplit_ss : opSplit (.str x) (.str y) h = if (y.length == 0) = false ∧ x.length + 2 ≤ sizeLine then some (.ref h.length, h ++ [.lst ((Txt.split x y).map D.str)]) else none := rfl
theorem strsOf_map : ∀ xs : List Str, strsOf (xs.map D.str) = some xs
  | [] => rfl
  | x :: xs => by simp [strsOf, strsOf_map xs]
theorem opJoin_l {xs : List Str} (e : h[n]? = some (.lst (xs.map D.str))) (hz : (xs.map (·.length)).sum + xs.length * x.length ≤ 16777216) : opJoin (.str x) (.ref n) h = some (.str (Txt.join x xs), h) := by
  have h1 : partsOf (.ref n) h = some (xs.map D.str) := by
    show (match h[n]? with
      | some (.lst ds) => some ds
      | _ => none) = _
    rw [e]
  have h2 := strsOf_map xs
  simp only [opJoin, h1, h2, if_pos hz]
-- an exception passes through
@[simp] theorem rexc_eU1 (g : D → Hh → Option (D × Hh)) : eU1 g (.exc c fs h) = .exc c fs h := rfl
@[simp] theorem rexc_eB1 (b : M) : eB1 f b env (.exc c fs h) = .exc c fs h := rfl
@[simp] theorem rexc_eB2 : eB2 f d (.exc c fs h) = .exc c fs h := rfl
@[simp] theorem rexc_evs1 : evs1 ms env (.exc c fs h) = .exc c fs h := rfl
@[simp] theorem rexc_evs2 : evs2 d (.exc c fs h) = .exc c fs h := rfl
@[simp] theorem rexc_eTup1 : eTup1 (.exc c fs h) = .exc c fs h := rfl
@[simp] theorem rexc_eLst1 : eLst1 (.exc c fs h) = .exc c fs h := rfl
@[simp] theorem rexc_eCall1 (g : Fm) : eCall1 g (.exc c fs h) = .exc c fs h := rfl
@[simp] theorem rexc_eN1 (g : List D → Hh → Option (D × Hh)) : eN1 g (.exc c fs h) = .exc c fs h := rfl
end
end Sm
/-! SmV: a walk over a tuple, a list or a text -/
namespace Sm
open PySem L2 PyProof.Rows
def signs (z : Str) : List D := z.cps.toList.map fun c => .str ⟨#[c]⟩
def mSeqS (m : M) : Ev → Hh → R Src := fun env h => (m env h).bind fun d h1 => match d with
  | .tup ds => .ok (ds, none) h1
  | .fls ds => .ok (ds, none) h1
  | .str z => .ok (signs z, none) h1
  | .ref n => match h1[n]? with
    | some (.lst ds) => .ok (ds, some (n, .lst ds)) h1
    | _ => .bad
  | _ => .bad
section
variable {X : Cx} {G : Cl} {W : WX} {tg iter : Expr} {m : M} {K : PySem.W.Frag} {ρ : List Addr} {H : Hp}
theorem walks_str {z : Str} : Walks K G ρ H (Its z) (signs z) none := by
  have hl : (signs z).length = z.cps.size := by unfold signs; simp
  refine ⟨fun i ρ' H' h' hr e _ hi => by rw [hl] at hi; exact hi, fun i ρ' H' h' x H2 hr e _ y d hd => ?_, fun ρ' H' h' hr e _ => by rw [hl]; exact Nat.le_refl _⟩
  obtain ⟨rfl, c, hc, rfl⟩ := y
  unfold signs at hd
  rw [List.getElem?_map, Array.getElem?_toList, hc] at hd
  cases hd
  exact ⟨rfl, .str _⟩
theorem io_seqS : ItOk K G W (fun σ H R => (iTup K (tM K G W m) σ H R ∨ iList K (tM K G W m) σ H R) ∨ iStr (tM K G W m) σ H R) (mSeqS m) := fun σ H R0 t => by
  obtain ⟨ρ, h, env, hr, he, p⟩ := t
  cases q : m env h with
  | bad => unfold mSeqS at p; rw [q] at p; exact p.elim
  | exc c fs h' => unfold mSeqS at p; rw [q] at p; exact .inl (.inl ⟨ρ, h, env, hr, he, by rw [q]; exact p⟩)
  | ok d h1 =>
    cases d with
    | str z =>
      unfold mSeqS at p
      rw [q] at p
      refine .inr ⟨ρ, h, env, hr, he, ?_⟩
      rw [q]
      intro ρ' H' v e a r
      cases r
      exact ⟨z, rfl, p ρ' H' _ e a walks_str⟩
    | _ => exact .inl (io_seq σ H R0 ⟨ρ, h, env, hr, he, by unfold mSeqS at p; unfold mSeq; rw [q] at p ⊢; exact p⟩)
theorem pi_seqS (ha : PE X iter (tM X.K G W m)) : PI X tg iter (fun σ H R => (iTup X.K (tM X.K G W m) σ H R ∨ iList X.K (tM X.K G W m) σ H R) ∨ iStr (tM X.K G W m) σ H R) := PI.or (pi_seq ha) (pi_str ha)
end
end Sm
/-! SmW: text * int -/
namespace Sm
open PySem L2 PyProof.Rows
section
variable {X : Cx} {G : Cl} {W : WX} {a b : Expr} {pos : Pos} {ma mb : M} {K : PySem.W.Frag}
abbrev rMulS : R2 := fun x y H Q => ∃ (z : Str) (n : Int), x = .str z ∧ y = .int n ∧ PySem.MulOk z n ∧ Q (.str (Txt.mul z n)) H
theorem op_mul_str : OpR X (binaryOp .Mult) rMulS := by
  intro pins s σ H x y v u Q I rx ry h
  obtain ⟨i, j, rfl, rfl, hz, q⟩ := h
  obtain ⟨t, rfl⟩ := rx
  obtain ⟨t', rfl⟩ := ry
  exact SB.mul hz fun t' k => ⟨.str (Txt.mul i j), H, I.tok _, ⟨_, rfl⟩, q⟩
def opMulA : D → D → Hh → Option (D × Hh)
  | .str z, .int n, h => if z.length ≤ 16 ∧ 0 ≤ n ∧ n ≤ 1048576 then some (.str (Txt.mul z n), h) else none
  | x, y, h => opMul x y h
theorem im_mulA : Imp2 K G (fun x y H Q => rI CMul (fun i j => .int (i * j)) x y H Q ∨ rMulS x y H Q) opMulA := fun {ρ H h x y dx dy d h' Q} hr rx ry e k => by
  unfold opMulA at e
  split at e
  · split at e
    · rename_i q
      cases e
      cases rx; cases ry
      exact .inr ⟨_, _, rfl, rfl, PyProof.Rows.mulOk_of 16 1048576 (by omega) (by omega) (by omega) (by decide) (by decide), k _ _ _ Ex.refl hr (.str _)⟩
    · cases e
  · exact .inl (im_mul hr rx ry e k)
theorem se_mulA (ha : PE X a (tM X.K G W ma)) (hb : PE X b (tM X.K G W mb)) : PE X (.BinOp a .Mult b pos) (tM X.K G W (eB opMulA ma mb)) := se_bin (op_mul.or op_mul_str) im_mulA ha hb
end
section
variable (env : Ev) (h : Hh) (m : M) (i j : Int) (z : Str) (ds : List D) (n : Nat)
@[simp] theorem opMulA_ii : opMulA (.int i) (.int j) h = if mulOk i j = true then some (.int (i * j), h) else none := rfl
@[simp] theorem opMulA_si : opMulA (.str z) (.int i) h = if z.length ≤ 16 ∧ 0 ≤ i ∧ i ≤ 1048576 then some (.str (Txt.mul z i), h) else none := rfl
def mSeqS1 (r : R D) : R Src := r.bind fun d h1 => match d with
  | .tup ds => .ok (ds, none) h1
  | .fls ds => .ok (ds, none) h1
  | .str z => .ok (signs z, none) h1
  | .ref n => match h1[n]? with
    | some (.lst ds) => .ok (ds, some (n, .lst ds)) h1
    | _ => .bad
  | _ => .bad
@[simp] theorem mSeqS_eq : mSeqS m env h = mSeqS1 (m env h) := rfl
@[simp] theorem mSeqS1_t : mSeqS1 (.ok (.tup ds) h) = .ok (ds, none) h := rfl
@[simp] theorem mSeqS1_f : mSeqS1 (.ok (.fls ds) h) = .ok (ds, none) h := rfl
@[simp] theorem mSeqS1_s : mSeqS1 (.ok (.str z) h) = .ok (signs z, none) h := rfl
@[simp] theorem mSeqS1_r : mSeqS1 (.ok (.ref n) h) = match h[n]? with
    | some (.lst ds) => .ok (ds, some (n, .lst ds)) h
    | _ => .bad := rfl
end
end Sm
/-! SmFz: a list that is no longer changed becomes a value (it is locked in the abstract heap for good); a call leaves no new objects behind. -/
namespace Sm
open PySem L2 PyProof.Rows
mutual
/-- all places in it lie below n -/
def lo (n : Nat) : D → Bool
  | .tup ds => los n ds
  | .fls ds => los n ds
  | .ref m => decide (m < n)
  | _ => true
def los (n : Nat) : List D → Bool
  | [] => true
  | d :: ds => lo n d && los n ds
end
section
variable {K : PySem.W.Frag} {G : Cl} {ρ ρ' : List Addr} {H H' : Hp} {h h' : Hh} {n : Nat}
mutual
theorem Rv.cutR (hp : ∀ (m : Nat) (a : Addr), m < n → ρ'[m]? = some a → ρ[m]? = some a) : ∀ {v : V} {d : D}, Rv K ρ' H v d → lo n d = true → Rv K ρ H v d
  | _, _, .non, _ => .non
  | _, _, .bl b, _ => .bl b
  | _, _, .int i, _ => .int i
  | _, _, .str x, _ => .str x
  | _, _, .tup h r, l => .tup h (Rvs.cutR hp r (by simpa [lo] using l))
  | _, _, .ktp h q r, l => .ktp h q (Rvs.cutR hp r (by simpa [lo] using l))
  | _, _, .fls h r, l => .fls h (Rvs.cutR hp r (by simpa [lo] using l))
  | _, _, .ref h, l => .ref (hp _ _ (by simpa [lo] using l) h)
theorem Rvs.cutR (hp : ∀ (m : Nat) (a : Addr), m < n → ρ'[m]? = some a → ρ[m]? = some a) : ∀ {vs : List V} {ds : List D}, Rvs K ρ' H vs ds → los n ds = true → Rvs K ρ H vs ds
  | _, _, .nil, _ => .nil
  | _, _, .cons h r, l => .cons (Rv.cutR hp h (by simp [los] at l; exact l.1)) (Rvs.cutR hp r (by simp [los] at l; exact l.2))
end
theorem Ex.take (e : Ex K ρ H ρ' H') (hn : ρ.length ≤ n) : Ex K ρ H (ρ'.take n) H' := ⟨fun m a z => by
  have l : m < ρ.length := (List.getElem?_eq_some_iff.mp z).1
  rw [List.getElem?_take, if_pos (by omega)]
  exact e.pre m a z, e.tup, e.frz, e.xds⟩
/-- the plain heap's objects, read with fewer places: an object whose parts lie below -/
def loO (n : Nat) : O → Bool
  | .lst ds => los n ds
  | .dK kvs => kvs.all fun p => lo n p.2
  | .dT kvs => kvs.all fun p => lo n p.2
  | .ins _ fs => fs.all fun o => match o with
    | some d => lo n d
    | none => true
  | .dead => true
/-- what stands in h2 stood in h or has its parts below n -/
def Kq (n : Nat) (h h2 : Hh) : Prop := ∀ (i : Nat) (o : O), h2[i]? = some o → h[i]? = some o ∨ loO n o = true
mutual
theorem Rv.loR : ∀ {v : V} {d : D}, Rv K ρ H v d → lo ρ.length d = true
  | _, _, .non => rfl
  | _, _, .bl b => rfl
  | _, _, .int i => rfl
  | _, _, .str x => rfl
  | _, _, .tup h r => by simpa [Sm.lo] using Rvs.losR r
  | _, _, .ktp h q r => by simpa [Sm.lo] using Rvs.losR r
  | _, _, .fls h r => by simpa [Sm.lo] using Rvs.losR r
  | _, _, .ref h => by simpa [Sm.lo] using (List.getElem?_eq_some_iff.mp h).1
theorem Rvs.losR : ∀ {vs : List V} {ds : List D}, Rvs K ρ H vs ds → los ρ.length ds = true
  | _, _, .nil => rfl
  | _, _, .cons h r => by simp [Sm.los, Rv.loR h, Rvs.losR r]
end
theorem Paired.loK {β : Type} : ∀ {kvs : List (β × V)} {ds : List (β × D)}, Paired (fun (p : β × V) (q : β × D) => p.1 = q.1 ∧ Rv K ρ H p.2 q.2) kvs ds → (ds.all fun p => lo ρ.length p.2) = true
  | _, _, .nil => rfl
  | _, _, .cons h t => by simp only [List.all_cons, Bool.and_eq_true]; exact ⟨h.2.loR, Paired.loK t⟩
theorem Ro.loR {a : Addr} {o : O} (r : Ro K G ρ H a o) : loO ρ.length o = true := by
  cases r with
  | lst q r => simpa [loO] using r.losR
  | dK q r => simpa [loO] using Paired.loK r
  | dT q r => simpa [loO] using Paired.loK r
  | @ins c dx fs ds q e r nn z =>
    show (ds.all fun o => match o with
      | some d => lo ρ.length d
      | none => true) = true
    rw [List.all_eq_true]
    intro o ho
    obtain ⟨i, hi⟩ := List.getElem?_of_mem ho
    have hl : i < (G.nm c).length := by rw [← e]; exact (List.getElem?_eq_some_iff.mp hi).1
    have q1 := r i _ (List.getElem?_eq_getElem hl)
    rw [hi] at q1
    cases o with
    | none => rfl
    | some d =>
      cases e2 : fs.lookup (G.nm c)[i] with
      | none => rw [e2] at q1; exact q1.elim
      | some v => rw [e2] at q1; exact Rv.loR q1
  | dead q => rfl
theorem lo_mono {m n : Nat} (hmn : m ≤ n) {d : D} (l : lo m d = true) : lo n d = true := by
  have key : (∀ d, lo m d = true → lo n d = true) ∧ (∀ ds, los m ds = true → los n ds = true) := by
    constructor
    · intro d
      refine lo.induct (motive_1 := fun d => lo m d = true → lo n d = true) (motive_2 := fun ds => los m ds = true → los n ds = true) ?_ ?_ ?_ ?_ ?_ ?_ d
      · intro ds ih l; simp [lo] at l ⊢; exact ih l
      · intro ds ih l; simp [lo] at l ⊢; exact ih l
      · intro k l; simp [lo] at l ⊢; omega
      · intro d h1 h2 h3 l; unfold lo; split <;> simp_all
      · intro _; rfl
      · intro d ds ih1 ih2 l; simp [los] at l ⊢; exact ⟨ih1 l.1, ih2 l.2⟩
    · intro ds
      refine los.induct (motive_1 := fun d => lo m d = true → lo n d = true) (motive_2 := fun ds => los m ds = true → los n ds = true) ?_ ?_ ?_ ?_ ?_ ?_ ds
      · intro ds ih l; simp [lo] at l ⊢; exact ih l
      · intro ds ih l; simp [lo] at l ⊢; exact ih l
      · intro k l; simp [lo] at l ⊢; omega
      · intro d h1 h2 h3 l; unfold lo; split <;> simp_all
      · intro _; rfl
      · intro d ds ih1 ih2 l; simp [los] at l ⊢; exact ⟨ih1 l.1, ih2 l.2⟩
  exact key.1 d l
theorem los_mono {m n : Nat} (hmn : m ≤ n) : ∀ {ds : List D}, los m ds = true → los n ds = true
  | [], _ => rfl
  | d :: ds, l => by simp only [los, Bool.and_eq_true] at l ⊢; exact ⟨lo_mono hmn l.1, los_mono hmn l.2⟩
theorem loO_mono {m n : Nat} (hmn : m ≤ n) {o : O} (l : loO m o = true) : loO n o = true := by
  cases o with
  | lst ds => exact los_mono hmn l
  | dK kvs =>
    simp only [loO, List.all_eq_true] at l ⊢
    exact fun x hx => lo_mono hmn (l x hx)
  | dT kvs =>
    simp only [loO, List.all_eq_true] at l ⊢
    exact fun x hx => lo_mono hmn (l x hx)
  | ins c fs =>
    simp only [loO, List.all_eq_true] at l ⊢
    intro x hx
    have := l x hx
    cases x with
    | none => rfl
    | some d => exact lo_mono hmn this
  | dead => rfl
theorem Paired.cutK {β : Type} (hp : ∀ (m : Nat) (a : Addr), m < n → ρ'[m]? = some a → ρ[m]? = some a) : ∀ {kvs : List (β × V)} {ds : List (β × D)}, Paired (fun (p : β × V) (q : β × D) => p.1 = q.1 ∧ Rv K ρ' H p.2 q.2) kvs ds → (ds.all fun p => lo n p.2) = true → Paired (fun (p : β × V) (q : β × D) => p.1 = q.1 ∧ Rv K ρ H p.2 q.2) kvs ds
  | _, _, .nil, _ => .nil
  | _, _, .cons h t, l => by
    simp only [List.all_cons, Bool.and_eq_true] at l
    exact .cons ⟨h.1, h.2.cutR hp l.1⟩ (Paired.cutK hp t l.2)
theorem Ro.cutR (hp : ∀ (m : Nat) (a : Addr), m < n → ρ'[m]? = some a → ρ[m]? = some a) {a : Addr} {o : O} (r : Ro K G ρ' H a o) (l : loO n o = true) : Ro K G ρ H a o := by
  cases r with
  | lst q r => exact .lst q (r.cutR hp (by simpa [loO] using l))
  | dK q r => exact .dK q (Paired.cutK hp r (by simpa [loO] using l))
  | dT q r => exact .dT q (Paired.cutK hp r (by simpa [loO] using l))
  | @ins c dx fs ds q e r nn z =>
    refine .ins q e (fun i f hf => ?_) nn z
    have q1 := r i f hf
    cases e2 : fs.lookup f with
    | none =>
      rw [e2] at q1
      cases e1 : ds[i]? with
      | none => trivial
      | some o1 =>
        rw [e1] at q1
        cases o1 with
        | none => trivial
        | some d => exact q1.elim
    | some v =>
      rw [e2] at q1
      cases e1 : ds[i]? with
      | none => rw [e1] at q1; exact q1.elim
      | some o1 =>
        rw [e1] at q1
        cases o1 with
        | none => exact q1.elim
        | some d =>
          have l1 : lo n d = true := by
            have l2 : (ds.all fun o => match o with
              | some d => lo n d
              | none => true) = true := l
            have := List.all_eq_true.mp l2 (some d) (List.mem_of_getElem? e1)
            simpa using this
          exact Rv.cutR hp q1 l1
  | dead q => exact .dead q
theorem Rh.take (r : Rh K G ρ H h) (hl : ∀ (i : Nat) (o : O), (h.take n)[i]? = some o → loO n o = true) : Rh K G (ρ.take n) H (h.take n) := by
  have hp : ∀ (m : Nat) (a : Addr), m < n → ρ[m]? = some a → (ρ.take n)[m]? = some a := fun m a hm e => by rw [List.getElem?_take, if_pos hm]; exact e
  refine ⟨by rw [List.length_take, List.length_take, r.len], fun i j a h1 h2 => ?_, fun m o q => ?_⟩
  · rw [List.getElem?_take] at h1 h2
    split at h1
    · split at h2
      · exact r.inj i j a h1 h2
      · cases h2
    · cases h1
  · have lo1 : loO n o = true := hl m o q
    rw [List.getElem?_take] at q
    split at q
    · rename_i hm
      obtain ⟨a, h1, h2⟩ := r.obj m o q
      exact ⟨a, hp m a hm h1, h2.cutR hp lo1⟩
    · cases q
end
theorem Rh.kq {K : PySem.W.Frag} {G : Cl} {ρ : List Addr} {n : Nat} {h : Hh} {H0 : Hp} {h0 : Hh} (r : Rh K G ρ H0 h0) (hn : h0.length ≤ n) (q : Kq n h0 h) (i : Nat) (o : O) (e : h[i]? = some o) : loO n o = true := by
  rcases q i o e with z | z
  · obtain ⟨a, _, h2⟩ := r.obj i o z
    exact loO_mono (by rw [r.len]; exact hn) h2.loR
  · exact z
/-! ### a list becomes a value -/
def FQ (Q : VK) : VK := fun v H1 => Q v H1 ∨ ∃ d xs, v = .ref d ∧ H1 d = some (.lst xs) ∧ ∀ od, Q v (upd H1 d (.frz od (.lst xs)))
def tFrz (t : TE) : TE := fun σ H Q => t σ H (FQ Q)
theorem pe_frz {X : Cx} {e : Expr} {t : TE} (h : PE X e t) : PE X e (tFrz t) := by
  refine ⟨fun pins s σ H Q I hw => ?_⟩
  refine thn (h.run pins s σ H _ I hw) fun v s1 ⟨x, H1, I1, r1, q1⟩ => ?_
  rcases q1 with q1 | ⟨d, xs, rfl, hd, q1⟩
  · exact ⟨x, H1, I1, r1, q1⟩
  · obtain ⟨od, I2⟩ := I1.lock hd trivial
    exact ⟨.ref d, _, I2, r1, q1 od⟩
open Classical in
noncomputable def fz1 (h : Hh) (r : R D) : R D := match r with
  | .ok (.ref n) h1 => (match h1[n]? with
    | some (.lst ds) => if h.length ≤ n ∧ n + 1 = h1.length ∧ los n ds = true ∧ Kq n h (h1.take n) then .ok (.fls ds) (h1.take n) else .ok (.fls ds) (h1.set n .dead)
    | _ => .ok (.ref n) h1)
  | r => r
noncomputable def eFz (m : M) : M := fun env h => fz1 h (m env h)
section
variable {K : PySem.W.Frag} {G : Cl} {ρ ρ' : List Addr} {H H' : Hp} {h h' : Hh} {n : Nat} {W : WX} {σ : L2.St}
theorem Po.fz {r : R D} {Q : VK} (hr : Rh K G ρ H h) (p : Po K G (relV K) W ρ H σ (fz1 h r) Q) : Po K G (relV K) W ρ H σ r fun v H1 => Q v H1 ∨ ∃ d xs, v = .ref d ∧ H1 d = some (.lst xs) ∧ ∀ od, Q v (upd H1 d (.frz od (.lst xs))) := by
  cases r with
  | bad => exact p
  | exc c fs h1 => exact p
  | ok d h1 =>
    cases d with
    | ref n =>
      unfold fz1 at p
      dsimp only at p
      split at p
      · rename_i ds e0
        intro ρ' H' v ex rh rv
        cases rv with
        | ref ra =>
          rename_i a
          obtain ⟨vs, hv, rs⟩ := ref_lst rh ra e0
          refine .inr ⟨a, vs, rfl, hv, fun od => ?_⟩
          have e1 : Ex K ρ' H' ρ' (upd H' a (.frz od (.lst vs))) := Ex.write rh ra e0
          have r1 : Rh K G ρ' (upd H' a (.frz od (.lst vs))) (h1.set n .dead) := rh.write ra e0 (.dead upd_same)
          have v1 : Rv K ρ' (upd H' a (.frz od (.lst vs))) (.ref a) (.fls ds) := .fls (.inl ⟨od, upd_same⟩) (rs.mono e1)
          split at p
          · rename_i hc
            obtain ⟨c1, c2, c3, c4⟩ := hc
            have hp : ∀ (m : Nat) (b : Addr), m < n → ρ'[m]? = some b → (ρ'.take n)[m]? = some b := fun m b hm e => by rw [List.getElem?_take, if_pos hm]; exact e
            have t1 : (h1.set n .dead).take n = h1.take n := by
              rw [List.take_set, List.set_eq_of_length_le]
              rw [List.length_take]; omega
            refine p (ρ'.take n) _ _ (Ex.take (ex.trans e1) (by rw [hr.len]; exact c1)) ?_ (v1.cutR hp (by simpa [lo] using c3))
            have := r1.take (n := n) (by rw [t1]; exact hr.kq c1 c4)
            rw [t1] at this
            exact this
          · exact p ρ' _ _ (ex.trans e1) r1 v1
      · exact fun ρ' H' v ex rh rv => .inl (p ρ' H' v ex rh rv)
    | _ => exact fun ρ' H' v ex rh rv => .inl (p ρ' H' v ex rh rv)
theorem se_fz {X : Cx} {e : Expr} {m : M} (he : PE X e (tM X.K G W m)) : PE X e (tM X.K G W (eFz m)) := peImp (pe_frz he) fun σ H Q t => by
  obtain ⟨ρ, h, env, hr, he, p⟩ := t
  exact ⟨ρ, h, env, hr, he, Po.fz hr p⟩
/-! ### operations whose new list is a value at once -/
theorem new_fls {vs : List V} {ds : List D} {Q : VK} (hr : Rh K G ρ H h) (rs : Rvs K ρ H vs ds) (k : ∀ ρ' H' v, Ex K ρ H ρ' H' → Rh K G ρ' H' h → Rv K ρ' H' v (.fls ds) → Q v H') :
    ∀ p, H p = none → FQ Q (.ref p) (upd H p (.lst vs)) := fun p n => .inr ⟨p, vs, rfl, upd_same, fun od => by
  have e : upd (upd H p (.lst vs)) p (.frz od (.lst vs)) = upd H p (.frz od (.lst vs)) := by
    funext b
    by_cases q : b = p
    · rw [q, upd_same, upd_same]
    · rw [upd_ne q, upd_ne q, upd_ne q]
  rw [e]
  exact k ρ _ _ (Ex.fresh n) (hr.aux n) (.fls (.inl ⟨od, upd_same⟩) (rs.mono (Ex.fresh n)))⟩
theorem FQ.k {Q : VK} {ρ : List Addr} {H : Hp} {h' : Hh} {d : D} (k : ∀ ρ' H' v, Ex K ρ H ρ' H' → Rh K G ρ' H' h' → Rv K ρ' H' v d → Q v H') : ∀ ρ' H' v, Ex K ρ H ρ' H' → Rh K G ρ' H' h' → Rv K ρ' H' v d → FQ Q v H' := fun ρ' H' v a b c => .inl (k ρ' H' v a b c)
def Imp1F (K : PySem.W.Frag) (G : Cl) (r : V → Hp → VK → Prop) (f : D → Hh → Option (D × Hh)) : Prop := ∀ {ρ : List Addr} {H : Hp} {h : Hh} {x : V} {dx d : D} {h' : Hh} {Q : VK}, Rh K G ρ H h → Rv K ρ H x dx → f dx h = some (d, h') →
  (∀ ρ' H' v, Ex K ρ H ρ' H' → Rh K G ρ' H' h' → Rv K ρ' H' v d → Q v H') → r x H (FQ Q)
def Imp2F (K : PySem.W.Frag) (G : Cl) (r : R2) (f : D → D → Hh → Option (D × Hh)) : Prop := ∀ {ρ : List Addr} {H : Hp} {h : Hh} {x y : V} {dx dy d : D} {h' : Hh} {Q : VK}, Rh K G ρ H h → Rv K ρ H x dx → Rv K ρ H y dy → f dx dy h = some (d, h') →
  (∀ ρ' H' v, Ex K ρ H ρ' H' → Rh K G ρ' H' h' → Rv K ρ' H' v d → Q v H') → r x y H (FQ Q)
def ImpNF (K : PySem.W.Frag) (G : Cl) (r : List V → Hp → VK → Prop) (f : List D → Hh → Option (D × Hh)) : Prop := ∀ {ρ : List Addr} {H : Hp} {h : Hh} {xs : List V} {ds : List D} {d : D} {h' : Hh} {Q : VK}, Rh K G ρ H h → Rvs K ρ H xs ds → f ds h = some (d, h') →
  (∀ ρ' H' v, Ex K ρ H ρ' H' → Rh K G ρ' H' h' → Rv K ρ' H' v d → Q v H') → r xs H (FQ Q)
section
variable {X : Cx} {e o a b c : Expr} {lo hi : Option Expr} {es : List Expr} {pos p p1 p2 p3 : Pos} {ma mb m mo me : M} {ml mh : Option M} {ms : List M} {env : Ev} {x : Str} {id T : String}
theorem un_impF {r : V → Hp → VK → Prop} {f : D → Hh → Option (D × Hh)} (i : Imp1F X.K G r f) (σ : L2.St) (H : Hp) (Q : VK) (t : tM X.K G W (eU f ma) σ H Q) : tUn r (tM X.K G W ma) σ H (FQ Q) := by
  obtain ⟨ρ, h, env, hr, he, p⟩ := t
  refine tG_mono (tG_bind (rel := relV X.K) hr he p) fun x H1 ⟨ρ1, h1, d, e1, hr1, he1, r1, p1⟩ => ?_
  obtain ⟨d2, h2, eq, k⟩ := p1.opt
  exact i hr1 r1 eq k
theorem bin_impF {r : R2} {f : D → D → Hh → Option (D × Hh)} (i : Imp2F X.K G r f) (σ : L2.St) (H : Hp) (Q : VK) (t : tM X.K G W (eB f ma mb) σ H Q) : tOp r (tM X.K G W ma) (tM X.K G W mb) σ H (FQ Q) := by
  obtain ⟨ρ, h, env, hr, he, p⟩ := t
  refine tG_mono (tG_bind (rel := relV X.K) hr he p) fun x H1 ⟨ρ1, h1, d, e1, hr1, he1, r1, p1⟩ => ?_
  refine tG_mono (tG_bind (rel := relV X.K) hr1 he1 p1) fun y H2 ⟨ρ2, h2, d2, e2, hr2, he2, r2, p2⟩ => ?_
  obtain ⟨d3, h3, eq, k⟩ := p2.opt
  exact i hr2 (r1.mono e2) r2 eq k
theorem nary_impF {r : List V → Hp → VK → Prop} {f : List D → Hh → Option (D × Hh)} (i : ImpNF X.K G r f) (σ : L2.St) (H : Hp) (Q : VK) (t : tM X.K G W (eN f ms) σ H Q) : tCB r (tL X.K G W (evs ms)) σ H (FQ Q) := by
  obtain ⟨ρ, h, env, hr, he, p⟩ := t
  refine tG_mono (tG_bind (rel := relVs X.K) hr he p) fun x H1 ⟨ρ1, h1, d, e1, hr1, he1, r1, p1⟩ => ?_
  obtain ⟨d2, h2, eq, k⟩ := p1.opt
  exact i hr1 r1 eq k
/-- frozen: the reading's end is weaker -/
theorem pe_F {t t' : TE} (h : PE X e t) (i : ∀ σ H Q, t' σ H Q → t σ H (FQ Q)) : PE X e t' := peImp (pe_frz h) i
-- [a, b]
def eLstF (ms : List M) : M := fun env h => (evs ms env h).bind fun ds h1 => .ok (.fls ds) h1
theorem se_lstF (ha : PA X es (tL X.K G W (evs ms))) (hl : ms.length ≤ sizeLine := by decide) : PE X (.List es pos) (tM X.K G W (eLstF ms)) := pe_F (pe_lst ha) fun σ H Q t => by
  obtain ⟨ρ, h, env, hr, he, p⟩ := t
  refine tG_mono (seq_len (t := tNil) (L := fun _ _ => True) hl hr he p) fun vs H1 ⟨l, ρ1, h1, d, e1, hr1, he1, r1, p1⟩ => ⟨l, ?_⟩
  exact new_fls hr1 r1 p1
-- a + b
def opAddF : D → D → Hh → Option (D × Hh)
  | .fls xs, .fls ys, h => if xs.length + ys.length ≤ sizeLine then some (.fls (xs ++ ys), h) else none
  | .ref m, .fls ys, h => match h[m]? with
    | some (.lst xs) => if xs.length + ys.length ≤ sizeLine then some (.fls (xs ++ ys), h) else none
    | _ => none
  | .fls xs, .ref n, h => match h[n]? with
    | some (.lst ys) => if xs.length + ys.length ≤ sizeLine then some (.fls (xs ++ ys), h) else none
    | _ => none
  | .ref m, .ref n, h => match h[m]?, h[n]? with
    | some (.lst xs), some (.lst ys) => if xs.length + ys.length ≤ sizeLine then some (.fls (xs ++ ys), h) else none
    | _, _ => none
  | x, y, h => opAdd x y h
theorem im_addF : Imp2F K G (rAddAll K) opAddF := fun {ρ H h x y dx dy d h' Q} hr rx ry e k => by
  unfold opAddF at e
  split at e
  · split at e
    · rename_i hl
      cases e
      cases rx with
      | fls t1 r1 =>
        cases ry with
        | fls t2 r2 => exact .inr (.inr (.inr ⟨_, _, _, _, rfl, rfl, t1.sq, t2.sq, by rw [r1.length, r2.length]; exact hl, new_fls hr (r1.append r2) k⟩))
    · cases e
  · cases rx with
    | ref ra =>
      cases ry with
      | fls t2 r2 =>
        split at e
        · rename_i xs e1
          split at e
          · rename_i hl
            cases e
            obtain ⟨vs, q1, r1⟩ := ref_seq hr ra e1
            exact .inr (.inr (.inr ⟨_, _, _, _, rfl, rfl, q1, t2.sq, by rw [r1.length, r2.length]; exact hl, new_fls hr (r1.append r2) k⟩))
          · cases e
        · cases e
  · cases rx with
    | fls t1 r1 =>
      cases ry with
      | ref ra2 =>
        split at e
        · rename_i ys e2
          split at e
          · rename_i hl
            cases e
            obtain ⟨vs2, q2, r2⟩ := ref_seq hr ra2 e2
            exact .inr (.inr (.inr ⟨_, _, _, _, rfl, rfl, t1.sq, q2, by rw [r1.length, r2.length]; exact hl, new_fls hr (r1.append r2) k⟩))
          · cases e
        · cases e
  · cases rx with
    | ref ra =>
      cases ry with
      | ref ra2 =>
        split at e
        · rename_i xs ys e1 e2
          split at e
          · rename_i hl
            cases e
            obtain ⟨vs, q1, r1⟩ := ref_seq hr ra e1
            obtain ⟨vs2, q2, r2⟩ := ref_seq hr ra2 e2
            exact .inr (.inr (.inr ⟨_, _, _, _, rfl, rfl, q1, q2, by rw [r1.length, r2.length]; exact hl, new_fls hr (r1.append r2) k⟩))
          · cases e
        · cases e
  · exact im_add hr rx ry e (FQ.k k)
theorem se_addF (ha : PE X a (tM X.K G W ma)) (hb : PE X b (tM X.K G W mb)) : PE X (.BinOp a .Add b pos) (tM X.K G W (eB opAddF ma mb)) := pe_F (pe_op op_addAll ha hb) fun σ H Q t => bin_impF im_addF σ H Q t
-- a[l:u]
def opSlF : D → Option Int → Option Int → Hh → Option (D × Hh)
  | .tup ds, lo, hi, h => some (.tup (cutD ds lo hi), h)
  | .str z, lo, hi, h => if z.length ≤ sizeLine then some (.str (cutS z lo hi), h) else none
  | .fls ds, lo, hi, h => some (.fls (cutD ds lo hi), h)
  | .ref n, lo, hi, h => match h[n]? with
    | some (.lst ds) => some (.fls (cutD ds lo hi), h)
    | _ => none
  | _, _, _, _ => none
def eSlF (m : M) (lo hi : Option M) : M := fun env h => (m env h).bind fun d h1 => (evO lo env h1).bind fun l h2 => (evO hi env h2).bind fun u h3 => R.opt (opSlF d l u h3)
theorem im_slF {x : V} {d d2 : D} {lo hi : Option Int} {h' : Hh} {Q : VK} (hr : Rh K G ρ H h) (rx : Rv K ρ H x d) (e : opSlF d lo hi h = some (d2, h')) (k : ∀ ρ' H' v, Ex K ρ H ρ' H' → Rh K G ρ' H' h' → Rv K ρ' H' v d2 → Q v H') : rSlAll K x lo hi H (FQ Q) := by
  unfold opSlF at e
  split at e
  · cases e
    obtain ⟨a, vs, rfl, t, r⟩ := rx.sqT
    refine .inl ⟨a, vs, rfl, t, fun ⟨z1, z2⟩ => ?_, fun _ => new_tup hr (r.cut lo hi) (FQ.k k)⟩
    rw [r.length] at z1 z2
    rw [whole_cut z1 z2] at k
    exact .inl (k _ _ _ Ex.refl hr rx)
  · split at e
    · cases e; cases rx
      exact .inr (.inr ⟨_, rfl, by assumption, .inl (k _ _ _ Ex.refl hr (.str _))⟩)
    · cases e
  · cases e
    cases rx with
    | fls t r => exact .inr (.inl ⟨_, _, rfl, t.sq, new_fls hr (r.cut _ _) k⟩)
  · cases rx with
    | ref ra =>
      split at e
      · rename_i ds e0
        cases e
        obtain ⟨vs, q, r⟩ := ref_seq hr ra e0
        exact .inr (.inl ⟨_, vs, rfl, q, new_fls hr (r.cut _ _) k⟩)
      · cases e
  · cases e
theorem se_slF (ha : PE X a (tM X.K G W m)) (hl : PO X lo (tG X.K G relO W (evO ml))) (hh : PO X hi (tG X.K G relO W (evO mh))) : PE X (.Subscript a (.Slice lo hi none p2) pos) (tM X.K G W (eSlF m ml mh)) :=
  pe_F (pe_slice (sl_tupA.or (sl_list.or sl_str)) ha hl hh) fun σ H Q t => by
    obtain ⟨ρ, h, env, hr, he, p⟩ := t
    refine tG_mono (tG_bind (rel := relV X.K) hr he p) fun x H1 ⟨ρ1, h1, d, e1, hr1, he1, r1, p1⟩ => ?_
    refine tG_mono (tG_bind (rel := relO) hr1 he1 p1) fun l H2 ⟨ρ2, h2, d2, e2, hr2, he2, r2, p2⟩ => ?_
    refine tG_mono (tG_bind (rel := relO) hr2 he2 p2) fun u H3 ⟨ρ3, h3, d3, e3, hr3, he3, r3, p3⟩ => ?_
    subst r2 r3
    obtain ⟨d4, h4, eq, k⟩ := p3.opt
    exact im_slF hr3 ((r1.mono e2).mono e3) eq k
-- a[::-1]
def opRevF : D → Hh → Option (D × Hh)
  | .fls ds, h => some (.fls ds.reverse, h)
  | .ref n, h => match h[n]? with
    | some (.lst ds) => some (.fls ds.reverse, h)
    | _ => none
  | _, _ => none
theorem se_revF {k : Nat} (ha : PE X a (tM X.K G W m)) : PE X (.Subscript a (.Slice none none (some (.UnaryOp .USub (.Constant (.int 1) k p1) p2)) p3) pos) (tM X.K G W (eU opRevF m)) := pe_F (pe_revL ha) fun σ H Q t => by
  refine un_impF (r := fun x H1 Q => ∃ a xs, x = .ref a ∧ SqL X.K H1 a xs ∧ ∀ p, H1 p = none → Q (.ref p) (upd H1 p (.lst xs.reverse))) (fun {ρ H h x dx d h' Q} hr rx e k => ?_) σ H Q t
  unfold opRevF at e
  split at e
  · cases e
    cases rx with
    | fls t r => exact ⟨_, _, rfl, t.sq, new_fls hr r.reverse k⟩
  · cases rx with
    | ref ra =>
      split at e
      · rename_i ds e0
        cases e
        obtain ⟨vs, q, r⟩ := ref_seq hr ra e0
        exact ⟨_, vs, rfl, q, new_fls hr r.reverse k⟩
      · cases e
  · cases e
-- list(a)
def opListF : List D → Hh → Option (D × Hh)
  | [.tup ds], h => some (.fls ds, h)
  | [.fls ds], h => some (.fls ds, h)
  | [.ref n], h => match h[n]? with
    | some (.lst ds) => some (.fls ds, h)
    | some (.dK kvs) => some (.fls (kvs.map fun kv => kD kv.1), h)
    | some (.dT kvs) => some (.fls (kvs.map fun kv => .tup (kv.1.map kD)), h)
    | _ => none
  | _, _ => none
theorem im_listF : ImpNF K G (rListAll K) opListF := fun {ρ H h xs ds d h' Q} hr rs e k => by
  unfold opListF at e
  split at e
  · cases e
    obtain ⟨v, rfl, r⟩ := rs.one
    obtain ⟨a, vs, rfl, t, q⟩ := r.sqT
    exact .inl ⟨a, vs, rfl, .inr t, new_fls hr q k⟩
  · cases e
    obtain ⟨v, rfl, r⟩ := rs.one
    cases r with
    | fls t q => exact .inl ⟨_, _, rfl, .inl t.sq, new_fls hr q k⟩
  · obtain ⟨v, rfl, r⟩ := rs.one
    cases r with
    | ref ra =>
      split at e
      · rename_i e0
        cases e
        obtain ⟨vs, q, r⟩ := ref_seq hr ra e0
        exact .inl ⟨_, vs, rfl, .inl q, new_fls hr r k⟩
      · rename_i e0
        cases e
        have z := hr.at_ ra e0
        cases z with
        | dK q r => exact .inr (.inl ⟨_, _, rfl, q, new_fls hr (rvs_keys r) k⟩)
      · rename_i e0
        cases e
        have z := hr.at_ ra e0
        cases z with
        | dT q r => exact .inr (.inr ⟨_, _, rfl, .inl q, fun p bs n hb => new_fls hr (rvs_keysT r hb) k p n⟩)
      · cases e
  · cases e
-- sorted(a), numbers
def opSortedF : List D → Hh → Option (D × Hh)
  | [.fls ds], h => match intsOf ds with
    | some ns => some (.fls ((sortI ns).map D.int), h)
    | none => none
  | [.ref n], h => match h[n]? with
    | some (.lst ds) => match intsOf ds with
      | some ns => some (.fls ((sortI ns).map D.int), h)
      | none => none
    | _ => none
  | _, _ => none
theorem im_sortedF : ImpNF K G (rSortedI K) opSortedF := fun {ρ H h xs ds d h' Q} hr rs e k => by
  unfold opSortedF at e
  split at e
  · obtain ⟨v, rfl, r⟩ := rs.one
    cases r with
    | fls t r =>
      split at e
      · rename_i ns e1
        cases e
        have z := intsOf_eq e1
        subst z
        have y := r.ints
        subst y
        refine ⟨_, ns, rfl, t.sq, fun ns' p hp hs hn => ?_⟩
        rw [sortI_eq hp hs]
        exact new_fls hr (Rvs.of_ints _) k p hn
      · cases e
  · obtain ⟨v, rfl, r⟩ := rs.one
    cases r with
    | ref ra =>
      split at e
      · rename_i e0
        split at e
        · rename_i ns e1
          cases e
          have z := intsOf_eq e1
          subst z
          obtain ⟨vs, q, r⟩ := ref_seq hr ra e0
          have y := r.ints
          subst y
          refine ⟨_, ns, rfl, q, fun ns' p hp hs hn => ?_⟩
          rw [sortI_eq hp hs]
          exact new_fls hr (Rvs.of_ints _) k p hn
        · cases e
      · cases e
  · cases e
theorem se_callBF {r : List V → Hp → VK → Prop} {f : List D → Hh → Option (D × Hh)} (hc : CallR X (.builtin id) r) (i : ImpNF X.K G r f) (hg : Gl X x) (hm : X.mg x = none) (hv : bootBuiltins x = some (.builtin id)) (ha : PA X (e :: es) (tL X.K G W (evs ms))) (hn : x ≠ "__name__" := by decide) (hdb : (x == ("__debug__" : Str)) = false := by decide)
    (he : starEach (e :: es) X.env = (false, eval e X.env) :: starEach es X.env := by rfl) (hpl : (backTo pos (starEach es X.env)).any (·.1) = false := by rfl) : PE X (.Call (.Name x p) (e :: es) [] pos) (tM X.K G W (eN f ms)) :=
  pe_F (pe_callB hc hg hm hv ha hn hdb he hpl) fun σ H Q t => nary_impF i σ H Q t
theorem se_callTyF {r : List V → Hp → VK → Prop} {f : List D → Hh → Option (D × Hh)} (hc : CallR X (.type T) r) (i : ImpNF X.K G r f) (hg : Gl X x) (hm : X.mg x = none) (hv : bootBuiltins x = some (.type T)) (ha : PA X (e :: es) (tL X.K G W (evs ms))) (hn : x ≠ "__name__" := by decide) (hdb : (x == ("__debug__" : Str)) = false := by decide)
    (he : starEach (e :: es) X.env = (false, eval e X.env) :: starEach es X.env := by rfl) (hpl : (backTo pos (starEach es X.env)).any (·.1) = false := by rfl) : PE X (.Call (.Name x p) (e :: es) [] pos) (tM X.K G W (eN f ms)) :=
  pe_F (pe_callTy hc hg hm hv ha hn hdb he hpl) fun σ H Q t => nary_impF i σ H Q t
-- split
def opSplitF : D → D → Hh → Option (D × Hh)
  | .str a, .str b, h => if (b.length == 0) = false ∧ a.length + 2 ≤ sizeLine then some (.fls ((Txt.split a b).map D.str), h) else none
  | _, _, _ => none
theorem m1_impF {r : V → List V → Hp → VK → Prop} {f : D → D → Hh → Option (D × Hh)} (i : ∀ {ρ : List Addr} {H : Hp} {h : Hh} {x y : V} {dx dy d : D} {h' : Hh} {Q : VK}, Rh X.K G ρ H h → Rv X.K ρ H x dx → Rv X.K ρ H y dy → f dx dy h = some (d, h') →
  (∀ ρ' H' v, Ex X.K ρ H ρ' H' → Rh X.K G ρ' H' h' → Rv X.K ρ' H' v d → Q v H') → r x [y] H (FQ Q)) (σ : L2.St) (H : Hp) (Q : VK) (t : tM X.K G W (eM1 f mo me) σ H Q) : tM1 r (tM X.K G W mo) (tM X.K G W me) σ H (FQ Q) := by
  obtain ⟨ρ, h, env, hr, he, p⟩ := t
  refine tG_mono (tG_bind (rel := relV X.K) hr he p) fun x H1 ⟨ρ1, h1, d, e1, hr1, he1, r1, p1⟩ => ?_
  cases d with
  | str a =>
    cases r1
    refine ⟨⟨a, rfl⟩, tG_mono (tG_bind (rel := relV X.K) hr1 he1 p1) fun y H2 ⟨ρ2, h2, d2, e2, hr2, he2, r2, p2⟩ => ?_⟩
    obtain ⟨d3, h3, eq, k⟩ := p2.opt
    exact i hr2 (.str a) r2 eq k
  | _ => exact p1.elim
theorem se_splitF {apos : Pos} (ho : PE X o (tM X.K G W mo)) (he : PE X e (tM X.K G W me)) (hs : starEach [e] X.env = [(false, eval e X.env)] := by rfl) (hbase : attributeBase o "split" X.env (eval o X.env) = eval o X.env := by rfl) (hline : (apos.endLine == pos.line) = true := by rfl) :
    PE X (.Call (.Attribute o "split" apos) [e] [] pos) (tM X.K G W (eM1 opSplitF mo me)) := pe_F (pe_split ho he hs hbase hline) fun σ H Q t => m1_impF (fun {ρ H h x y dx dy d h' Q} hr rx ry e k => by
  cases rx <;> cases ry <;> simp only [opSplitF] at e <;> first | (cases e; done) | skip
  split at e
  · rename_i a b hab
    cases e
    exact ⟨a, b, rfl, rfl, hab.1, hab.2, new_fls hr (Rvs.of_strs _) k⟩
  · cases e) σ H Q t
end
def eLstXF (ms : List (List D → M)) (fs : List D) : M := eLstF (ms.map fun m => m fs)
theorem xe_lstF {X : Cx} {C : XCt} {es : List Expr} {pos : Pos} {ms : List (List D → M)} (ha : PA X es (tXL X.K G C (evsX ms))) (hl : ms.length ≤ sizeLine := by decide) : PE X (.List es pos) (tXM X.K G C (eLstXF ms)) := pe_F (pe_lst ha) fun σ H Q ⟨fs, ρ, h, env, hσ, rx, hr, hE, p⟩ => by
  refine ⟨fs, ρ, h, env, hσ, rx, hr, hE, ?_⟩
  unfold eLstXF eLstF at p
  cases q : evs (ms.map fun m => m fs) env h with
  | bad => unfold evsX; rw [q] at p ⊢; exact p
  | exc c' fs' h' => unfold evsX; rw [q] at p ⊢; exact p
  | ok ds h1 =>
    unfold evsX
    rw [q] at p ⊢
    simp only [R.bind_ok] at p
    intro ρ1 H1 vs e1 hr1 rvs
    exact ⟨by rw [rvs.length, evs_len q, List.length_map]; exact hl, new_fls hr1 rvs (p.shift e1)⟩
noncomputable def eFzX (m : List D → M) : List D → M := fun fs => eFz (m fs)
theorem xe_fz {X : Cx} {C : XCt} {e : Expr} {m : List D → M} (he : PE X e (tXM X.K G C m)) : PE X e (tXM X.K G C (eFzX m)) := peImp (pe_frz he) fun σ H Q ⟨fs, ρ, h, env, hσ, rx, hr, hE, p⟩ => ⟨fs, ρ, h, env, hσ, rx, hr, hE, Po.fz hr p⟩
/-! ### a call leaves nothing new behind -/
open Classical in
noncomputable def trR (h : Hh) (r : R D) : R D := match r with
  | .ok d h1 => if lo h.length d = true ∧ Kq h.length h (h1.take h.length) then .ok d (h1.take h.length) else .ok d h1
  | .exc c fs h1 => if los h.length fs = true ∧ Kq h.length h (h1.take h.length) then .exc c fs (h1.take h.length) else .exc c fs h1
  | .bad => .bad
theorem Ex.back (e : Ex K ρ H ρ' H') : Ex K ρ H ρ H' := ⟨fun _ _ h => h, e.tup, e.frz, e.xds⟩
theorem Ex.isTake (e : Ex K ρ H ρ' H') : ρ'.take ρ.length = ρ := by
  apply List.ext_getElem?
  intro i
  rw [List.getElem?_take]
  split
  · rename_i hi
    have := e.pre i ρ[i] (List.getElem?_eq_getElem hi)
    rw [this, List.getElem?_eq_getElem hi]
  · rw [List.getElem?_eq_none (by omega)]
theorem Po.trunc {r : R D} {Q : VK} (hr : Rh K G ρ H h) (p : Po K G (relV K) W ρ H σ (trR h r) Q) : Po K G (relV K) W ρ H σ r Q := by
  cases r with
  | bad => exact p
  | ok d h1 =>
    unfold trR at p
    dsimp only at p
    split at p
    · rename_i hl
      intro ρ' H' v e rh rv
      have et := e.isTake
      rw [hr.len] at et
      have hp : ∀ (m : Nat) (b : Addr), m < h.length → ρ'[m]? = some b → ρ[m]? = some b := fun m b hm z => by rw [← et, List.getElem?_take, if_pos hm]; exact z
      have r2 := rh.take (n := h.length) (hr.kq (Nat.le_refl _) hl.2)
      rw [et] at r2
      exact p ρ H' v e.back r2 (rv.cutR hp hl.1)
    · exact p
  | exc c fs h1 =>
    unfold trR at p
    dsimp only at p
    split at p
    · rename_i hl
      intro ρ' H' v e rh rv
      have et := e.isTake
      rw [hr.len] at et
      have hp : ∀ (m : Nat) (b : Addr), m < h.length → ρ'[m]? = some b → ρ[m]? = some b := fun m b hm z => by rw [← et, List.getElem?_take, if_pos hm]; exact z
      have r2 := rh.take (n := h.length) (hr.kq (Nat.le_refl _) hl.2)
      rw [et] at r2
      refine p ρ H' v e.back r2 ?_
      obtain ⟨x, vfs, h1, h2, h3, h4⟩ := rv
      refine ⟨x, vfs, h1, h2, h3, fun i f hf => ?_⟩
      obtain ⟨v, y, k1, k2, k3⟩ := h4 i f hf
      refine ⟨v, y, k1, k2, k3.cutR hp ?_⟩
      have : ∀ {fs : List D} {i : Nat} {y : D}, los h.length fs = true → fs[i]? = some y → lo h.length y = true := by
        intro fs
        induction fs with
        | nil => intro i y _ z; simp at z
        | cons d ds ih =>
          intro i y l z
          simp only [los, Bool.and_eq_true] at l
          cases i with
          | zero => simp at z; subst z; exact l.1
          | succ i => exact ih l.2 (by simpa using z)
      exact this hl.1 k2
    · exact p
noncomputable def fnT (n : Nat) (body : S) : Fm := fun ds h => trR h (fnM n body ds h)
end
section
variable {P : Program} {w : World} {K : PySem.W.Frag} {mg : Str → Option Value} {base : Heap} {G : Cl}
theorem spT_imp {np n : Nat} {body : S} {vs : List V} {H : Hp} {Q : VK} {E : XK} (t : spM K G np (fnT n body) vs H Q E) : spM K G np (fnM n body) vs H Q E := by
  obtain ⟨ρ, h, ds, rh, rs, l, p⟩ := t
  exact ⟨ρ, h, ds, rh, rs, l, Po.trunc rh p⟩
theorem fn_okT {x qual : Str} {st : Stmt} {f : Addr} {fd : FuncData} {N ps : List Str} {k n np : Nat} {body : S} (hn : N.length = n) (hp : ps.length = np) (F : Fun K x qual st f fd) (S : FnScope N ps (defScope st))
    (hb : ∀ (cdv : Value) (A : Around) (outer : List Env) (s : Shared) (H : Hp) (E : XK), Ct (cxOf (L2.CX P w) P w K mg base N qual (defScope st) f cdv A outer s H E) (fun c d _ H => E c d H) k →
      PSs (cxOf (L2.CX P w) P w K mg base N qual (defScope st) f cdv A outer s H E) (defBody st) (tS K G (fun c d _ H => E c d H) body)) : FnOk P w K mg base (L2.CX P w) (k + 1) f fd ps (spM K G np (fnT n body)) := by
  have q := fn_ok hn hp F S hb
  exact ⟨fun vs H Q E t => q.len vs H Q E (spT_imp t), fun A outer s H args us vs Q E h1 h2 h3 h4 h5 => q.run A outer s H args us vs Q E h1 h2 h3 h4 (spT_imp h5)⟩
end
end Sm
/-! SmR: running the mirrors of SmFz; texts as lists of numbers; loops that look for something. -/
namespace Sm
open PySem L2 PyProof.Rows
section
variable (env : Ev) (h g : Hh) (f : D → D → Hh → Option (D × Hh)) (m mo me a b : M) (d e : D) (ds xs ys : List D) (ms : List M) (mx : List (List D → M)) (i j k n : Nat) (s1 : S) (o o1 o2 : O) (p q : Int) (x y : Str) (l u : Option Int) (lm um : Option M)
-- a call
@[simp] theorem fnT_eq : fnT n s1 ds h = trR h (fnEnd (s1 (ds.map some ++ List.replicate (n - ds.length) none) h)) := by
  unfold fnT
  rw [fnM_eq]
@[simp] theorem Kq_self : Kq n h h := fun i o e => .inl e
@[simp] theorem trR_bad : trR h .bad = .bad := rfl
theorem trR_ok0 : trR h (.ok d h) = .ok d h := by
  unfold trR
  simp
theorem trR_app : trR h (.ok d (h ++ g)) = if lo h.length d = true then .ok d h else .ok d (h ++ g) := by
  unfold trR
  simp
theorem trR_exc0 : trR h (.exc k ds h) = .exc k ds h := by
  unfold trR
  simp
theorem trR_excA : trR h (.exc k ds (h ++ g)) = if los h.length ds = true then .exc k ds h else .exc k ds (h ++ g) := by
  unfold trR
  simp
@[simp] theorem lo_non : lo n .non = true := rfl
@[simp] theorem lo_bl (c : Bool) : lo n (.bl c) = true := rfl
@[simp] theorem lo_int : lo n (.int p) = true := rfl
@[simp] theorem lo_str : lo n (.str x) = true := rfl
@[simp] theorem lo_tup : lo n (.tup ds) = los n ds := by simp [lo]
@[simp] theorem lo_fls : lo n (.fls ds) = los n ds := by simp [lo]
@[simp] theorem lo_ref : lo n (.ref k) = decide (k < n) := by simp [lo]
@[simp] theorem los_nil : los n [] = true := rfl
@[simp] theorem los_cons : los n (d :: ds) = (lo n d && los n ds) := by simp [los]
theorem los_all : los n ds = ds.all (lo n) := by induction ds with
  | nil => rfl
  | cons d ds ih => simp [ih]
@[simp] theorem los_app : los n (xs ++ ys) = (los n xs && los n ys) := by simp [los_all]
@[simp] theorem los_ints (ns : List Int) : los n (ns.map D.int) = true := by simp [los_all]
@[simp] theorem los_strs (ns : List Str) : los n (ns.map D.str) = true := by simp [los_all]
theorem lo_flat {d : D} (hd : lo 0 d = true) : lo n d = true := lo_mono (Nat.zero_le _) hd
theorem los_flat {ds : List D} (hd : los 0 ds = true) : los n ds = true := los_mono (Nat.zero_le _) hd
-- a list frozen
@[simp] theorem eFz_eq : eFz m env h = fz1 h (m env h) := rfl
@[simp] theorem fz1_bad : fz1 h .bad = .bad := rfl
@[simp] theorem fz1_exc : fz1 h (.exc k ds g) = .exc k ds g := rfl
@[simp] theorem fz1_int : fz1 h (.ok (.int p) g) = .ok (.int p) g := rfl
@[simp] theorem fz1_str : fz1 h (.ok (.str x) g) = .ok (.str x) g := rfl
@[simp] theorem fz1_tup : fz1 h (.ok (.tup ds) g) = .ok (.tup ds) g := rfl
@[simp] theorem fz1_fls : fz1 h (.ok (.fls ds) g) = .ok (.fls ds) g := rfl
@[simp] theorem fz1_non : fz1 h (.ok .non g) = .ok .non g := rfl
@[simp] theorem fz1_bl (c : Bool) : fz1 h (.ok (.bl c) g) = .ok (.bl c) g := rfl
@[simp] theorem fz1_new : fz1 h (.ok (.ref h.length) (h ++ [.lst ds])) = if los h.length ds = true then .ok (.fls ds) h else .ok (.fls ds) (h ++ [.dead]) := by
  unfold fz1
  simp
@[simp] theorem fz1_new1 : fz1 (h ++ [o]) (.ok (.ref (h.length + 1)) (h ++ [o, .lst ds])) = if los (h.length + 1) ds = true then .ok (.fls ds) (h ++ [o]) else .ok (.fls ds) (h ++ [o, .dead]) := by
  have e1 : (h ++ [o, .lst ds])[h.length + 1]? = some (.lst ds) := by simp
  have e2 : (h ++ [o, .lst ds]).take (h.length + 1) = h ++ [o] := by
    rw [List.take_append, List.take_of_length_le (by omega)]
    simp
  have e3 : (h ++ [o, .lst ds]).set (h.length + 1) .dead = h ++ [o, .dead] := by
    rw [List.set_append_right _ _ (by omega)]
    simp
  unfold fz1
  simp [e1, e2, e3]
theorem fz1_old {n : Nat} (e : h[n]? = some (.lst ds)) : fz1 h (.ok (.ref n) h) = .ok (.fls ds) (h.set n .dead) := by
  have hn := (List.getElem?_eq_some_iff.mp e).1
  unfold fz1
  dsimp only
  rw [e]
  dsimp only
  rw [if_neg (by omega)]
theorem fz1_oldA (k : Hh) {n : Nat} (e : (h ++ g)[n]? = some (.lst ds)) : fz1 (h ++ g) (.ok (.ref n) (h ++ g)) = .ok (.fls ds) ((h ++ g).set n .dead) := fz1_old _ _ e
def eLstF1 (r : R (List D)) : R D := r.bind fun ds h1 => .ok (.fls ds) h1
@[simp] theorem eLstF_eq : eLstF ms env h = eLstF1 (evs ms env h) := rfl
@[simp] theorem eLstF1_ok : eLstF1 (.ok ds h) = .ok (.fls ds) h := rfl
@[simp] theorem rexc_eLstF1 : eLstF1 (.exc k ds h) = .exc k ds h := rfl
@[simp] theorem eLstXF_eq (fs : List D) : eLstXF mx fs = eLstF (mx.map fun m => m fs) := rfl
@[simp] theorem eFd_eq (fs : List D) : eFd k fs env h = match fs[k]? with
  | some d => .ok d h
  | none => .bad := rfl
def eSlF1 (lo hi : Option M) (env : Ev) (r : R D) : R D := r.bind fun d h1 => (evO lo env h1).bind fun l h2 => (evO hi env h2).bind fun u h3 => R.opt (opSlF d l u h3)
def eSlF2 (hi : Option M) (env : Ev) (d : D) (r : R (Option Int)) : R D := r.bind fun l h2 => (evO hi env h2).bind fun u h3 => R.opt (opSlF d l u h3)
def eSlF3 (d : D) (l : Option Int) (r : R (Option Int)) : R D := r.bind fun u h3 => R.opt (opSlF d l u h3)
@[simp] theorem eSlF_eq : eSlF m lm um env h = eSlF1 lm um env (m env h) := rfl
@[simp] theorem eSlF1_ok : eSlF1 lm um env (.ok d h) = eSlF2 um env d (evO lm env h) := rfl
@[simp] theorem eSlF2_ok : eSlF2 um env d (.ok l h) = eSlF3 d l (evO um env h) := rfl
@[simp] theorem eSlF3_ok : eSlF3 d l (.ok u h) = R.opt (opSlF d l u h) := rfl
@[simp] theorem opSlF_t : opSlF (.tup xs) l u h = some (.tup (cutD xs l u), h) := rfl
@[simp] theorem opSlF_f : opSlF (.fls xs) l u h = some (.fls (cutD xs l u), h) := rfl
@[simp] theorem opSlF_s : opSlF (.str x) l u h = if x.length ≤ sizeLine then some (.str (cutS x l u), h) else none := rfl
@[simp] theorem opSlF_r : opSlF (.ref n) l u h = match h[n]? with
    | some (.lst ds) => some (.fls (cutD ds l u), h)
    | _ => none := rfl
@[simp] theorem opAddF_ff : opAddF (.fls xs) (.fls ys) h = if xs.length + ys.length ≤ sizeLine then some (.fls (xs ++ ys), h) else none := rfl
@[simp] theorem opAddF_fr : opAddF (.fls xs) (.ref n) h = match h[n]? with
    | some (.lst ys) => if xs.length + ys.length ≤ sizeLine then some (.fls (xs ++ ys), h) else none
    | _ => none := rfl
@[simp] theorem opAddF_rf : opAddF (.ref n) (.fls ys) h = match h[n]? with
    | some (.lst xs) => if xs.length + ys.length ≤ sizeLine then some (.fls (xs ++ ys), h) else none
    | _ => none := rfl
@[simp] theorem opAddF_rr : opAddF (.ref n) (.ref k) h = match h[n]?, h[k]? with
    | some (.lst xs), some (.lst ys) => if xs.length + ys.length ≤ sizeLine then some (.fls (xs ++ ys), h) else none
    | _, _ => none := rfl
@[simp] theorem opAddF_ii : opAddF (.int p) (.int q) h = some (.int (p + q), h) := rfl
@[simp] theorem opAddF_ib (c : Bool) : opAddF (.int p) (.bl c) h = some (.int (p + b2i c), h) := rfl
@[simp] theorem opAddF_ss : opAddF (.str x) (.str y) h = if x.length + y.length ≤ sizeLine then some (.str (x ++ y), h) else none := rfl
@[simp] theorem opAddF_tt : opAddF (.tup xs) (.tup ys) h = if xs.length + ys.length ≤ sizeLine then some (.tup (xs ++ ys), h) else none := rfl
@[simp] theorem opRevF_f : opRevF (.fls xs) h = some (.fls xs.reverse, h) := rfl
@[simp] theorem opRevF_r : opRevF (.ref n) h = match h[n]? with
    | some (.lst ds) => some (.fls ds.reverse, h)
    | _ => none := rfl
@[simp] theorem opListF_t : opListF [.tup xs] h = some (.fls xs, h) := rfl
@[simp] theorem opListF_f : opListF [.fls xs] h = some (.fls xs, h) := rfl
@[simp] theorem opListF_r : opListF [.ref n] h = match h[n]? with
    | some (.lst ds) => some (.fls ds, h)
    | some (.dK kvs) => some (.fls (kvs.map fun kv => kD kv.1), h)
    | some (.dT kvs) => some (.fls (kvs.map fun kv => .tup (kv.1.map kD)), h)
    | _ => none := rfl
@[simp] theorem opSplitF_ss : opSplitF (.str x) (.str y) h = if (y.length == 0) = false ∧ x.length + 2 ≤ sizeLine then some (.fls ((Txt.split x y).map D.str), h) else none := rfl
@[simp] theorem opAll_f : opAll [.fls xs] h = (bools xs).map fun bs => (.bl (bs.all id), h) := rfl
@[simp] theorem opAny_f : opAny [.fls xs] h = (bools xs).map fun bs => (.bl (bs.any id), h) := rfl
@[simp] theorem opSum_f : opSum [.fls xs] h = (intsOf xs).map fun ns => (.int ns.sum, h) := rfl
end
@[simp] theorem isT_eq (u t : Ty) : isT u t = (decide (u = t) || (decide (u = .bool) && decide (t = .int))) := by cases u <;> cases t <;> rfl
/-! ### texts -/
def tx (l : List Nat) : Str := ⟨l.toArray⟩
section
variable (l l' : List Nat) (c : Nat) (h : Hh) (z : Str)
@[simp] theorem tx_list : (tx l).cps.toList = l := by simp [tx]
@[simp] theorem tx_len : (tx l).length = l.length := by simp [tx, Str.length]
@[simp] theorem tx_app : tx l ++ tx l' = tx (l ++ l') := by
  show Str.append _ _ = _
  simp [Str.append, tx]
@[simp] theorem tx_inj : (tx l = tx l') ↔ l = l' := ⟨fun e => by simpa using congrArg (fun z : Str => z.cps.toList) e, fun e => by rw [e]⟩
theorem tx_of : z = tx z.cps.toList := by
  cases z with
  | mk cps => simp [tx]
@[simp] theorem one_tx : (⟨#[c]⟩ : Str) = tx [c] := rfl
@[simp] theorem signs_tx : signs (tx l) = l.map fun c => D.str (tx [c]) := by
  unfold signs
  rw [tx_list]
  rfl
/-- the sign is in the text -/
def inS (c : Nat) (z : Str) : Bool := decide (c ∈ z.cps.toList)
@[simp] theorem opIn_tx : opIn (.str (tx [c])) (.str z) h = some (.bl (inS c z), h) := by simp [opIn, opInB, inS]
@[simp] theorem opNin_tx : opNin (.str (tx [c])) (.str z) h = some (.bl (!inS c z), h) := by simp [opNin, opInB, inS]
theorem join_flat : ∀ ls : List (List Nat), Txt.join (tx []) (ls.map tx) = tx ls.flatten := fun ls => by
  show Builtin.Str.glued _ _ = _
  rw [StrLaws.glued_eq_join]
  induction ls with
  | nil => rfl
  | cons l ls ih =>
    cases ls with
    | nil => simp [Str.join]
    | cons l2 ls =>
      rw [List.map_cons, List.map_cons, Str.join, ← List.map_cons, ih]
      · simp
      · simp
/-- cut at a sign -/
def spl (c : Nat) : List Nat → List (List Nat)
  | [] => [[]]
  | x :: t => if x = c then [] :: spl c t else match spl c t with
    | [] => [[x]]
    | p :: ps => (x :: p) :: ps
theorem spl_ne : ∀ t, spl c t ≠ []
  | [] => by simp [spl]
  | x :: t => by
    unfold spl
    split
    · simp
    · split <;> simp
theorem spl_free {p : List Nat} (hp : c ∉ p) : ∀ t, spl c (p ++ t) = match spl c t with
    | [] => [p]
    | q :: qs => (p ++ q) :: qs := by
  induction p with
  | nil =>
    intro t
    cases e : spl c t with
    | nil => exact absurd e (spl_ne c t)
    | cons q qs => simp [e]
  | cons x p ih =>
    intro t
    have h1 : x ≠ c := fun e => hp (by simp [e])
    have h2 : c ∉ p := fun e => hp (by simp [e])
    rw [List.cons_append]
    simp only [spl, if_neg h1, ih h2 t]
    cases e : spl c t with
    | nil => exact absurd e (spl_ne c t)
    | cons q qs => simp
/-- parts put together again -/
def cat (c : Nat) : List (List Nat) → List Nat
  | [] => []
  | [p] => p
  | p :: ps => p ++ c :: cat c ps
theorem spl_cat : ∀ ps : List (List Nat), ps ≠ [] → (∀ p ∈ ps, c ∉ p) → spl c (cat c ps) = ps
  | [], h, _ => absurd rfl h
  | [p], _, h => by
    have := spl_free c (h p (by simp)) []
    simpa [cat, spl] using this
  | p :: q :: ps, _, h => by
    have h1 := spl_free c (h p (by simp)) (c :: cat c (q :: ps))
    have h2 := spl_cat (q :: ps) (by simp) (fun x hx => h x (by simp [hx]))
    rw [cat, h1, spl, if_pos rfl, h2]
    · simp
    · simp
theorem cat_spl : ∀ t, cat c (spl c t) = t
  | [] => rfl
  | x :: t => by
    have ih := cat_spl t
    unfold spl
    split
    · rename_i e
      cases q : spl c t with
      | nil => exact absurd q (spl_ne c t)
      | cons p ps =>
        rw [q] at ih
        rw [cat, ih, e]
        · simp
        · simp
    · cases q : spl c t with
      | nil => exact absurd q (spl_ne c t)
      | cons p ps =>
        rw [q] at ih
        cases ps with
        | nil =>
          simp only [cat] at ih ⊢
          rw [ih]
        | cons p2 ps =>
          simp only [cat] at ih ⊢
          rw [List.cons_append, ih]
theorem spl_mem : ∀ t p, p ∈ spl c t → c ∉ p
  | [], p, h => by simp [spl] at h; simp [h]
  | x :: t, p, h => by
    have ih := spl_mem t
    unfold spl at h
    split at h
    · rcases List.mem_cons.mp h with rfl | h
      · simp
      · exact ih p h
    · rename_i ne
      cases q : spl c t with
      | nil => exact absurd q (spl_ne c t)
      | cons p0 ps =>
        rw [q] at h ih
        rcases List.mem_cons.mp h with rfl | h
        · have := ih p0 (by simp)
          simp only [List.mem_cons, not_or]
          exact ⟨fun e => ne e.symm, this⟩
        · exact ih p (by simp [h])
theorem join_cat : ∀ ps : List (List Nat), (Str.join (tx [c]) (ps.map tx)).cps.toList = cat c ps
  | [] => rfl
  | [p] => by simp [Str.join, cat]
  | p :: q :: ps => by
    have ih := join_cat (q :: ps)
    rw [List.map_cons] at ih
    rw [List.map_cons, List.map_cons, Str.join, cat, ← ih]
    · have e : ∀ a b : Str, (a ++ b).cps.toList = a.cps.toList ++ b.cps.toList := fun a b => by
        rw [tx_of a, tx_of b, tx_app, tx_list, tx_list, tx_list]
      rw [e, e]
      simp
    · simp
    · simp
theorem split_tx : Txt.split (tx l) (tx [c]) = (spl c l).map tx := by
  have h1 := StrLaws.join_split (tx l) (tx [c])
  have h2 : ∀ p ∈ Txt.split (tx l) (tx [c]), c ∉ p.cps.toList := StrLaws.split_free (tx l) c
  have hne : Txt.split (tx l) (tx [c]) ≠ [] := by
    unfold Txt.split
    split
    · simp
    · split
      · simp
      · rw [StrLaws.partsBetween_eq]
        obtain ⟨p, r, e⟩ := StrLaws.partsFrom_ne (tx l) (tx [c]).length 0 (Builtin.Str.occurrences (tx l) (tx [c]) 0 (tx l).length ((tx l).length + 1))
        rw [e]
        simp
  generalize Txt.split (tx l) (tx [c]) = ps at h1 h2 hne
  have h3 : ps = (ps.map fun p => p.cps.toList).map tx := by
    rw [List.map_map]
    conv => lhs; rw [← List.map_id ps]
    exact List.map_congr_left fun p _ => tx_of p
  by_cases h0 : ps = []
  · exact absurd h0 hne
  · have h4 := join_cat c (ps.map fun p => p.cps.toList)
    rw [← h3, h1, tx_list] at h4
    rw [h3, h4, spl_cat]
    · simpa using h0
    · intro p hp
      rw [List.mem_map] at hp
      obtain ⟨q, hq, rfl⟩ := hp
      exact h2 q hq
end
end Sm
/-! SmDraw: _law_draw, that many laws share -/
namespace SmDraw
open PySem L2 PyProof.Rows Sm SmPool
noncomputable def b__law_draw : S := (sSeq (sIf (tAndM (tBl (eB opEq (eB opIx (eV 0) (eC (.int 2))) (eC (.int 0)))) (tBl (eB opLt (eB opIx (eV 0) (eC (.int 1))) (eN opLen [(eB opIx (eV 0) (eC (.int 0)))])))) (sSeq (sSet 2 (eN opAbs [(eB opIx (eB opIx (eV 0) (eC (.int 0))) (eB opIx (eV 0) (eC (.int 1))))]))
    (sSeq (sSetIx (eV 0) (eC (.int 1)) (eB opAdd (eB opIx (eV 0) (eC (.int 1))) (eC (.int 1))))
    (sIf (tBl (eB opGe (eV 2) (eB opPow (eC (.int 10)) (eC (.int 18))))) (sSetIx (eV 0) (eC (.int 2)) (eV 2)) (sSetIx (eV 0) (eC (.int 3)) (eB opMod (eN opInt [(eB opAdd (eB opAdd (eB opMulA (eB opIx (eV 0) (eC (.int 3))) (eC (.int 48271))) (eB opMulA (eV 2) (eC (.int 69621)))) (eC (.int 12345)))]) (eC (.int 2147483647))))))) sSkip)
    (sSeq (sIf (tBl (eB opGt (eB opIx (eV 0) (eC (.int 2))) (eC (.int 0)))) (sSeq (sSet 3 (eB opMod (eN opInt [(eB opIx (eV 0) (eC (.int 2)))]) (eV 1)))
    (sSeq (sSetIx (eV 0) (eC (.int 2)) (eB opFdiv (eB opIx (eV 0) (eC (.int 2))) (eV 1)))
    (sRet (eV 3)))) sSkip)
    (sSeq (sSetIx (eV 0) (eC (.int 3)) (eB opMod (eN opInt [(eB opAdd (eB opMulA (eB opIx (eV 0) (eC (.int 3))) (eC (.int 48271))) (eC (.int 11)))]) (eC (.int 2147483647))))
    (sRet (eB opMod (eB opMod (eN opInt [(eB opAdd (eB opFdiv (eB opMulA (eB opIx (eV 0) (eC (.int 3))) (eB opIx (eV 0) (eC (.int 3)))) (eC (.int 65536))) (eB opIx (eV 0) (eC (.int 3))))]) (eC (.int 2147483629))) (eV 1))))))
noncomputable def m__law_draw : Fm := fnM 4 b__law_draw

/-- a source stands at p -/
def Sr (h : Hh) (p : Nat) : Prop := ∃ (ns : List Int) (i : Nat) (w s : Int), ns.length ≤ 63 ∧ i ≤ ns.length ∧ 0 ≤ w ∧ 0 ≤ s ∧ s < 2147483647 ∧ h[p]? = some (.lst [.fls (ns.map D.int), .int i, .int w, .int s])
theorem draw_x {h : Hh} {p : Nat} {m : Int} (a : Sr h p) (hm : 0 < m) (hm2 : m < 1073741824) : ∃ r h', 0 ≤ r ∧ r < m ∧ Sr h' p ∧ Xt p h h' ∧ h'.length = h.length ∧ m__law_draw [.ref p, .int m] h = .ok (.int r) h' := by
  obtain ⟨ns, i, w, sd, hl, hi, hw, hs0, hs1, e⟩ := a
  have h18 : (10 : Int) ^ 18 = 1000000000000000000 := by decide
  have hp : p < h.length := (List.getElem?_eq_some_iff.mp e).1
  have fs : ∀ o : O, (h.set p o)[p]? = some o := fun o => List.getElem?_set_self hp
  have t0 : ∀ a b c d : D, atI [a, b, c, d] 0 = some a := fun _ _ _ _ => rfl
  have t1 : ∀ a b c d : D, atI [a, b, c, d] 1 = some b := fun _ _ _ _ => rfl
  have t2 : ∀ a b c d : D, atI [a, b, c, d] 2 = some c := fun _ _ _ _ => rfl
  have t3 : ∀ a b c d : D, atI [a, b, c, d] 3 = some d := fun _ _ _ _ => rfl
  have n1 : ixN 4 1 = some 1 := rfl
  have n2 : ixN 4 2 = some 2 := rfl
  have n3 : ixN 4 3 = some 3 := rfl
  have m1 : mulOk sd 48271 = true := mulOk_r (by decide) (by decide)
  by_cases c1 : w = 0 ∧ i < ns.length
  · obtain ⟨rfl, c2⟩ := c1
    obtain ⟨x, hx⟩ : ∃ x, atI (ns.map D.int) (i : Int) = some (.int x) := ⟨ns[i], atI_nat (by simp [c2])⟩
    have c2' : (i : Int) < (ns.length : Int) := by omega
    generalize hX : (if x < 0 then -x else x) = X
    have hX0 : 0 ≤ X := by rw [← hX]; split <;> omega
    by_cases c3 : X ≥ 1000000000000000000
    · refine ⟨X % m, h.set p (.lst [.fls (ns.map D.int), .int ((i + 1 : Nat) : Int), .int (X / m), .int sd]), Int.emod_nonneg _ (by omega), Int.emod_lt_of_pos _ hm, ⟨ns, i + 1, X / m, sd, hl, by omega, Int.ediv_nonneg hX0 (by omega), hs0, hs1, fs _⟩, Xt.set, by simp, ?_⟩
      have c4 : 0 < X := by omega
      have c3' : (1000000000000000000 : Int) ≤ X := c3
      simp [m__law_draw, b__law_draw, e, t0, t1, t2, t3, n1, n2, n3, hx, c2, hX, h18, c3', c4, hm, hm2, fs]
    · have c3' : ¬ (1000000000000000000 : Int) ≤ X := c3
      have mx : mulOk X 69621 = true := mulOk_r (by decide) (by decide)
      generalize hS : (sd * 48271 + X * 69621 + 12345) % 2147483647 = S
      have mS : mulOk S 48271 = true := mulOk_r (by decide) (by decide)
      generalize hR : (S * 48271 + 11) % 2147483647 = R
      have hR0 : 0 ≤ R := by rw [← hR]; exact Int.emod_nonneg _ (by decide)
      have hR1 : R < 2147483647 := by rw [← hR]; exact Int.emod_lt_of_pos _ (by decide)
      have mR : mulOk R R = true := mulOk_r (by omega) (by omega)
      refine ⟨(R * R / 65536 + R) % 2147483629 % m, h.set p (.lst [.fls (ns.map D.int), .int ((i + 1 : Nat) : Int), .int 0, .int R]), Int.emod_nonneg _ (by omega), Int.emod_lt_of_pos _ hm, ⟨ns, i + 1, 0, R, hl, by omega, Int.le_refl _, hR0, hR1, fs _⟩, Xt.set, by simp, ?_⟩
      simp [m__law_draw, b__law_draw, e, t0, t1, t2, t3, n1, n2, n3, hx, c2, hX, h18, c3', hm, hm2, fs, m1, mx, hS, mS, hR, mR]
  · by_cases c5 : 0 < w
    · have c5' : ¬ w = 0 := by omega
      refine ⟨w % m, h.set p (.lst [.fls (ns.map D.int), .int (i : Int), .int (w / m), .int sd]), Int.emod_nonneg _ (by omega), Int.emod_lt_of_pos _ hm, ⟨ns, i, w / m, sd, hl, hi, Int.ediv_nonneg hw (by omega), hs0, hs1, fs _⟩, Xt.set, by simp, ?_⟩
      simp [m__law_draw, b__law_draw, e, t0, t1, t2, t3, n1, n2, n3, c5, c5', hm, hm2, fs]
    · have hw0 : w = 0 := by omega
      subst hw0
      have c6 : ¬ i < ns.length := fun z => c1 ⟨rfl, z⟩
      generalize hR : (sd * 48271 + 11) % 2147483647 = R
      have hR0 : 0 ≤ R := by rw [← hR]; exact Int.emod_nonneg _ (by decide)
      have hR1 : R < 2147483647 := by rw [← hR]; exact Int.emod_lt_of_pos _ (by decide)
      have mR : mulOk R R = true := mulOk_r (by omega) (by omega)
      refine ⟨(R * R / 65536 + R) % 2147483629 % m, h.set p (.lst [.fls (ns.map D.int), .int (i : Int), .int 0, .int R]), Int.emod_nonneg _ (by omega), Int.emod_lt_of_pos _ hm, ⟨ns, i, 0, R, hl, hi, Int.le_refl _, hR0, hR1, fs _⟩, Xt.set, by simp, ?_⟩
      simp [m__law_draw, b__law_draw, e, t0, t1, t2, t3, n1, n2, n3, c6, hm, hm2, fs, m1, hR, mR]
end SmDraw
/-! SmR2: loops that look for something, comprehensions, places, slices, equality, the drawing function at the heap's head. -/
namespace Sm
open PySem L2 PyProof.Rows
/-! ### loops -/
def isStop : SR → Bool
  | .rt _ _ => true
  | .exc _ _ _ _ => true
  | _ => false
section
variable {i : Nat} {body : S} {env : Ev} {h : Hh}
theorem forL_find (p : D → Bool) (r : D → SR) : ∀ (xs : List D) (env : Ev), (∀ x ∈ xs, body (env.set i (some x)) h = if p x = true then .nx (env.set i (some x)) h else r x) → (∀ x ∈ xs, p x = false → isStop (r x) = true) →
    (∀ x, xs.find? (fun x => !p x) = some x → forL (gtName i) body none xs env h = r x) ∧ (xs.find? (fun x => !p x) = none → ∃ e, forL (gtName i) body none xs env h = .nx (env.set i e) h)
  | [], env, _, _ => by
    refine ⟨fun x e => by simp at e, fun _ => ?_⟩
    rw [forL_nil (gd := none) trivial]
    by_cases hl : i < env.length
    · exact ⟨env[i], by rw [List.set_getElem_self]⟩
    · exact ⟨none, by rw [List.set_eq_of_length_le (by omega)]⟩
  | x :: xs, env, hb, hs => by
    have h1 := hb x (by simp)
    by_cases hp : p x = true
    · rw [if_pos hp] at h1
      have ih := forL_find p r xs (env.set i (some x)) (fun y hy => by rw [List.set_set]; exact hb y (by simp [hy])) (fun y hy => hs y (by simp [hy]))
      have e : forL (gtName i) body none (x :: xs) env h = forL (gtName i) body none xs (env.set i (some x)) h := forL_nx (gd := none) trivial rfl h1
      rw [e]
      simp only [List.find?_cons, hp, Bool.not_true]
      refine ⟨ih.1, fun z => ?_⟩
      obtain ⟨e, q⟩ := ih.2 z
      exact ⟨e, by rw [q, List.set_set]⟩
    · have hp' : p x = false := by simpa using hp
      rw [if_neg hp] at h1
      have e : forL (gtName i) body none (x :: xs) env h = r x := by
        have hstop := hs x (by simp) hp'
        unfold forL
        rw [if_pos (show gdOk none h from trivial)]
        show (match body (env.set i (some x)) h with
          | .nx e' h' => forL (gtName i) body none xs e' h'
          | .ct e' h' => forL (gtName i) body none xs e' h'
          | .bk e' h' => .nx e' h'
          | r => r) = r x
        rw [h1]
        cases q : r x with
        | rt d h' => rfl
        | exc c fs e' h' => rfl
        | nx e' h' => rw [q] at hstop; cases hstop
        | bk e' h' => rw [q] at hstop; cases hstop
        | ct e' h' => rw [q] at hstop; cases hstop
        | bad => rfl
      simp only [List.find?_cons, hp', Bool.not_false]
      exact ⟨fun y z => by cases z; exact e, fun z => by cases z⟩
theorem forL_all (p : D → Bool) (r : D) (xs : List D) (hb : ∀ x ∈ xs, body (env.set i (some x)) h = if p x = true then .nx (env.set i (some x)) h else .rt r h) :
    (xs.all p = true → ∃ e, forL (gtName i) body none xs env h = .nx (env.set i e) h) ∧ (xs.all p = false → forL (gtName i) body none xs env h = .rt r h) := by
  have q := forL_find (i := i) (body := body) (h := h) p (fun _ => .rt r h) xs env hb (fun _ _ _ => rfl)
  refine ⟨fun z => q.2 ?_, fun z => ?_⟩
  · rw [List.find?_eq_none]
    intro x hx
    have := List.all_eq_true.mp z x hx
    simp [this]
  · cases e : xs.find? (fun x => !p x) with
    | none =>
      rw [List.find?_eq_none] at e
      have : xs.all p = true := List.all_eq_true.mpr fun x hx => by simpa using e x hx
      rw [this] at z
      cases z
    | some x => exact q.1 x e
end
/-! ### while -/
section
variable {t : MT} {body : S} {n : Nat} {env e' : Ev} {h h1 h' : Hh} {c : Nat} {fs : List D} {d : D}
theorem whileF_f (h1 : t env h = .ok false h') : whileF t body (n + 1) env h = .nx env h' := by
  unfold whileF
  rw [h1]
  rfl
theorem whileF_t (e1 : t env h = .ok true h1) (e2 : body env h1 = .nx e' h') : whileF t body (n + 1) env h = whileF t body n e' h' := by
  rw [whileF, e1]
  show (match body env h1 with
    | .nx e' h' => whileF t body n e' h'
    | .ct e' h' => whileF t body n e' h'
    | .bk e' h' => .nx e' h'
    | r => r) = _
  rw [e2]
theorem whileF_x (e1 : t env h = .ok true h1) (e2 : body env h1 = .exc c fs e' h') : whileF t body (n + 1) env h = .exc c fs e' h' := by
  rw [whileF, e1]
  show (match body env h1 with
    | .nx e' h' => whileF t body n e' h'
    | .ct e' h' => whileF t body n e' h'
    | .bk e' h' => .nx e' h'
    | r => r) = _
  rw [e2]
theorem whileF_r (e1 : t env h = .ok true h1) (e2 : body env h1 = .rt d h') : whileF t body (n + 1) env h = .rt d h' := by
  rw [whileF, e1]
  show (match body env h1 with
    | .nx e' h' => whileF t body n e' h'
    | .ct e' h' => whileF t body n e' h'
    | .bk e' h' => .nx e' h'
    | r => r) = _
  rw [e2]
@[simp] theorem sWhile_eq (k : Nat) : sWhile k t body env h = whileF t body k env h := rfl
end
/-! ### comprehensions -/
theorem lcL_pf {g : TgM} {t : MT} {m : M} {vs : List Nat} {gd : Option (Nat × O)} {env : Ev} (h : Hh) (p : D → Bool) (f : D → D) (hg : ∀ acc, gdOk gd (h ++ [.lst acc])) : ∀ (xs acc : List D),
    (∀ x ∈ xs, ∀ acc, ∃ env1, g x (h ++ [.lst acc]) (wipeE env vs) = some env1 ∧ t env1 (h ++ [.lst acc]) = .ok (p x) (h ++ [.lst acc]) ∧ (p x = true → m env1 (h ++ [.lst acc]) = .ok (f x) (h ++ [.lst acc]))) →
    acc.length + xs.length ≤ sizeLine → lcL g t m vs h.length gd env xs (h ++ [.lst acc]) = .ok (.ref h.length) (h ++ [.lst (acc ++ (xs.filter p).map f)])
  | [], acc, _, _ => by
    unfold lcL
    rw [if_pos (hg acc)]
    simp
  | x :: xs, acc, hx, hl => by
    obtain ⟨env1, e1, e2, e3⟩ := hx x (by simp) acc
    rw [List.length_cons] at hl
    unfold lcL
    rw [if_pos (hg acc), e1]
    dsimp only
    rw [e2]
    cases hp : p x with
    | true =>
      dsimp only
      rw [e3 hp]
      simp only [hp_at1]
      rw [if_pos (by omega)]
      have := lcL_pf h p f hg xs (acc ++ [f x]) (fun y hy => hx y (by simp [hy])) (by simp; omega)
      simpa [hp] using this
    | false =>
      dsimp only
      have := lcL_pf h p f hg xs acc (fun y hy => hx y (by simp [hy])) (by omega)
      simpa [hp] using this
/-- a frozen comprehension that changes nothing -/
theorem fz_lc {i : Nat} {m : M} {env : Ev} {h : Hh} (f : D → D) (xs : List D) (hm : ∀ x ∈ xs, ∀ acc, m ((env.set i none).set i (some x)) (h ++ [.lst acc]) = .ok (f x) (h ++ [.lst acc])) (hl : xs.length ≤ sizeLine) (hlo : los h.length (xs.map f) = true) :
    fz1 h (lcL (gtName i) tYesM m [i] h.length none env xs (h ++ [.lst []])) = .ok (.fls (xs.map f)) h := by
  have := lcL_pure (g := gtName i) (t := tYesM) (m := m) (vs := [i]) (gd := none) (env := env) h f (fun _ => trivial) xs [] (fun x hx acc => ⟨_, rfl, rfl, by simpa using hm x hx acc⟩) (by simpa using hl)
  rw [this]
  simp [hlo]
theorem fz_lcf {i : Nat} {t : MT} {m : M} {env : Ev} {h : Hh} (p : D → Bool) (f : D → D) (xs : List D) (ht : ∀ x ∈ xs, ∀ acc, t ((env.set i none).set i (some x)) (h ++ [.lst acc]) = .ok (p x) (h ++ [.lst acc])) (hm : ∀ x ∈ xs, p x = true → ∀ acc, m ((env.set i none).set i (some x)) (h ++ [.lst acc]) = .ok (f x) (h ++ [.lst acc])) (hl : xs.length ≤ sizeLine) (hlo : los h.length ((xs.filter p).map f) = true) :
    fz1 h (lcL (gtName i) t m [i] h.length none env xs (h ++ [.lst []])) = .ok (.fls ((xs.filter p).map f)) h := by
  have := lcL_pf (g := gtName i) (t := t) (m := m) (vs := [i]) (gd := none) (env := env) h p f (fun _ => trivial) xs [] (fun x hx acc => ⟨_, rfl, by simpa using ht x hx acc, fun hp => by simpa using hm x hx hp acc⟩) (by simpa using hl)
  rw [this]
  simp [hlo]
/-! .. over things of a kind of its own -/
theorem fz_lcM {α : Type} {i : Nat} {m : M} {env : Ev} {h : Hh} (e f : α → D) (xs : List α) (hm : ∀ x ∈ xs, ∀ acc, m ((env.set i none).set i (some (e x))) (h ++ [.lst acc]) = .ok (f x) (h ++ [.lst acc])) (hl : xs.length ≤ sizeLine) (hlo : los h.length (xs.map f) = true) :
    fz1 h (lcL (gtName i) tYesM m [i] h.length none env (xs.map e) (h ++ [.lst []])) = .ok (.fls (xs.map f)) h := by
  have key : ∀ (xs : List α) (acc : List D), (∀ x ∈ xs, ∀ acc, m ((env.set i none).set i (some (e x))) (h ++ [.lst acc]) = .ok (f x) (h ++ [.lst acc])) → acc.length + xs.length ≤ sizeLine →
      lcL (gtName i) tYesM m [i] h.length none env (xs.map e) (h ++ [.lst acc]) = .ok (.ref h.length) (h ++ [.lst (acc ++ xs.map f)]) := by
    intro xs
    induction xs with
    | nil =>
      intro acc _ _
      unfold lcL
      simp [gdOk]
    | cons x xs ih =>
      intro acc hm hl
      rw [List.length_cons] at hl
      rw [List.map_cons]
      unfold lcL
      rw [if_pos (show gdOk none (h ++ [.lst acc]) from trivial)]
      simp only [gtName_eq, wipeE, tYesM_eq]
      rw [hm x (by simp) acc]
      simp only [hp_at1, hp_set1]
      rw [if_pos (by omega), ih _ (fun y hy => hm y (by simp [hy])) (by simp; omega)]
      simp
  rw [key xs [] hm (by simpa using hl)]
  simp [hlo]
theorem fz_lcfM {α : Type} {i : Nat} {t : MT} {m : M} {env : Ev} {h : Hh} (p : α → Bool) (e f : α → D) (xs : List α) (ht : ∀ x ∈ xs, ∀ acc, t ((env.set i none).set i (some (e x))) (h ++ [.lst acc]) = .ok (p x) (h ++ [.lst acc])) (hm : ∀ x ∈ xs, p x = true → ∀ acc, m ((env.set i none).set i (some (e x))) (h ++ [.lst acc]) = .ok (f x) (h ++ [.lst acc])) (hl : xs.length ≤ sizeLine) (hlo : los h.length ((xs.filter p).map f) = true) :
    fz1 h (lcL (gtName i) t m [i] h.length none env (xs.map e) (h ++ [.lst []])) = .ok (.fls ((xs.filter p).map f)) h := by
  have key : ∀ (xs : List α) (acc : List D), (∀ x ∈ xs, ∀ acc, t ((env.set i none).set i (some (e x))) (h ++ [.lst acc]) = .ok (p x) (h ++ [.lst acc])) → (∀ x ∈ xs, p x = true → ∀ acc, m ((env.set i none).set i (some (e x))) (h ++ [.lst acc]) = .ok (f x) (h ++ [.lst acc])) → acc.length + xs.length ≤ sizeLine →
      lcL (gtName i) t m [i] h.length none env (xs.map e) (h ++ [.lst acc]) = .ok (.ref h.length) (h ++ [.lst (acc ++ (xs.filter p).map f)]) := by
    intro xs
    induction xs with
    | nil =>
      intro acc _ _ _
      unfold lcL
      simp [gdOk]
    | cons x xs ih =>
      intro acc ht hm hl
      rw [List.length_cons] at hl
      rw [List.map_cons]
      unfold lcL
      rw [if_pos (show gdOk none (h ++ [.lst acc]) from trivial)]
      simp only [gtName_eq, wipeE]
      rw [ht x (by simp) acc]
      cases hp : p x with
      | true =>
        dsimp only
        rw [hm x (by simp) hp acc]
        simp only [hp_at1, hp_set1]
        rw [if_pos (by omega), ih _ (fun y hy => ht y (by simp [hy])) (fun y hy => hm y (by simp [hy])) (by simp; omega)]
        simp [hp]
      | false =>
        dsimp only
        rw [ih _ (fun y hy => ht y (by simp [hy])) (fun y hy => hm y (by simp [hy])) (by omega)]
        simp [hp]
  rw [key xs [] ht hm (by simpa using hl)]
  simp [hlo]
theorem bools_map {α : Type} (p : α → Bool) : ∀ l : List α, bools (l.map fun a => D.bl (p a)) = some (l.map p)
  | [] => rfl
  | a :: l => by simp [bools, bools_map p l]
theorem forL_findM {α : Type} {i : Nat} {body : S} {h : Hh} (e : α → D) (p : α → Bool) (r : α → SR) : ∀ (xs : List α) (env : Ev), (∀ x ∈ xs, body (env.set i (some (e x))) h = if p x = true then .nx (env.set i (some (e x))) h else r x) → (∀ x ∈ xs, p x = false → isStop (r x) = true) →
    (∀ x, xs.find? (fun x => !p x) = some x → forL (gtName i) body none (xs.map e) env h = r x) ∧ (xs.find? (fun x => !p x) = none → ∃ e0, forL (gtName i) body none (xs.map e) env h = .nx (env.set i e0) h)
  | [], env, _, _ => by
    refine ⟨fun x e => by simp at e, fun _ => ?_⟩
    rw [List.map_nil, forL_nil (gd := none) trivial]
    by_cases hl : i < env.length
    · exact ⟨env[i], by rw [List.set_getElem_self]⟩
    · exact ⟨none, by rw [List.set_eq_of_length_le (by omega)]⟩
  | x :: xs, env, hb, hs => by
    have h1 := hb x (by simp)
    rw [List.map_cons]
    by_cases hp : p x = true
    · rw [if_pos hp] at h1
      have ih := forL_findM e p r xs (env.set i (some (e x))) (fun y hy => by rw [List.set_set]; exact hb y (by simp [hy])) (fun y hy => hs y (by simp [hy]))
      have e1 : forL (gtName i) body none (e x :: xs.map e) env h = forL (gtName i) body none (xs.map e) (env.set i (some (e x))) h := forL_nx (gd := none) trivial rfl h1
      rw [e1]
      simp only [List.find?_cons, hp, Bool.not_true]
      refine ⟨ih.1, fun z => ?_⟩
      obtain ⟨e0, q⟩ := ih.2 z
      exact ⟨e0, by rw [q, List.set_set]⟩
    · have hp' : p x = false := by simpa using hp
      rw [if_neg hp] at h1
      have e1 : forL (gtName i) body none (e x :: xs.map e) env h = r x := by
        have hstop := hs x (by simp) hp'
        unfold forL
        rw [if_pos (show gdOk none h from trivial)]
        show (match body (env.set i (some (e x))) h with
          | .nx e' h' => forL (gtName i) body none (xs.map e) e' h'
          | .ct e' h' => forL (gtName i) body none (xs.map e) e' h'
          | .bk e' h' => .nx e' h'
          | r => r) = r x
        rw [h1]
        cases q : r x with
        | rt d h' => rfl
        | exc c fs e' h' => rfl
        | nx e' h' => rw [q] at hstop; cases hstop
        | bk e' h' => rw [q] at hstop; cases hstop
        | ct e' h' => rw [q] at hstop; cases hstop
        | bad => rfl
      simp only [List.find?_cons, hp', Bool.not_false]
      exact ⟨fun y z => by cases z; exact e1, fun z => by cases z⟩
theorem forL_allM {α : Type} {i : Nat} {body : S} {env : Ev} {h : Hh} (e : α → D) (p : α → Bool) (r : D) (xs : List α) (hb : ∀ x ∈ xs, body (env.set i (some (e x))) h = if p x = true then .nx (env.set i (some (e x))) h else .rt r h) :
    (xs.all p = true → ∃ e0, forL (gtName i) body none (xs.map e) env h = .nx (env.set i e0) h) ∧ (xs.all p = false → forL (gtName i) body none (xs.map e) env h = .rt r h) := by
  have q := forL_findM (i := i) (body := body) (h := h) e p (fun _ => .rt r h) xs env hb (fun _ _ _ => rfl)
  refine ⟨fun z => q.2 ?_, fun z => ?_⟩
  · rw [List.find?_eq_none]
    intro x hx
    have := List.all_eq_true.mp z x hx
    simp [this]
  · cases e : xs.find? (fun x => !p x) with
    | none =>
      rw [List.find?_eq_none] at e
      have : xs.all p = true := List.all_eq_true.mpr fun x hx => by simpa using e x hx
      rw [this] at z
      cases z
    | some x => exact q.1 x e
/-! ### places, slices -/
theorem atI_pos {α : Type} {xs : List α} {i : Int} (h : 0 ≤ i) : atI xs i = xs[i.toNat]? := by
  unfold atI ixN
  rw [if_pos h]
  by_cases q : i < xs.length
  · rw [if_pos q]; rfl
  · rw [if_neg q, List.getElem?_eq_none (by omega)]; rfl
theorem atI_m1 {α : Type} {xs : List α} : atI xs (-1) = xs.getLast? := by
  unfold atI ixN
  rw [if_neg (by omega)]
  by_cases q : xs = []
  · subst q; rfl
  · have hl : 0 < xs.length := List.length_pos_iff.mpr q
    rw [if_pos (by omega), List.getLast?_eq_getElem?]
    show xs[((-1 : Int) + xs.length).toNat]? = _
    congr 1
    omega
theorem sIx_pos {n d : Nat} {i : Int} (h : 0 ≤ i) : HT.sIx n d (some i) = min i.toNat n := by
  unfold HT.sIx
  simp only
  rw [if_neg (by omega)]
theorem take_min {α : Type} (l : List α) (k : Nat) : l.take (min k l.length) = l.take k := by
  by_cases q : k ≤ l.length
  · rw [Nat.min_eq_left q]
  · rw [Nat.min_eq_right (by omega), List.take_of_length_le (Nat.le_refl _), List.take_of_length_le (by omega)]
theorem drop_min {α : Type} (l : List α) (k : Nat) : l.drop (min k l.length) = l.drop k := by
  by_cases q : k ≤ l.length
  · rw [Nat.min_eq_left q]
  · rw [Nat.min_eq_right (by omega), List.drop_of_length_le (Nat.le_refl _), List.drop_of_length_le (by omega)]
theorem slice_mid {α : Type} (l : List α) (a b : Nat) : (l.drop (min a l.length)).take (min b l.length - min a l.length) = (l.take b).drop a := by
  rw [drop_min, List.drop_take]
  by_cases q : a ≤ l.length
  · rw [Nat.min_eq_left q]
    by_cases r : b ≤ l.length
    · rw [Nat.min_eq_left r]
    · rw [Nat.min_eq_right (by omega), List.take_of_length_le (by simp), List.take_of_length_le (by simp; omega)]
  · rw [List.drop_of_length_le (by omega)]
    simp
section
variable {xs : List D} {l : List Nat} {i j : Int}
theorem cutD_to (h : 0 ≤ i) : cutD xs none (some i) = xs.take i.toNat := by
  unfold cutD
  rw [HT.sIx_none, sIx_pos h]
  simp [take_min]
theorem cutD_from (h : 0 ≤ i) : cutD xs (some i) none = xs.drop i.toNat := by
  unfold cutD
  rw [HT.sIx_none, sIx_pos h, drop_min, List.take_of_length_le]
  rw [List.length_drop]
  omega
theorem cutD_mid (hi : 0 ≤ i) (hj : 0 ≤ j) : cutD xs (some i) (some j) = (xs.take j.toNat).drop i.toNat := by
  unfold cutD
  rw [sIx_pos hi, sIx_pos hj, slice_mid]
theorem cutS_to (h : 0 ≤ i) : cutS (tx l) none (some i) = tx (l.take i.toNat) := by
  unfold cutS
  rw [HT.sIx_none, sIx_pos h, tx_list, tx_len]
  simp only [List.drop_zero, Nat.sub_zero, take_min]
  rfl
theorem cutS_from (h : 0 ≤ i) : cutS (tx l) (some i) none = tx (l.drop i.toNat) := by
  unfold cutS
  rw [HT.sIx_none, sIx_pos h, tx_list, tx_len, drop_min, List.take_of_length_le]
  · rfl
  · rw [List.length_drop]
    omega
theorem cutS_mid (hi : 0 ≤ i) (hj : 0 ≤ j) : cutS (tx l) (some i) (some j) = tx ((l.take j.toNat).drop i.toNat) := by
  unfold cutS
  rw [sIx_pos hi, sIx_pos hj, tx_list, tx_len, slice_mid]
  rfl
theorem cutS_m1 : cutS (tx l) none (some (-1)) = tx l.dropLast := by
  unfold cutS
  rw [HT.sIx_none, tx_list, tx_len]
  show tx _ = _
  congr 1
  unfold HT.sIx
  simp only
  rw [if_pos (by omega), List.drop_zero, List.dropLast_eq_take]
  congr 1
  omega
end
/-! ### equality -/
mutual
def eqd : D → D → Bool
  | .non, .non => true
  | .bl a, .bl b => a == b
  | .bl a, .int j => (if a then 1 else 0) == j
  | .int i, .bl b => i == (if b then 1 else 0)
  | .int i, .int j => i == j
  | .str x, .str y => x == y
  | .fls xs, .fls ys => eqds xs ys
  | .tup xs, .tup ys => eqds xs ys
  | _, _ => false
def eqds : List D → List D → Bool
  | [], [] => true
  | x :: xs, y :: ys => eqd x y && eqds xs ys
  | _, _ => false
end
mutual
/-- no places, no great depth, signs of Unicode -/
def okD : Nat → D → Bool
  | 0, _ => false
  | _ + 1, .str x => x.cps.all (· < 0x110000)
  | k + 1, .tup ds => okDs k ds
  | k + 1, .fls ds => okDs k ds
  | _ + 1, .ref _ => false
  | _ + 1, _ => true
def okDs : Nat → List D → Bool
  | _, [] => true
  | k, d :: ds => okD k d && okDs k ds
end
mutual
def pyd : D → PyData
  | .non => .none
  | .bl b => .bool b
  | .int i => .int i
  | .str x => .str x
  | .tup ds => .tuple (pyds ds)
  | .fls ds => .list (pyds ds)
  | .ref _ => .none
def pyds : List D → List PyData
  | [] => []
  | d :: ds => pyd d :: pyds ds
end
theorem okDs_mem : ∀ {k : Nat} {ds : List D} {d : D}, okDs k ds = true → d ∈ ds → okD k d = true
  | k, d' :: ds, d, h, hm => by
    simp only [okDs, Bool.and_eq_true] at h
    rcases List.mem_cons.mp hm with rfl | hm
    · exact h.1
    · exact okDs_mem h.2 hm
theorem okDs_iff {k : Nat} {ds : List D} : okDs k ds = true ↔ ∀ d ∈ ds, okD k d = true := by
  refine ⟨fun h d hd => okDs_mem h hd, fun h => ?_⟩
  induction ds with
  | nil => rfl
  | cons d ds ih =>
    simp only [okDs, Bool.and_eq_true]
    exact ⟨h d (by simp), ih fun x hx => h x (by simp [hx])⟩
theorem pyds_map : ∀ ds : List D, pyds ds = ds.map pyd
  | [] => rfl
  | d :: ds => by simp [pyds, pyds_map ds]
theorem mapM_some {α β : Type} {f : α → Option β} {g : α → β} : ∀ {xs : List α}, (∀ x ∈ xs, f x = some (g x)) → xs.mapM f = some (xs.map g)
  | [], _ => rfl
  | x :: xs, h => by
    rw [List.mapM_cons, h x (by simp), mapM_some (xs := xs) fun y hy => h y (by simp [hy])]
    rfl
theorem toP_ok (h : Hh) : ∀ (k n : Nat) (d : D), k ≤ n → okD k d = true → toP h n d = some (pyd d)
  | 0, _, _, _, e => by simp [okD] at e
  | k + 1, 0, _, l, _ => by omega
  | k + 1, n + 1, .non, _, _ => rfl
  | k + 1, n + 1, .bl _, _, _ => rfl
  | k + 1, n + 1, .int _, _, _ => rfl
  | k + 1, n + 1, .str _, _, _ => rfl
  | k + 1, n + 1, .tup ds, l, e => by
    simp only [okD] at e
    simp only [toP, pyd, pyds_map]
    rw [mapM_some (g := pyd) fun x hx => toP_ok h k n x (by omega) (okDs_mem e hx)]
    rfl
  | k + 1, n + 1, .fls ds, l, e => by
    simp only [okD] at e
    simp only [toP, pyd, pyds_map]
    rw [mapM_some (g := pyd) fun x hx => toP_ok h k n x (by omega) (okDs_mem e hx)]
    rfl
  | k + 1, n + 1, .ref _, _, e => by simp [okD] at e
theorem depth_ok : ∀ (k : Nat) (d : D), okD k d = true → (pyd d).depth ≤ k ∧ (pyd d).canLay0 = true
  | 0, _, e => by simp [okD] at e
  | k + 1, .non, _ => by simp [pyd, PyData.depth, PyData.canLay0]
  | k + 1, .bl _, _ => by simp [pyd, PyData.depth, PyData.canLay0]
  | k + 1, .int _, _ => by simp [pyd, PyData.depth, PyData.canLay0]
  | k + 1, .str x, e => by
    simp only [okD] at e
    simp [pyd, PyData.depth, PyData.canLay0, PyData.strOk]
    simpa using e
  | k + 1, .tup ds, e => by
    simp only [okD] at e
    have h : ∀ ds : List D, okDs k ds = true → PyData.depthAll (pyds ds) ≤ k ∧ PyData.canLayAll0 (pyds ds) = true := by
      intro ds
      induction ds with
      | nil => intro _; simp [pyds, PyData.depthAll, PyData.canLayAll0]
      | cons d ds ih =>
        intro e
        simp only [okDs, Bool.and_eq_true] at e
        have h1 := depth_ok k d e.1
        have h2 := ih e.2
        simp only [pyds, PyData.depthAll, PyData.canLayAll0, Bool.and_eq_true]
        exact ⟨by omega, h1.2, h2.2⟩
    have := h ds e
    simp only [pyd, PyData.depth, PyData.canLay0]
    exact ⟨by omega, this.2⟩
  | k + 1, .fls ds, e => by
    simp only [okD] at e
    have h : ∀ ds : List D, okDs k ds = true → PyData.depthAll (pyds ds) ≤ k ∧ PyData.canLayAll0 (pyds ds) = true := by
      intro ds
      induction ds with
      | nil => intro _; simp [pyds, PyData.depthAll, PyData.canLayAll0]
      | cons d ds ih =>
        intro e
        simp only [okDs, Bool.and_eq_true] at e
        have h1 := depth_ok k d e.1
        have h2 := ih e.2
        simp only [pyds, PyData.depthAll, PyData.canLayAll0, Bool.and_eq_true]
        exact ⟨by omega, h1.2, h2.2⟩
    have := h ds e
    simp only [pyd, PyData.depth, PyData.canLay0]
    exact ⟨by omega, this.2⟩
  | k + 1, .ref _, e => by simp [okD] at e
mutual
theorem eqd_py : ∀ (k : Nat) (a b : D), okD k a = true → okD k b = true → PyData.eqv (pyd a) (pyd b) = eqd a b
  | 0, _, _, e, _ => by simp [okD] at e
  | k + 1, .tup xs, b, ha, hb => by
    cases b <;> first | (simp [okD] at hb; done) | skip
    all_goals simp only [pyd, PyData.eqv, eqd]
    exact eqds_py k xs _ (by simpa [okD] using ha) (by simpa [okD] using hb)
  | k + 1, .fls xs, b, ha, hb => by
    cases b <;> first | (simp [okD] at hb; done) | skip
    all_goals simp only [pyd, PyData.eqv, eqd]
    exact eqds_py k xs _ (by simpa [okD] using ha) (by simpa [okD] using hb)
  | k + 1, .non, b, ha, hb => by cases b <;> first | (simp [okD] at hb; done) | simp [pyd, PyData.eqv, eqd]
  | k + 1, .bl _, b, ha, hb => by cases b <;> first | (simp [okD] at hb; done) | simp [pyd, PyData.eqv, eqd]
  | k + 1, .int _, b, ha, hb => by cases b <;> first | (simp [okD] at hb; done) | simp [pyd, PyData.eqv, eqd]
  | k + 1, .str _, b, ha, hb => by cases b <;> first | (simp [okD] at hb; done) | simp [pyd, PyData.eqv, eqd]
  | k + 1, .ref _, b, ha, hb => by simp [okD] at ha
theorem eqds_py : ∀ (k : Nat) (a b : List D), okDs k a = true → okDs k b = true → PyData.eqvAll (pyds a) (pyds b) = eqds a b
  | _, [], [], _, _ => by simp [pyds, PyData.eqvAll, eqds]
  | _, [], _ :: _, _, _ => by simp [pyds, PyData.eqvAll, eqds]
  | _, _ :: _, [], _, _ => by simp [pyds, PyData.eqvAll, eqds]
  | k, x :: xs, y :: ys, ha, hb => by
    simp only [okDs, Bool.and_eq_true] at ha hb
    simp only [pyds, PyData.eqvAll, eqds]
    rw [eqd_py k x y ha.1 hb.1, eqds_py k xs ys ha.2 hb.2]
end
theorem opEqB_ok {a b : D} (h : Hh) (ha : okD 60 a = true) (hb : okD 60 b = true) : opEqB a b h = some (eqd a b) := by
  have gen : eqP h a b = some (eqd a b) := by
    unfold eqP
    rw [toP_ok h 60 60 a (Nat.le_refl _) ha, toP_ok h 60 60 b (Nat.le_refl _) hb]
    dsimp only
    have h1 := depth_ok 60 a ha
    have h2 := depth_ok 60 b hb
    rw [if_pos ⟨by simp [SeqAt.shaped, h1.2]; omega, by simp [SeqAt.shaped, h2.2]; omega⟩, eqd_py 60 a b ha hb]
  unfold opEqB
  split
  · simp [eqd, BEq.beq]
  · simp [eqd, BEq.beq]
  · simp [eqd, BEq.beq]
  · simp [eqd]
  · exact gen
theorem opEq_ok {a b : D} (h : Hh) (ha : okD 60 a = true) (hb : okD 60 b = true) : opEq a b h = some (.bl (eqd a b), h) := by
  unfold opEq
  rw [opEqB_ok h ha hb]
  rfl
theorem opNe_ok {a b : D} (h : Hh) (ha : okD 60 a = true) (hb : okD 60 b = true) : opNe a b h = some (.bl (!eqd a b), h) := by
  unfold opNe
  rw [opEqB_ok h ha hb]
  rfl
theorem okD_mono : ∀ {m n : Nat} {d : D}, m ≤ n → okD m d = true → okD n d = true
  | 0, _, _, _, e => by simp [okD] at e
  | m + 1, 0, _, l, _ => by omega
  | m + 1, n + 1, .non, _, _ => rfl
  | m + 1, n + 1, .bl _, _, _ => rfl
  | m + 1, n + 1, .int _, _, _ => rfl
  | m + 1, n + 1, .str _, _, e => e
  | m + 1, n + 1, .tup ds, l, e => by
    simp only [okD] at e ⊢
    exact okDs_iff.mpr fun d hd => okD_mono (by omega) (okDs_mem e hd)
  | m + 1, n + 1, .fls ds, l, e => by
    simp only [okD] at e ⊢
    exact okDs_iff.mpr fun d hd => okD_mono (by omega) (okDs_mem e hd)
  | m + 1, n + 1, .ref _, _, e => by simp [okD] at e
theorem okD_lo : ∀ {m n : Nat} {d : D}, okD m d = true → lo n d = true
  | 0, _, _, e => by simp [okD] at e
  | m + 1, n, .non, _ => rfl
  | m + 1, n, .bl _, _ => rfl
  | m + 1, n, .int _, _ => rfl
  | m + 1, n, .str _, e => rfl
  | m + 1, n, .tup ds, e => by
    simp only [okD] at e
    rw [lo_tup, los_all, List.all_eq_true]
    exact fun d hd => okD_lo (okDs_mem e hd)
  | m + 1, n, .fls ds, e => by
    simp only [okD] at e
    rw [lo_fls, los_all, List.all_eq_true]
    exact fun d hd => okD_lo (okDs_mem e hd)
  | m + 1, n, .ref _, e => by simp [okD] at e
theorem eqds_strs : ∀ (xs ys : List (List Nat)), eqds (xs.map fun l => D.str (tx l)) (ys.map fun l => D.str (tx l)) = decide (xs = ys)
  | [], [] => rfl
  | [], _ :: _ => rfl
  | _ :: _, [] => rfl
  | x :: xs, y :: ys => by
    simp only [List.map_cons, eqds, eqd, eqds_strs xs ys]
    by_cases h : x = y <;> simp [h]
end Sm
/-! SmR3: tame data; the drawing function at the heap's head. -/
namespace Sm
open PySem L2 PyProof.Rows SmPool
mutual
/-- no places, no great depth, no long texts or rows -/
def tm : Nat → D → Bool
  | 0, _ => false
  | _ + 1, .str x => x.cps.all (· < 0x110000) && decide (x.length ≤ 4096)
  | k + 1, .tup ds => tms k ds && decide (ds.length ≤ 4096)
  | k + 1, .fls ds => tms k ds && decide (ds.length ≤ 4096)
  | _ + 1, .ref _ => false
  | _ + 1, _ => true
def tms : Nat → List D → Bool
  | _, [] => true
  | k, d :: ds => tm k d && tms k ds
end
theorem tms_mem : ∀ {k : Nat} {ds : List D} {d : D}, tms k ds = true → d ∈ ds → tm k d = true
  | k, d' :: ds, d, h, hm => by
    simp only [tms, Bool.and_eq_true] at h
    rcases List.mem_cons.mp hm with rfl | hm
    · exact h.1
    · exact tms_mem h.2 hm
theorem tms_iff {k : Nat} {ds : List D} : tms k ds = true ↔ ∀ d ∈ ds, tm k d = true := by
  refine ⟨fun h d hd => tms_mem h hd, fun h => ?_⟩
  induction ds with
  | nil => rfl
  | cons d ds ih =>
    simp only [tms, Bool.and_eq_true]
    exact ⟨h d (by simp), ih fun x hx => h x (by simp [hx])⟩
theorem tm_ok : ∀ {k : Nat} {d : D}, tm k d = true → okD k d = true
  | 0, _, e => by simp [tm] at e
  | k + 1, .non, _ => rfl
  | k + 1, .bl _, _ => rfl
  | k + 1, .int _, _ => rfl
  | k + 1, .str _, e => by simp only [tm, Bool.and_eq_true] at e; exact e.1
  | k + 1, .tup ds, e => by
    simp only [tm, Bool.and_eq_true] at e
    simp only [okD]
    exact okDs_iff.mpr fun d hd => tm_ok (tms_mem e.1 hd)
  | k + 1, .fls ds, e => by
    simp only [tm, Bool.and_eq_true] at e
    simp only [okD]
    exact okDs_iff.mpr fun d hd => tm_ok (tms_mem e.1 hd)
  | k + 1, .ref _, e => by simp [tm] at e
theorem tm_mono : ∀ {m n : Nat} {d : D}, m ≤ n → tm m d = true → tm n d = true
  | 0, _, _, _, e => by simp [tm] at e
  | m + 1, 0, _, l, _ => by omega
  | m + 1, n + 1, .non, _, _ => rfl
  | m + 1, n + 1, .bl _, _, _ => rfl
  | m + 1, n + 1, .int _, _, _ => rfl
  | m + 1, n + 1, .str _, _, e => e
  | m + 1, n + 1, .tup ds, l, e => by
    simp only [tm, Bool.and_eq_true] at e ⊢
    exact ⟨tms_iff.mpr fun d hd => tm_mono (by omega) (tms_mem e.1 hd), e.2⟩
  | m + 1, n + 1, .fls ds, l, e => by
    simp only [tm, Bool.and_eq_true] at e ⊢
    exact ⟨tms_iff.mpr fun d hd => tm_mono (by omega) (tms_mem e.1 hd), e.2⟩
  | m + 1, n + 1, .ref _, _, e => by simp [tm] at e
theorem tm_len {k : Nat} {x : Str} (e : tm k (.str x) = true) : x.cps.toList.length ≤ sizeLine := by
  cases k with
  | zero => simp [tm] at e
  | succ k =>
    simp only [tm, Bool.and_eq_true, decide_eq_true_eq] at e
    have := e.2
    rw [sizeLine_eq]
    unfold Str.length at this
    simp
    omega
theorem tm_tup {k : Nat} {ds : List D} (e : tm k (.tup ds) = true) : tms (k - 1) ds = true ∧ ds.length ≤ 4096 := by
  cases k with
  | zero => simp [tm] at e
  | succ k =>
    simp only [tm, Bool.and_eq_true, decide_eq_true_eq] at e
    exact e
theorem tm_fls {k : Nat} {ds : List D} (e : tm k (.fls ds) = true) : tms (k - 1) ds = true ∧ ds.length ≤ 4096 := by
  cases k with
  | zero => simp [tm] at e
  | succ k =>
    simp only [tm, Bool.and_eq_true, decide_eq_true_eq] at e
    exact e
theorem tm_ref {k n : Nat} : ¬ tm k (.ref n) = true := by cases k <;> simp [tm]
theorem tm_cps {k : Nat} {x : Str} (e : tm k (.str x) = true) : x.cps.all (· < 0x110000) = true := by
  cases k with
  | zero => simp [tm] at e
  | succ k =>
    simp only [tm, Bool.and_eq_true] at e
    exact e.1
theorem tm_mkT {k : Nat} {ds : List D} (h : ∀ d ∈ ds, tm k d = true) (hl : ds.length ≤ 4096) : tm (k + 1) (.tup ds) = true := by
  have h1 := tms_iff.mpr h
  have e : tm (k + 1) (.tup ds) = (tms k ds && decide (ds.length ≤ 4096)) := by simp only [tm]
  rw [e, h1]
  simpa using hl
theorem tm_mkF {k : Nat} {ds : List D} (h : ∀ d ∈ ds, tm k d = true) (hl : ds.length ≤ 4096) : tm (k + 1) (.fls ds) = true := by
  have h1 := tms_iff.mpr h
  have e : tm (k + 1) (.fls ds) = (tms k ds && decide (ds.length ≤ 4096)) := by simp only [tm]
  rw [e, h1]
  simpa using hl
theorem tm_sub {k : Nat} {ds es : List D} (e : tm k (.tup ds) = true) (h : ∀ d ∈ es, d ∈ ds) (hl : es.length ≤ ds.length) : tm k (.tup es) = true := by
  cases k with
  | zero => simp [tm] at e
  | succ k =>
    obtain ⟨h1, h2⟩ := tm_tup e
    exact tm_mkT (fun d hd => tms_mem h1 (h d hd)) (by omega)
theorem tm_mkS {k : Nat} {l : List Nat} (h : ∀ c ∈ l, c < 128) (hl : l.length ≤ 4096) : tm (k + 1) (.str (tx l)) = true := by
  have e : tm (k + 1) (.str (tx l)) = ((tx l).cps.all (· < 0x110000) && decide ((tx l).length ≤ 4096)) := by simp only [tm]
  rw [e]
  simp only [Bool.and_eq_true, decide_eq_true_eq, tx_len]
  refine ⟨?_, hl⟩
  unfold tx
  simp
  intro c hc
  have := h c hc
  omega
theorem tm_lo {k n : Nat} {d : D} (e : tm k d = true) : lo n d = true := okD_lo (tm_ok e)
theorem tms_lo {k n : Nat} {ds : List D} (e : tms k ds = true) : los n ds = true := by
  rw [los_all, List.all_eq_true]
  exact fun d hd => tm_lo (tms_mem e hd)
theorem line4k {n : Nat} (h : n ≤ 100000) : n ≤ sizeLine := by rw [sizeLine_eq]; omega
theorem line4kI {n : Int} (h : n ≤ 100000) : n ≤ (sizeLine : Int) := by rw [sizeLine_eq]; omega
theorem rngD_range (n : Nat) : rngD 0 n = (List.range n).map fun (k : Nat) => D.int (k : Int) := by
  unfold rngD
  apply List.map_congr_left
  intro a _
  simp
theorem opJoin_f {x : Str} {xs : List Str} {h : Hh} (hz : (xs.map (·.length)).sum + xs.length * x.length ≤ 16777216) : opJoin (.str x) (.fls (xs.map D.str)) h = some (.str (Txt.join x xs), h) := by
  have h1 : partsOf (.fls (xs.map D.str)) h = some (xs.map D.str) := rfl
  have h2 := strsOf_map xs
  simp only [opJoin, h1, h2, if_pos hz]
theorem sumLen {xs : List Str} {B : Nat} (hB : ∀ y ∈ xs, y.length ≤ B) : (xs.map (·.length)).sum ≤ xs.length * B := StrLaws.sumLen_le xs hB
/-! ### a source at the heap's head -/
def SrO (o : O) : Prop := ∃ (ns : List Int) (i : Nat) (w s : Int), ns.length ≤ 63 ∧ i ≤ ns.length ∧ 0 ≤ w ∧ 0 ≤ s ∧ s < 2147483647 ∧ o = .lst [.fls (ns.map D.int), .int i, .int w, .int s]
theorem SrO.lo {o : O} {n : Nat} (a : SrO o) : loO n o = true := by
  obtain ⟨ns, i, w, s, _, _, _, _, _, rfl⟩ := a
  simp [loO]
theorem SrO.kq {o o' : O} {t : Hh} {n : Nat} (a : SrO o') : Kq n (o :: t) (o' :: t) := fun i u e => by
  cases i with
  | zero => simp at e; subst e; exact .inr a.lo
  | succ i => exact .inl (by simpa using e)
theorem SrO.start (ns : List Int) (h : ns.length ≤ 63) : SrO (.lst [.fls (ns.map D.int), .int 0, .int 0, .int 1]) := ⟨ns, 0, 0, 1, h, by omega, by omega, by omega, by omega, rfl⟩
section
variable {o o' : O} {t g : Hh} {d : D} {ds : List D}
theorem trR_s0 (a : SrO o') : trR (o :: t) (.ok d (o' :: t)) = .ok d (o' :: t) := by
  unfold trR
  dsimp only
  rw [List.take_of_length_le (by simp)]
  split <;> rfl
theorem trR_s (a : SrO o') : trR (o :: t) (.ok d (o' :: (t ++ g))) = if lo (t.length + 1) d = true then .ok d (o' :: t) else .ok d (o' :: (t ++ g)) := by
  unfold trR
  simp [a.kq]
theorem trR_s1 (a : SrO o') {x : O} : trR [o] (.ok d [o', x]) = if lo 1 d = true then .ok d [o'] else .ok d [o', x] := by
  have := trR_s (o := o) (t := []) (g := [x]) (d := d) a
  simpa using this
theorem fz1_s (a : SrO o') : fz1 (o :: t) (.ok (.ref (t.length + 1)) (o' :: (t ++ [.lst ds]))) = if los (t.length + 1) ds = true then .ok (.fls ds) (o' :: t) else .ok (.fls ds) (o' :: (t ++ [.dead])) := by
  unfold fz1
  simp [a.kq]
theorem fz1_s1 (a : SrO o') : fz1 [o] (.ok (.ref 1) [o', .lst ds]) = if los 1 ds = true then .ok (.fls ds) [o'] else .ok (.fls ds) [o', .dead] := by
  have := fz1_s (o := o) (t := []) (ds := ds) a
  simpa using this
end
theorem draw_s {o : O} {t : Hh} {m : Int} (a : SrO o) (hm : 0 < m) (hm2 : m < 1073741824) : ∃ r o', 0 ≤ r ∧ r < m ∧ SrO o' ∧ fnT 4 SmDraw.b__law_draw [.ref 0, .int m] (o :: t) = .ok (.int r) (o' :: t) := by
  have a0 : SmDraw.Sr (o :: t) 0 := by
    obtain ⟨ns, i, w, s, h1, h2, h3, h4, h5, rfl⟩ := a
    exact ⟨ns, i, w, s, h1, h2, h3, h4, h5, rfl⟩
  obtain ⟨r, h', h1, h2, h3, h4, h5, h6⟩ := SmDraw.draw_x a0 hm hm2
  cases h' with
  | nil => simp at h5
  | cons o' t' =>
    have ht : t' = t := by
      have e : ∀ i u, t[i]? = some u → t'[i]? = some u := fun i u e => by
        have := h4 (i + 1) u (by omega) (by simpa using e)
        simpa using this
      have hl : t'.length = t.length := by simpa using h5
      apply List.ext_getElem?
      intro i
      by_cases q : i < t.length
      · rw [List.getElem?_eq_getElem q]
        exact e i _ (List.getElem?_eq_getElem q)
      · rw [List.getElem?_eq_none (by omega), List.getElem?_eq_none (by omega)]
    subst ht
    have so : SrO o' := by
      obtain ⟨ns, i, w, s, k1, k2, k3, k4, k5, k6⟩ := h3
      simp at k6
      exact ⟨ns, i, w, s, k1, k2, k3, k4, k5, k6⟩
    refine ⟨r, o', h1, h2, so, ?_⟩
    have e : fnM 4 SmDraw.b__law_draw [.ref 0, .int m] (o :: t') = .ok (.int r) (o' :: t') := h6
    show trR (o :: t') (fnM 4 SmDraw.b__law_draw [.ref 0, .int m] (o :: t')) = _
    rw [e, trR_s0 so]
end Sm
/-! the law law_k02_names_read_and_written: mirrors and derivations, printed by gen.py -/
namespace Lk02
open PySem L2 PyProof.Rows Sm
def mtab (c c2 : Nat) : Option Bool := if c < 1 ∧ c2 < 1 then some (decide (c2 = c)) else none
theorem mtab_one (c : Nat) : ∀ c2, mtab c c2 = some true → c2 = c := fun c2 h => by
  unfold mtab at h
  split at h
  · simpa using h
  · cases h
structure Tx (mg : Str → Option Value) : Prop where
  z_abs : mg "abs" = none
  z_all : mg "all" = none
  z_bool : mg "bool" = none
  z_int : mg "int" = none
  z_isinstance : mg "isinstance" = none
  z_len : mg "len" = none
  z_list : mg "list" = none
  z_range : mg "range" = none
  z_str : mg "str" = none
  z_tuple : mg "tuple" = none
  c_LETTERS : ∃ u, mg "LETTERS" = some (.str "abcdefghijklmnopqrstuvwxyz0123456789-" u)
  c_MOST_LABEL : ∃ u, mg "MOST_LABEL" = some (.int 12 u)
  c_MOST_LABELS : ∃ u, mg "MOST_LABELS" = some (.int 6 u)
noncomputable def b_is_label_1 : S := (sIf (tBl (eB opNin (eV 1) (eC (.str "abcdefghijklmnopqrstuvwxyz0123456789-")))) (sRet (eC (.bl false))) sSkip)
noncomputable def b_is_label : S := (sSeq (sIf (tOrM (tNotM (tTru (eU (opIsi .str) (eV 0)))) (tOrM (tBl (eB opEq (eV 0) (eC (.str "")))) (tBl (eB opGt (eN opLen [(eV 0)]) (eC (.int 12)))))) (sRet (eC (.bl false))) sSkip)
    (sSeq (sFor (mSeqS (eV 0)) (gtName 1) b_is_label_1)
    (sRet (eAnd (eB opNe (eB opIx (eV 0) (eC (.int 0))) (eC (.str "-"))) (eB opNe (eB opIx (eV 0) (eU opNeg (eC (.int 1)))) (eC (.str "-")))))))
noncomputable def m_is_label : Fm := fnT 2 b_is_label
noncomputable def b_is_name_1 : S := (sIf (tNotM (tTru (eCall m_is_label [(eV 1)]))) (sRet (eC (.bl false))) sSkip)
noncomputable def b_is_name : S := (sSeq (sIf (tOrM (tNotM (tTru (eU (opIsi .tuple) (eV 0)))) (tBl (eB opGt (eN opLen [(eV 0)]) (eC (.int 6))))) (sRet (eC (.bl false))) sSkip)
    (sSeq (sFor (mSeqS (eV 0)) (gtName 1) b_is_name_1)
    (sRet (eC (.bl true)))))
noncomputable def m_is_name : Fm := fnT 2 b_is_name
noncomputable def b_is_owner : S := (sSeq (sIf (tAndM (tTru (eU (opIsi .tuple) (eV 0))) (tBl (eB opEq (eSlF (eV 0) none (some (eC (.int 1)))) (eTup [(eC (.str "*"))])))) (sRet (eAnd (eB opLe (eN opLen [(eV 0)]) (eC (.int 6))) (eCall m_is_name [(eSlF (eV 0) (some (eC (.int 1))) none)]))) sSkip)
    (sRet (eCall m_is_name [(eV 0)])))
noncomputable def m_is_owner : Fm := fnT 1 b_is_owner
noncomputable def b_check_owner : S := (sIf (tNotM (tTru (eCall m_is_owner [(eV 0)]))) (sRaise 0 [(eV 0), (eC (.int 0))]) sSkip)
noncomputable def m_check_owner : Fm := fnT 1 b_check_owner
noncomputable def b_scan_owner_1 : S := (sSeq (sSet 5 (eB opIx (eV 0) (eV 3)))
    (sSeq (sIf (tBl (eB opEq (eV 5) (eC (.str ".")))) (sSeq (sIf (tBl (eB opEq (eV 3) (eV 4))) (sRaise 0 [(eV 0), (eV 3)]) sSkip)
    (sSeq (sIf (tBl (eB opEq (eB opIx (eV 0) (eB opSub (eV 3) (eC (.int 1)))) (eC (.str "-")))) (sRaise 0 [(eV 0), (eB opSub (eV 3) (eC (.int 1)))]) sSkip)
    (sSeq (sExpr (eMt opAppend (eV 2) [(eSlF (eV 0) (some (eV 4)) (some (eV 3)))]))
    (sSet 4 (eB opAdd (eV 3) (eC (.int 1))))))) (sIf (tOrM (tBl (eB opNin (eV 5) (eC (.str "abcdefghijklmnopqrstuvwxyz0123456789-")))) (tBl (eB opEq (eB opSub (eV 3) (eV 4)) (eC (.int 12))))) (sRaise 0 [(eV 0), (eV 3)]) (sIf (tAndM (tBl (eB opEq (eV 3) (eV 4))) (tOrM (tBl (eB opEq (eV 5) (eC (.str "-")))) (tBl (eB opEq (eN opLen [(eV 2)]) (eC (.int 6)))))) (sRaise 0 [(eV 0), (eV 3)]) sSkip)))
    (sAug opIAddI 3 (eC (.int 1)))))
noncomputable def b_scan_owner : S := (sSeq (sIf (tNotM (tTru (eU (opIsi .str) (eV 0)))) (sRaise 0 [(eV 0), (eC (.int 0))]) sSkip)
    (sSeq (sIf (tBl (eB opEq (eV 0) (eC (.str ".")))) (sRet (eTup [])) sSkip)
    (sSeq (sSet 2 (eLst []))
    (sSeq (sSet 3 (eC (.int 0)))
    (sSeq (sIf (tAndM (tTru (eV 1)) (tBl (eB opEq (eSlF (eV 0) none (some (eC (.int 1)))) (eC (.str "*"))))) (sSeq (sIf (tBl (eB opNe (eSlF (eV 0) (some (eC (.int 1))) (some (eC (.int 2)))) (eC (.str ".")))) (sRaise 0 [(eV 0), (eC (.int 1))]) sSkip)
    (sSeq (sExpr (eMt opAppend (eV 2) [(eC (.str "*"))]))
    (sSet 3 (eC (.int 2))))) sSkip)
    (sSeq (sSet 4 (eV 3))
    (sSeq (sWhile 100000 (tBl (eB opLt (eV 3) (eN opLen [(eV 0)]))) b_scan_owner_1)
    (sSeq (sIf (tOrM (tBl (eB opEq (eV 0) (eC (.str "")))) (tBl (eB opLt (eV 4) (eN opLen [(eV 0)])))) (sRaise 0 [(eV 0), (eN opLen [(eV 0)])]) sSkip)
    (sRet (eN opTupleOf [(eV 2)]))))))))))
noncomputable def m_scan_owner : Fm := fnT 6 b_scan_owner
noncomputable def b_parse_name : S := (sRet (eCall m_scan_owner [(eV 0), (eC (.bl false))]))
noncomputable def m_parse_name : Fm := fnT 1 b_parse_name
noncomputable def b_parse_owner : S := (sRet (eCall m_scan_owner [(eV 0), (eC (.bl true))]))
noncomputable def m_parse_owner : Fm := fnT 1 b_parse_owner
noncomputable def b_format_owner : S := (sSeq (sExpr (eCall m_check_owner [(eV 0)]))
    (sSeq (sIf (tBl (eB opEq (eV 0) (eTup []))) (sRet (eC (.str "."))) sSkip)
    (sRet (eM1 opJoin (eC (.str "")) (eFz (eLc (mSeqS (eV 0)) (gtName 1) tYesM (eB opAdd (eV 1) (eC (.str "."))) [1]))))))
noncomputable def m_format_owner : Fm := fnT 2 b_format_owner
noncomputable def b__law_draw : S := (sSeq (sIf (tAndM (tBl (eB opEq (eB opIx (eV 0) (eC (.int 2))) (eC (.int 0)))) (tBl (eB opLt (eB opIx (eV 0) (eC (.int 1))) (eN opLen [(eB opIx (eV 0) (eC (.int 0)))])))) (sSeq (sSet 2 (eN opAbs [(eB opIx (eB opIx (eV 0) (eC (.int 0))) (eB opIx (eV 0) (eC (.int 1))))]))
    (sSeq (sSetIx (eV 0) (eC (.int 1)) (eB opAdd (eB opIx (eV 0) (eC (.int 1))) (eC (.int 1))))
    (sIf (tBl (eB opGe (eV 2) (eB opPow (eC (.int 10)) (eC (.int 18))))) (sSetIx (eV 0) (eC (.int 2)) (eV 2)) (sSetIx (eV 0) (eC (.int 3)) (eB opMod (eN opInt [(eB opAdd (eB opAdd (eB opMulA (eB opIx (eV 0) (eC (.int 3))) (eC (.int 48271))) (eB opMulA (eV 2) (eC (.int 69621)))) (eC (.int 12345)))]) (eC (.int 2147483647))))))) sSkip)
    (sSeq (sIf (tBl (eB opGt (eB opIx (eV 0) (eC (.int 2))) (eC (.int 0)))) (sSeq (sSet 3 (eB opMod (eN opInt [(eB opIx (eV 0) (eC (.int 2)))]) (eV 1)))
    (sSeq (sSetIx (eV 0) (eC (.int 2)) (eB opFdiv (eB opIx (eV 0) (eC (.int 2))) (eV 1)))
    (sRet (eV 3)))) sSkip)
    (sSeq (sSetIx (eV 0) (eC (.int 3)) (eB opMod (eN opInt [(eB opAdd (eB opMulA (eB opIx (eV 0) (eC (.int 3))) (eC (.int 48271))) (eC (.int 11)))]) (eC (.int 2147483647))))
    (sRet (eB opMod (eB opMod (eN opInt [(eB opAdd (eB opFdiv (eB opMulA (eB opIx (eV 0) (eC (.int 3))) (eB opIx (eV 0) (eC (.int 3)))) (eC (.int 65536))) (eB opIx (eV 0) (eC (.int 3))))]) (eC (.int 2147483629))) (eV 1))))))
noncomputable def m__law_draw : Fm := fnT 4 b__law_draw
noncomputable def b__law_pick : S := (sRet (eB opIx (eV 1) (eCall m__law_draw [(eV 0), (eN opLen [(eV 1)])])))
noncomputable def m__law_pick : Fm := fnT 2 b__law_pick
noncomputable def b__law_same (self_ : Fm) : S := (sSeq (sIf (tOrM (tTru (eU (opIsi .tuple) (eV 1))) (tTru (eU (opIsi .list) (eV 1)))) (sSeq (sIf (tOrM (tBl (eB opNe (eU (opIsi .tuple) (eV 0)) (eU (opIsi .tuple) (eV 1)))) (tBl (eB opNe (eU (opIsi .list) (eV 0)) (eU (opIsi .list) (eV 1))))) (sRet (eC (.bl false))) sSkip)
    (sRet (eAnd (eB opEq (eN opLen [(eV 0)]) (eN opLen [(eV 1)])) (eN opAll [(eFz (eLc (mRng1 (eN opLen [(eV 1)])) (gtName 2) tYesM (eCall self_ [(eB opIx (eV 0) (eV 2)), (eB opIx (eV 1) (eV 2))]) [2]))])))) sSkip)
    (sSeq (sIf (tBl (eU opIsN (eV 1))) (sRet (eU opIsN (eV 0))) sSkip)
    (sSeq (sIf (tOrM (tTru (eU (opIsi .bool) (eV 1))) (tTru (eU (opIsi .bool) (eV 0)))) (sRet (eAnd (eU (opIsi .bool) (eV 1)) (eAnd (eU (opIsi .bool) (eV 0)) (eB opEq (eV 0) (eV 1))))) sSkip)
    (sSeq (sIf (tTru (eU (opIsi .int) (eV 1))) (sRet (eAnd (eU (opIsi .int) (eV 0)) (eB opEq (eV 0) (eV 1)))) sSkip)
    (sRet (eAnd (eU (opIsi .str) (eV 1)) (eAnd (eU (opIsi .str) (eV 0)) (eB opEq (eV 0) (eV 1)))))))))
noncomputable def m__law_same : Nat → Fm
  | 0 => fun _ _ => .bad
  | n + 1 => fnT 3 (b__law_same (m__law_same n))
noncomputable def b__law_label_1 : S := (sSet 4 (eB opAdd (eV 4) (eB opIx (eV 1) (eCall m__law_draw [(eV 0), (eB opSub (eN opLen [(eV 1)]) (eN opInt [(eOr (eB opEq (eV 5) (eC (.int 0))) (eB opEq (eV 5) (eB opSub (eV 3) (eC (.int 1)))))]))]))))
noncomputable def b__law_label : S := (sSeq (sSet 1 (eC (.str "abcdefghijklmnopqrstuvwxyz0123456789-")))
    (sSeq (sSet 2 (eCall m__law_draw [(eV 0), (eC (.int 9))]))
    (sSeq (sIf (tBl (eB opLt (eV 2) (eC (.int 6)))) (sRet (eB opIx (eLstF [(eC (.str "a")), (eC (.str "b")), (eC (.str "ns")), (eC (.str "a-b")), (eC (.str "9")), (eC (.str "abcdefghijkl"))]) (eV 2))) sSkip)
    (sSeq (sSet 3 (eB opAdd (eC (.int 1)) (eCall m__law_draw [(eV 0), (eB opIx (eLstF [(eC (.int 1)), (eC (.int 3)), (eC (.int 12))]) (eB opSub (eV 2) (eC (.int 6))))])))
    (sSeq (sSet 4 (eC (.str "")))
    (sSeq (sFor (mRng1 (eV 3)) (gtName 5) b__law_label_1)
    (sRet (eV 4))))))))
noncomputable def m__law_label : Fm := fnT 6 b__law_label
noncomputable def b__law_name_1 : S := (sIf (tBl (eB opLt (eN opLen [(eV 3)]) (eC (.int 6)))) (sSet 3 (eB opAdd (eTup [(eCall m__law_label [(eV 0)])]) (eV 3))) sSkip)
noncomputable def b__law_name : S := (sSeq (sSet 3 (eV 1))
    (sSeq (sFor (mRng1 (eCall m__law_draw [(eV 0), (eB opAdd (eV 2) (eC (.int 1)))])) (gtName 4) b__law_name_1)
    (sRet (eV 3))))
noncomputable def m__law_name : Fm := fnT 5 b__law_name
noncomputable def b__law_owner : S := (sSeq (sSet 2 (eCall m__law_name [(eV 0), (eV 1), (eC (.int 2))]))
    (sSeq (sIf (tAndM (tBl (eB opLt (eN opLen [(eV 2)]) (eC (.int 6)))) (tBl (eB opEq (eCall m__law_draw [(eV 0), (eC (.int 5))]) (eC (.int 4))))) (sRet (eB opAdd (eTup [(eC (.str "*"))]) (eV 2))) sSkip)
    (sRet (eV 2))))
noncomputable def m__law_owner : Fm := fnT 3 b__law_owner
noncomputable def b__law_is_name_1 : S := (sSeq (sIf (tOrM (tNotM (tTru (eU (opIsi .str) (eV 1)))) (tOrM (tBl (eB opEq (eV 1) (eC (.str "")))) (tBl (eB opGt (eN opLen [(eV 1)]) (eC (.int 12)))))) (sRet (eC (.bl false))) sSkip)
    (sSeq (sIf (tNotM (tTru (eN opAll [(eFz (eLc (mSeqS (eV 1)) (gtName 2) tYesM (eB opIn (eV 2) (eC (.str "abcdefghijklmnopqrstuvwxyz0123456789-"))) [2]))]))) (sRet (eC (.bl false))) sSkip)
    (sIf (tOrM (tBl (eB opEq (eB opIx (eV 1) (eC (.int 0))) (eC (.str "-")))) (tBl (eB opEq (eB opIx (eV 1) (eU opNeg (eC (.int 1)))) (eC (.str "-"))))) (sRet (eC (.bl false))) sSkip)))
noncomputable def b__law_is_name : S := (sSeq (sIf (tOrM (tNotM (tTru (eU (opIsi .tuple) (eV 0)))) (tBl (eB opGt (eN opLen [(eV 0)]) (eC (.int 6))))) (sRet (eC (.bl false))) sSkip)
    (sSeq (sFor (mSeqS (eV 0)) (gtName 1) b__law_is_name_1)
    (sRet (eC (.bl true)))))
noncomputable def m__law_is_name : Fm := fnT 3 b__law_is_name
noncomputable def b__law_is_owner : S := (sSeq (sIf (tAndM (tTru (eU (opIsi .tuple) (eV 0))) (tAndM (tBl (eB opGt (eN opLen [(eV 0)]) (eC (.int 0)))) (tAndM (tTru (eU (opIsi .str) (eB opIx (eV 0) (eC (.int 0))))) (tBl (eB opEq (eB opIx (eV 0) (eC (.int 0))) (eC (.str "*"))))))) (sRet (eAnd (eB opLe (eN opLen [(eV 0)]) (eC (.int 6))) (eCall m__law_is_name [(eSlF (eV 0) (some (eC (.int 1))) none)]))) sSkip)
    (sRet (eCall m__law_is_name [(eV 0)])))
noncomputable def m__law_is_owner : Fm := fnT 1 b__law_is_owner
noncomputable def b__law_scan_2 : S := (sSeq (sIf (tOrM (tBl (eB opNin (eB opIx (eV 6) (eV 8)) (eC (.str "abcdefghijklmnopqrstuvwxyz0123456789-")))) (tBl (eB opEq (eV 8) (eC (.int 12))))) (sRet (eLstF [(eC (.bl false)), (eB opAdd (eV 4) (eV 8))])) sSkip)
    (sIf (tAndM (tBl (eB opEq (eV 8) (eC (.int 0)))) (tOrM (tBl (eB opEq (eB opIx (eV 6) (eV 8)) (eC (.str "-")))) (tBl (eB opEq (eN opLen [(eV 3)]) (eC (.int 6)))))) (sRet (eLstF [(eC (.bl false)), (eV 4)])) sSkip))
noncomputable def b__law_scan_1 : S := (sSeq (sSet 6 (eB opIx (eV 2) (eV 5)))
    (sSeq (sSet 7 (eB opEq (eV 5) (eB opSub (eN opLen [(eV 2)]) (eC (.int 1)))))
    (sSeq (sIf (tAndM (tBl (eB opEq (eV 5) (eC (.int 0)))) (tAndM (tTru (eV 1)) (tBl (eB opEq (eSlF (eV 6) none (some (eC (.int 1)))) (eC (.str "*")))))) (sIf (tOrM (tBl (eB opNe (eV 6) (eC (.str "*")))) (tTru (eV 7))) (sRet (eLstF [(eC (.bl false)), (eC (.int 1))])) sSkip) (sSeq (sFor (mRng1 (eN opLen [(eV 6)])) (gtName 8) b__law_scan_2)
    (sSeq (sIf (tAndM (tTru (eV 7)) (tOrM (tBl (eB opNe (eV 6) (eC (.str "")))) (tBl (eB opEq (eV 0) (eC (.str "")))))) (sRet (eLstF [(eC (.bl false)), (eN opLen [(eV 0)])])) sSkip)
    (sSeq (sIf (tAndM (tNotM (tTru (eV 7))) (tBl (eB opEq (eV 6) (eC (.str ""))))) (sRet (eLstF [(eC (.bl false)), (eV 4)])) sSkip)
    (sIf (tAndM (tNotM (tTru (eV 7))) (tBl (eB opEq (eB opIx (eV 6) (eU opNeg (eC (.int 1)))) (eC (.str "-"))))) (sRet (eLstF [(eC (.bl false)), (eB opSub (eB opAdd (eV 4) (eN opLen [(eV 6)])) (eC (.int 1)))])) sSkip)))))
    (sIf (tNotM (tTru (eV 7))) (sSeq (sExpr (eMt opAppend (eV 3) [(eV 6)]))
    (sSet 4 (eB opAdd (eB opAdd (eV 4) (eN opLen [(eV 6)])) (eC (.int 1))))) sSkip))))
noncomputable def b__law_scan : S := (sSeq (sIf (tBl (eB opEq (eV 0) (eC (.str ".")))) (sRet (eLstF [(eC (.bl true)), (eTup [])])) sSkip)
    (sSeq (sSet 2 (eM1 opSplitF (eV 0) (eC (.str "."))))
    (sSeq (sSet 3 (eLst []))
    (sSeq (sSet 4 (eC (.int 0)))
    (sSeq (sFor (mRng1 (eN opLen [(eV 2)])) (gtName 5) b__law_scan_1)
    (sRet (eLstF [(eC (.bl true)), (eN opTupleOf [(eV 3)])])))))))
noncomputable def m__law_scan : Fm := fnT 9 b__law_scan
noncomputable def b__law_sign : S := (sSeq (sIf (tBl (eB opLt (eCall m__law_draw [(eV 0), (eC (.int 3))]) (eC (.int 2)))) (sRet (eCall m__law_pick [(eV 0), (eC (.str "a0-.-.*. \""))])) sSkip)
    (sSeq (sSet 1 (eC (.str " !\"#$&'()*+,-./0123456789:;<=>?@ABCDEFGHIJKLMNOPQRSTUVWXYZ[\\]^_`abcdefghijklmnopqrstuvwxyz{|}~\n\t")))
    (sRet (eCall m__law_pick [(eV 0), (eV 1)]))))
noncomputable def m__law_sign : Fm := fnT 2 b__law_sign
noncomputable def b__law_edit : S := (sSeq (sSet 2 (eCall m__law_draw [(eV 0), (eB opAdd (eN opLen [(eV 1)]) (eC (.int 1)))]))
    (sSeq (sSet 3 (eCall m__law_draw [(eV 0), (eC (.int 4))]))
    (sSeq (sIf (tBl (eB opEq (eV 3) (eC (.int 0)))) (sRet (eB opAddF (eSlF (eV 1) none (some (eV 2))) (eSlF (eV 1) (some (eB opAdd (eV 2) (eC (.int 1)))) none))) sSkip)
    (sSeq (sIf (tBl (eB opEq (eV 3) (eC (.int 1)))) (sRet (eB opAddF (eB opAddF (eSlF (eV 1) none (some (eV 2))) (eCall m__law_sign [(eV 0)])) (eSlF (eV 1) (some (eV 2)) none))) sSkip)
    (sSeq (sIf (tBl (eB opEq (eV 3) (eC (.int 2)))) (sRet (eB opAdd (eB opAdd (eSlF (eV 1) none (some (eV 2))) (eB opMulA (eSlF (eSlF (eV 1) (some (eV 2)) none) none (some (eC (.int 1)))) (eB opAdd (eC (.int 1)) (eCall m__law_draw [(eV 0), (eC (.int 12))])))) (eSlF (eV 1) (some (eV 2)) none))) sSkip)
    (sRet (eB opAddF (eB opAddF (eSlF (eV 1) none (some (eV 2))) (eCall m__law_sign [(eV 0)])) (eSlF (eV 1) (some (eB opAdd (eV 2) (eC (.int 1)))) none))))))))
noncomputable def m__law_edit : Fm := fnT 4 b__law_edit
noncomputable def b__law_wrong_name : S := (sSeq (sSet 1 (eTup [(eC (.str "a")), (eC (.str "b")), (eC (.str "c")), (eC (.str "d")), (eC (.str "e")), (eC (.str "f")), (eC (.str "g"))]))
    (sSeq (sSet 2 (eLstF [(eV 1), (eSl (eV 1) (some (eC (.int 1))) none), (eB opAdd (eTup [(eC (.str "*"))]) (eSl (eV 1) (some (eC (.int 1))) none)), (eB opAdd (eTup [(eC (.str "*"))]) (eSl (eV 1) (some (eC (.int 2))) none)), (eTup [(eC (.str "abcdefghijklm"))]), (eTup [(eC (.str "a")), (eC (.str ""))]), (eTup [(eC (.str "-a"))]), (eTup [(eC (.str "b")), (eC (.str "a-"))])]))
    (sSeq (sSet 2 (eB opAddF (eV 2) (eLstF [(eTup [(eC (.str "A"))]), (eTup [(eC (.str "a.b"))]), (eTup [(eC (.str "a b"))]), (eTup [(eC (.str "a")), (eC (.int 1))]), (eTup [(eC (.str "*"))]), (eTup [(eC (.str "*")), (eC (.str "a"))]), (eTup [(eC (.str "a")), (eC (.str "*"))]), (eTup [(eC (.str "*")), (eC (.str "*"))]), (eTup [(eC (.str "**"))]), (eLstF [(eC (.str "a"))]), (eLstF [])])))
    (sSeq (sSet 2 (eB opAddF (eV 2) (eLstF [(eC .non), (eC (.str "a")), (eC (.str "")), (eC (.str ".")), (eC (.str "*")), (eC (.int 7)), (eC (.bl true)), (eTup [(eC (.str "a")), (eC .non)]), (eTup [(eTup [(eC (.str "a"))])]), (eTup [(eC (.str "b\n"))]), (eTup [(eC (.str "-"))]), (eTup [(eC (.bl true))]), (eTup [(eC .non), (eC (.str "a"))])])))
    (sRet (eCall m__law_pick [(eV 0), (eV 2)]))))))
noncomputable def m__law_wrong_name : Fm := fnT 3 b__law_wrong_name
noncomputable def b__law_text_1 : S := (sSet 1 (eCall m__law_edit [(eV 0), (eV 1)]))
noncomputable def b__law_text : S := (sSeq (sIf (tBl (eB opEq (eCall m__law_draw [(eV 0), (eC (.int 12))]) (eC (.int 11)))) (sRet (eCall m__law_pick [(eV 0), (eLstF [(eC (.str "")), (eC (.str ".")), (eC (.str "*")), (eC (.str "*.")), (eC (.str "..")), (eC (.str "-.")), (eC (.str "a-")), (eC (.str "*a.")), (eC (.str ".a.")), (eC (.str "*.*."))])])) sSkip)
    (sSeq (sSet 1 (eM1 opJoin (eC (.str "")) (eFz (eLc (mRng1 (eCall m__law_draw [(eV 0), (eC (.int 8))])) (gtName 2) tYesM (eB opAdd (eCall m__law_label [(eV 0)]) (eC (.str "."))) [2]))))
    (sSeq (sIf (tBl (eB opEq (eCall m__law_draw [(eV 0), (eC (.int 3))]) (eC (.int 2)))) (sSet 1 (eB opAdd (eC (.str "*.")) (eV 1))) sSkip)
    (sSeq (sIf (tBl (eB opEq (eCall m__law_draw [(eV 0), (eC (.int 8))]) (eC (.int 7)))) (sSet 1 (eSlF (eV 1) none (some (eU opNeg (eC (.int 1)))))) sSkip)
    (sSeq (sFor (mRng1 (eCall m__law_draw [(eV 0), (eC (.int 4))])) (gtName 2) b__law_text_1)
    (sRet (eV 1)))))))
noncomputable def m__law_text : Fm := fnT 3 b__law_text
noncomputable def b__law_outcome : S := (sTryX (sSeq (sIf (tBl (eB opEq (eV 0) (eC (.int 0)))) (sRet (eLstF [(eC (.str "told")), (eCall m_parse_name [(eV 1)])])) sSkip)
    (sSeq (sIf (tBl (eB opEq (eV 0) (eC (.int 1)))) (sRet (eLstF [(eC (.str "told")), (eCall m_parse_owner [(eV 1)])])) sSkip)
    (sRet (eLstF [(eC (.str "told")), (eCall m_format_owner [(eV 1)])])))) (mtab 0) 2 (eLstXF [(fun _ => (eC (.str "refused"))), (eTupX [(eFd 0), (eFd 1)])]))
noncomputable def m__law_outcome : Fm := fnT 3 b__law_outcome
noncomputable def b__law_is_read_1 : S := (sSeq (sSet 2 (eCall m__law_scan [(eV 0), (eB opEq (eV 1) (eC (.int 1)))]))
    (sSeq (sSet 3 (eLstF [(eC (.str "refused")), (eTup [(eV 0), (eB opIx (eV 2) (eC (.int 1)))])]))
    (sSeq (sIf (tTru (eB opIx (eV 2) (eC (.int 0)))) (sSeq (sSet 3 (eLstF [(eC (.str "told")), (eB opIx (eV 2) (eC (.int 1)))]))
    (sIf (tNotM (tTru (eCall (m__law_same 12) [(eCall m__law_outcome [(eC (.int 2)), (eB opIx (eV 2) (eC (.int 1)))]), (eLstF [(eC (.str "told")), (eV 0)])]))) (sRet (eC (.bl false))) sSkip)) sSkip)
    (sIf (tNotM (tTru (eCall (m__law_same 12) [(eCall m__law_outcome [(eV 1), (eV 0)]), (eV 3)]))) (sRet (eC (.bl false))) sSkip))))
noncomputable def b__law_is_read : S := (sSeq (sFor (mRng1 (eC (.int 2))) (gtName 1) b__law_is_read_1)
    (sRet (eC (.bl true))))
noncomputable def m__law_is_read : Fm := fnT 4 b__law_is_read
noncomputable def b__law_is_judged : S := (sSeq (sIf (tOrM (tNotM (tTru (eCall (m__law_same 12) [(eCall m_is_name [(eV 0)]), (eCall m__law_is_name [(eV 0)])]))) (tNotM (tTru (eCall (m__law_same 12) [(eCall m_is_owner [(eV 0)]), (eCall m__law_is_owner [(eV 0)])])))) (sRet (eC (.bl false))) sSkip)
    (sSeq (sIf (tNotM (tTru (eCall m__law_is_owner [(eV 0)]))) (sRet (eCall (m__law_same 12) [(eCall m__law_outcome [(eC (.int 2)), (eV 0)]), (eLstF [(eC (.str "refused")), (eTup [(eV 0), (eC (.int 0))])])])) sSkip)
    (sSeq (sSet 1 (eC (.str ".")))
    (sSeq (sIf (tBl (eB opNe (eV 0) (eTup []))) (sSet 1 (eM1 opJoin (eC (.str "")) (eFz (eLc (mSeqS (eV 0)) (gtName 2) tYesM (eB opAdd (eV 2) (eC (.str "."))) [2])))) sSkip)
    (sSeq (sIf (tAndM (tTru (eCall m__law_is_name [(eV 0)])) (tNotM (tTru (eCall (m__law_same 12) [(eCall m__law_outcome [(eC (.int 0)), (eV 1)]), (eLstF [(eC (.str "told")), (eV 0)])])))) (sRet (eC (.bl false))) sSkip)
    (sRet (eAnd (eCall (m__law_same 12) [(eCall m__law_outcome [(eC (.int 2)), (eV 0)]), (eLstF [(eC (.str "told")), (eV 1)])]) (eCall (m__law_same 12) [(eCall m__law_outcome [(eC (.int 1)), (eV 1)]), (eLstF [(eC (.str "told")), (eV 0)])]))))))))
noncomputable def m__law_is_judged : Fm := fnT 3 b__law_is_judged
noncomputable def b__law_some_label : S := (sSeq (sSet 1 (eCall m__law_label [(eV 0)]))
    (sSeq (sSet 2 (eLstF [(eC (.str "")), (eC (.str "-")), (eC (.str "-a")), (eC (.str "a-")), (eC (.str "A")), (eC (.str "a.")), (eC (.str "*")), (eC (.str "a b")), (eC (.str "b\n")), (eC (.int 7)), (eC (.bl true)), (eC .non), (eTup [(eC (.str "a"))]), (eLstF [(eC (.str "a"))]), (eC (.str "a--b")), (eC (.str "0")), (eTup [])]))
    (sSeq (sSet 3 (eCall m__law_draw [(eV 0), (eC (.int 3))]))
    (sSeq (sIf (tBl (eB opEq (eV 3) (eC (.int 0)))) (sRet (eV 1)) sSkip)
    (sSeq (sIf (tBl (eB opEq (eV 3) (eC (.int 1)))) (sRet (eSl (eB opMulA (eV 1) (eC (.int 13))) none (some (eB opAdd (eC (.int 12)) (eCall m__law_draw [(eV 0), (eC (.int 2))]))))) sSkip)
    (sRet (eCall m__law_pick [(eV 0), (eV 2)])))))))
noncomputable def m__law_some_label : Fm := fnT 4 b__law_some_label
noncomputable def b_law : S := (sSeq (sSet 1 (eLst [(eV 0), (eC (.int 0)), (eC (.int 0)), (eC (.int 1))]))
    (sSeq (sSet 2 (eCall m__law_text [(eV 1)]))
    (sSeq (sIf (tNotM (tTru (eCall m__law_is_read [(eV 2)]))) (sRet (eC (.bl false))) sSkip)
    (sSeq (sSet 3 (eCall m__law_owner [(eV 1), (eCall m__law_name [(eV 1), (eTup []), (eC (.int 4))])]))
    (sSeq (sIf (tBl (eB opEq (eCall m__law_draw [(eV 1), (eC (.int 2))]) (eC (.int 1)))) (sSet 3 (eCall m__law_wrong_name [(eV 1)])) sSkip)
    (sSeq (sIf (tNotM (tTru (eCall m__law_is_judged [(eV 3)]))) (sRet (eC (.bl false))) sSkip)
    (sSeq (sSet 4 (eCall m__law_some_label [(eV 1)]))
    (sSeq (sIf (tNotM (tTru (eCall (m__law_same 12) [(eCall m_is_label [(eV 4)]), (eCall m__law_is_name [(eTup [(eV 4)])])]))) (sRet (eC (.bl false))) sSkip)
    (sSeq (sSet 5 (eCall m__law_pick [(eV 1), (eLstF [(eC .non), (eC (.int 7)), (eC (.bl true)), (eTup [(eC (.str "a"))]), (eLstF [(eC (.str "a."))]), (eTup []), (eC (.int 0))])]))
    (sSeq (sSet 6 (eLstF [(eC (.str "refused")), (eTup [(eV 5), (eC (.int 0))])]))
    (sRet (eAnd (eCall (m__law_same 12) [(eCall m__law_outcome [(eC (.int 0)), (eV 5)]), (eV 6)]) (eCall (m__law_same 12) [(eCall m__law_outcome [(eC (.int 1)), (eV 5)]), (eV 6)])))))))))))))
noncomputable def m_law : Fm := fnT 7 b_law
end Lk02
namespace Lk02
open PySem L2 PyProof.Rows Sm
def top (i : Nat) : Stmt := PySem.Challenge.pw_surely_k02_names_read_and_written.main.body.getD i (.Pass ⟨0, 0, 0, 0⟩)
abbrev s_is_label : Stmt := top 7
abbrev s_is_name : Stmt := top 8
abbrev s_is_owner : Stmt := top 9
abbrev s_check_owner : Stmt := top 10
abbrev s_scan_owner : Stmt := top 11
abbrev s_parse_name : Stmt := top 12
abbrev s_parse_owner : Stmt := top 13
abbrev s_format_owner : Stmt := top 14
abbrev s__law_draw : Stmt := top 16
abbrev s__law_pick : Stmt := top 17
abbrev s__law_same : Stmt := top 18
abbrev s__law_label : Stmt := top 19
abbrev s__law_name : Stmt := top 20
abbrev s__law_owner : Stmt := top 21
abbrev s__law_is_name : Stmt := top 22
abbrev s__law_is_owner : Stmt := top 23
abbrev s__law_scan : Stmt := top 24
abbrev s__law_sign : Stmt := top 25
abbrev s__law_edit : Stmt := top 26
abbrev s__law_wrong_name : Stmt := top 27
abbrev s__law_text : Stmt := top 28
abbrev s__law_outcome : Stmt := top 29
abbrev s__law_is_read : Stmt := top 30
abbrev s__law_is_judged : Stmt := top 31
abbrev s__law_some_label : Stmt := top 32
abbrev s_law : Stmt := top 33
section
variable {P : Program} {w : World} {K : PySem.W.Frag} {mg : Str → Option Value} {base : Heap} {G : Cl}
structure Errs (P : Program) (w : World) (K : PySem.W.Frag) (mg : Str → Option Value) (base : Heap) (G : Cl) : Prop where
  m_BadName : mg "BadName" = some (.ref (G.at_ 0))
  E_BadName : ErrOk P w K mg base G 1 "BadName" 0
  N_BadName : G.nm 0 = (["value", "place"] : List Str)
  X_BadName : XfC K (G.at_ 0)
  F_BadName_value : PySem.W.findIn K (.ref (G.at_ 0)) "value" = some none
  F_BadName_place : PySem.W.findIn K (.ref (G.at_ 0)) "place" = some none
  M : ∀ c c2 b, mtab c c2 = some b → PySem.W.exmOne K (.ref (G.at_ c2)) (.ref (G.at_ c)) = some b
theorem sc_is_label : FnScope ["value", "sign"] ["value"] (defScope s_is_label) := ⟨rfl, rfl, rfl, by decide +kernel, rfl, by decide +kernel, by decide +kernel⟩
theorem d_is_label {f : Addr} {fd : FuncData} (F : Fun K "is_label" "is_label" s_is_label f fd) (T : Tx mg) (Z : Errs P w K mg base G)  : FnOk P w K mg base (L2.CX P w) 1 f fd ["value"] (spM K G 1 m_is_label) :=
  fn_okT (N := ["value", "sign"]) (ps := ["value"]) (k := 0) (n := 2) (np := 1) (body := b_is_label) rfl rfl F sc_is_label fun cdv A outer s H E c => by
    exact (ss_cons (s_if (st_w (sw_or (st_not (st_truth (se_isi .str (se_var 0) (se_ty (by rfl) T.z_str bt_str) (by rfl) T.z_isinstance))) (sw_or (st_eq c.hu (se_var 0) se_str) (sw_or1 (st_gt c.hu (se_callB call_lenAll im_len (by rfl) T.z_len bt_len (sa_cons (se_var 0) sa_nil)) (se_globI' (by rfl) T.c_MOST_LABEL)))))) (ss_one (s_ret se_bl)) ss_nil)
    (ss_cons (s_for c.po c.hc (pi_seqS (se_var 0)) io_seqS (pg_name (i := 1) c.nd rfl (by first | exact Or.inl rfl | exact Or.inr rfl)) tg_name (ss_one (s_if (st_nin c.hu (se_var 1) (se_globS' (by rfl) T.c_LETTERS)) (ss_one (s_ret se_bl)) ss_nil)))
    (ss_one (s_ret (se_and (se_ne c.hu (se_ix (se_var 0) se_int) se_str) (se_one (se_ne c.hu (se_ix (se_var 0) (se_neg se_int)) se_str)))))))
theorem sc_is_name : FnScope ["value", "label"] ["value"] (defScope s_is_name) := ⟨rfl, rfl, rfl, by decide +kernel, rfl, by decide +kernel, by decide +kernel⟩
theorem d_is_name {f : Addr} {fd : FuncData} (F : Fun K "is_name" "is_name" s_is_name f fd) (T : Tx mg) (Z : Errs P w K mg base G) (O_is_label : Ok P w K mg base G 1 "is_label" ["value"] m_is_label) : FnOk P w K mg base (L2.CX P w) 2 f fd ["value"] (spM K G 1 m_is_name) :=
  fn_okT (N := ["value", "label"]) (ps := ["value"]) (k := 1) (n := 2) (np := 1) (body := b_is_name) rfl rfl F sc_is_name fun cdv A outer s H E c => by
    exact (ss_cons (s_if (st_w (sw_or (st_not (st_truth (se_isi .tuple (se_var 0) (se_ty (by rfl) T.z_tuple bt_tuple) (by rfl) T.z_isinstance))) (sw_or1 (st_gt c.hu (se_callB call_lenAll im_len (by rfl) T.z_len bt_len (sa_cons (se_var 0) sa_nil)) (se_globI' (by rfl) T.c_MOST_LABELS))))) (ss_one (s_ret se_bl)) ss_nil)
    (ss_cons (s_for c.po c.hc (pi_seqS (se_var 0)) io_seqS (pg_name (i := 1) c.nd rfl (by first | exact Or.inl rfl | exact Or.inr rfl)) tg_name (ss_one (s_if (st_not (st_truth (se_call c O_is_label (by decide) (by rfl) (sa_cons (se_var 1) sa_nil)))) (ss_one (s_ret se_bl)) ss_nil)))
    (ss_one (s_ret se_bl))))
theorem sc_is_owner : FnScope ["value"] ["value"] (defScope s_is_owner) := ⟨rfl, rfl, rfl, by decide +kernel, rfl, by decide +kernel, by decide +kernel⟩
theorem d_is_owner {f : Addr} {fd : FuncData} (F : Fun K "is_owner" "is_owner" s_is_owner f fd) (T : Tx mg) (Z : Errs P w K mg base G) (O_is_name : Ok P w K mg base G 2 "is_name" ["value"] m_is_name) : FnOk P w K mg base (L2.CX P w) 3 f fd ["value"] (spM K G 1 m_is_owner) :=
  fn_okT (N := ["value"]) (ps := ["value"]) (k := 2) (n := 1) (np := 1) (body := b_is_owner) rfl rfl F sc_is_owner fun cdv A outer s H E c => by
    exact (ss_cons (s_if (st_w (sw_and (st_truth (se_isi .tuple (se_var 0) (se_ty (by rfl) T.z_tuple bt_tuple) (by rfl) T.z_isinstance)) (sw_and1 (st_eq c.hu (se_slF (se_var 0) so_none (so_some se_int)) (se_tup (sa_cons se_str sa_nil)))))) (ss_one (s_ret (se_and (se_le c.hu (se_callB call_lenAll im_len (by rfl) T.z_len bt_len (sa_cons (se_var 0) sa_nil)) (se_globI' (by rfl) T.c_MOST_LABELS)) (se_one (se_call c O_is_name (by decide) (by rfl) (sa_cons (se_slF (se_var 0) (so_some se_int) so_none) sa_nil)))))) ss_nil)
    (ss_one (s_ret (se_call c O_is_name (by decide) (by rfl) (sa_cons (se_var 0) sa_nil)))))
theorem sc_check_owner : FnScope ["owner"] ["owner"] (defScope s_check_owner) := ⟨rfl, rfl, rfl, by decide +kernel, rfl, by decide +kernel, by decide +kernel⟩
theorem d_check_owner {f : Addr} {fd : FuncData} (F : Fun K "check_owner" "check_owner" s_check_owner f fd) (T : Tx mg) (Z : Errs P w K mg base G) (O_is_owner : Ok P w K mg base G 3 "is_owner" ["value"] m_is_owner) : FnOk P w K mg base (L2.CX P w) 4 f fd ["owner"] (spM K G 1 m_check_owner) :=
  fn_okT (N := ["owner"]) (ps := ["owner"]) (k := 3) (n := 1) (np := 1) (body := b_check_owner) rfl rfl F sc_check_owner fun cdv A outer s H E c => by
    exact (ss_one (s_if (st_not (st_truth (se_call c O_is_owner (by decide) (by rfl) (sa_cons (se_var 0) sa_nil)))) (ss_one (s_raise (c := 0) c Z.E_BadName (by decide) (by rfl) (sa_cons (se_var 0) (sa_cons se_int sa_nil)) (by rw [Z.N_BadName]; rfl))) ss_nil))
theorem sc_scan_owner : FnScope ["text", "star", "labels", "at", "start", "sign"] ["text", "star"] (defScope s_scan_owner) := ⟨rfl, rfl, rfl, by decide +kernel, rfl, by decide +kernel, by decide +kernel⟩
theorem d_scan_owner {f : Addr} {fd : FuncData} (F : Fun K "scan_owner" "scan_owner" s_scan_owner f fd) (T : Tx mg) (Z : Errs P w K mg base G)  : FnOk P w K mg base (L2.CX P w) 3 f fd ["text", "star"] (spM K G 2 m_scan_owner) :=
  fn_okT (N := ["text", "star", "labels", "at", "start", "sign"]) (ps := ["text", "star"]) (k := 2) (n := 6) (np := 2) (body := b_scan_owner) rfl rfl F sc_scan_owner fun cdv A outer s H E c => by
    exact (ss_cons (s_if (st_not (st_truth (se_isi .str (se_var 0) (se_ty (by rfl) T.z_str bt_str) (by rfl) T.z_isinstance))) (ss_one (s_raise (c := 0) c Z.E_BadName (by decide) (by rfl) (sa_cons (se_var 0) (sa_cons se_int sa_nil)) (by rw [Z.N_BadName]; rfl))) ss_nil)
    (ss_cons (s_if (st_eq c.hu (se_var 0) se_str) (ss_one (s_ret (se_tup sa_nil))) ss_nil)
    (ss_cons (s_set 2 c.nd (se_lst sa_nil))
    (ss_cons (s_set 3 c.nd se_int)
    (ss_cons (s_if (st_w (sw_and (st_truth (se_var 1)) (sw_and1 (st_eq c.hu (se_slF (se_var 0) so_none (so_some se_int)) se_str)))) (ss_cons (s_if (st_ne c.hu (se_slF (se_var 0) (so_some se_int) (so_some se_int)) se_str) (ss_one (s_raise (c := 0) c Z.E_BadName (by decide) (by rfl) (sa_cons (se_var 0) (sa_cons se_int sa_nil)) (by rw [Z.N_BadName]; rfl))) ss_nil)
    (ss_cons (s_expr (se_append (se_var 2) (sa_cons se_str sa_nil)))
    (ss_one (s_set 3 c.nd se_int)))) ss_nil)
    (ss_cons (s_set 4 c.nd (se_var 3))
    (ss_cons (s_while 100000 c.po (st_lt c.hu (se_var 3) (se_callB call_lenAll im_len (by rfl) T.z_len bt_len (sa_cons (se_var 0) sa_nil))) (ss_cons (s_set 5 c.nd (se_ix (se_var 0) (se_var 3)))
    (ss_cons (s_if (st_eq c.hu (se_var 5) se_str) (ss_cons (s_if (st_eq c.hu (se_var 3) (se_var 4)) (ss_one (s_raise (c := 0) c Z.E_BadName (by decide) (by rfl) (sa_cons (se_var 0) (sa_cons (se_var 3) sa_nil)) (by rw [Z.N_BadName]; rfl))) ss_nil)
    (ss_cons (s_if (st_eq c.hu (se_ix (se_var 0) (se_sub (se_var 3) se_int)) se_str) (ss_one (s_raise (c := 0) c Z.E_BadName (by decide) (by rfl) (sa_cons (se_var 0) (sa_cons (se_sub (se_var 3) se_int) sa_nil)) (by rw [Z.N_BadName]; rfl))) ss_nil)
    (ss_cons (s_expr (se_append (se_var 2) (sa_cons (se_slF (se_var 0) (so_some (se_var 4)) (so_some (se_var 3))) sa_nil)))
    (ss_one (s_set 4 c.nd (se_add (se_var 3) se_int)))))) (ss_one (s_if (st_w (sw_or (st_nin c.hu (se_var 5) (se_globS' (by rfl) T.c_LETTERS)) (sw_or1 (st_eq c.hu (se_sub (se_var 3) (se_var 4)) (se_globI' (by rfl) T.c_MOST_LABEL))))) (ss_one (s_raise (c := 0) c Z.E_BadName (by decide) (by rfl) (sa_cons (se_var 0) (sa_cons (se_var 3) sa_nil)) (by rw [Z.N_BadName]; rfl))) (ss_one (s_if (st_w (sw_and (st_eq c.hu (se_var 3) (se_var 4)) (sw_and1 (st_w (sw_or (st_eq c.hu (se_var 5) se_str) (sw_or1 (st_eq c.hu (se_callB call_lenAll im_len (by rfl) T.z_len bt_len (sa_cons (se_var 2) sa_nil)) (se_globI' (by rfl) T.c_MOST_LABELS)))))))) (ss_one (s_raise (c := 0) c Z.E_BadName (by decide) (by rfl) (sa_cons (se_var 0) (sa_cons (se_var 3) sa_nil)) (by rw [Z.N_BadName]; rfl))) ss_nil)))))
    (ss_one (s_aug 3 c.nd iop_add im_iaddI se_int)))))
    (ss_cons (s_if (st_w (sw_or (st_eq c.hu (se_var 0) se_str) (sw_or1 (st_lt c.hu (se_var 4) (se_callB call_lenAll im_len (by rfl) T.z_len bt_len (sa_cons (se_var 0) sa_nil)))))) (ss_one (s_raise (c := 0) c Z.E_BadName (by decide) (by rfl) (sa_cons (se_var 0) (sa_cons (se_callB call_lenAll im_len (by rfl) T.z_len bt_len (sa_cons (se_var 0) sa_nil)) sa_nil)) (by rw [Z.N_BadName]; rfl))) ss_nil)
    (ss_one (s_ret (se_callTy call_tuple_of im_tuple (by rfl) T.z_tuple bt_tuple (sa_cons (se_var 2) sa_nil))))))))))))
theorem sc_parse_name : FnScope ["text"] ["text"] (defScope s_parse_name) := ⟨rfl, rfl, rfl, by decide +kernel, rfl, by decide +kernel, by decide +kernel⟩
theorem d_parse_name {f : Addr} {fd : FuncData} (F : Fun K "parse_name" "parse_name" s_parse_name f fd) (T : Tx mg) (Z : Errs P w K mg base G) (O_scan_owner : Ok P w K mg base G 3 "scan_owner" ["text", "star"] m_scan_owner) : FnOk P w K mg base (L2.CX P w) 4 f fd ["text"] (spM K G 1 m_parse_name) :=
  fn_okT (N := ["text"]) (ps := ["text"]) (k := 3) (n := 1) (np := 1) (body := b_parse_name) rfl rfl F sc_parse_name fun cdv A outer s H E c => by
    exact (ss_one (s_ret (se_call c O_scan_owner (by decide) (by rfl) (sa_cons (se_var 0) (sa_cons se_bl sa_nil)))))
theorem sc_parse_owner : FnScope ["text"] ["text"] (defScope s_parse_owner) := ⟨rfl, rfl, rfl, by decide +kernel, rfl, by decide +kernel, by decide +kernel⟩
theorem d_parse_owner {f : Addr} {fd : FuncData} (F : Fun K "parse_owner" "parse_owner" s_parse_owner f fd) (T : Tx mg) (Z : Errs P w K mg base G) (O_scan_owner : Ok P w K mg base G 3 "scan_owner" ["text", "star"] m_scan_owner) : FnOk P w K mg base (L2.CX P w) 4 f fd ["text"] (spM K G 1 m_parse_owner) :=
  fn_okT (N := ["text"]) (ps := ["text"]) (k := 3) (n := 1) (np := 1) (body := b_parse_owner) rfl rfl F sc_parse_owner fun cdv A outer s H E c => by
    exact (ss_one (s_ret (se_call c O_scan_owner (by decide) (by rfl) (sa_cons (se_var 0) (sa_cons se_bl sa_nil)))))
theorem sc_format_owner : FnScope ["owner", "label"] ["owner"] (defScope s_format_owner) := ⟨rfl, rfl, rfl, by decide +kernel, rfl, by decide +kernel, by decide +kernel⟩
theorem d_format_owner {f : Addr} {fd : FuncData} (F : Fun K "format_owner" "format_owner" s_format_owner f fd) (T : Tx mg) (Z : Errs P w K mg base G) (O_check_owner : Ok P w K mg base G 4 "check_owner" ["owner"] m_check_owner) : FnOk P w K mg base (L2.CX P w) 5 f fd ["owner"] (spM K G 1 m_format_owner) :=
  fn_okT (N := ["owner", "label"]) (ps := ["owner"]) (k := 4) (n := 2) (np := 1) (body := b_format_owner) rfl rfl F sc_format_owner fun cdv A outer s H E c => by
    exact (ss_cons (s_expr (se_call c O_check_owner (by decide) (by rfl) (sa_cons (se_var 0) sa_nil)))
    (ss_cons (s_if (st_eq c.hu (se_var 0) (se_tup sa_nil)) (ss_one (s_ret se_str)) ss_nil)
    (ss_one (s_ret (se_join se_str (se_fz (se_lc (own := [("label", 1)]) (s := (gtName 1)) c.hc c.nd (pi_seqS (se_var 0)) io_seqS (blkOk_by (N := ["owner", "label"]) (sc := defScope s_format_owner) (by decide +kernel)) (fun _ _ _ _ _ => (pg_name (i := 1) c.nd rfl (by first | exact Or.inl rfl | exact Or.inr rfl))) (tgw_name (by decide)) (fun _ _ _ _ _ => pts_nil) yes_imp (fun _ _ _ _ _ => inBlkE c fun c => (se_add (se_var 1) se_str)))))))))
theorem sc__law_draw : FnScope ["src", "most", "cell", "digit"] ["src", "most"] (defScope s__law_draw) := ⟨rfl, rfl, rfl, by decide +kernel, rfl, by decide +kernel, by decide +kernel⟩
theorem d__law_draw {f : Addr} {fd : FuncData} (F : Fun K "_law_draw" "_law_draw" s__law_draw f fd) (T : Tx mg) (Z : Errs P w K mg base G)  : FnOk P w K mg base (L2.CX P w) 1 f fd ["src", "most"] (spM K G 2 m__law_draw) :=
  fn_okT (N := ["src", "most", "cell", "digit"]) (ps := ["src", "most"]) (k := 0) (n := 4) (np := 2) (body := b__law_draw) rfl rfl F sc__law_draw fun cdv A outer s H E c => by
    exact (ss_cons (s_if (st_w (sw_and (st_eq c.hu (se_ix (se_var 0) se_int) se_int) (sw_and1 (st_lt c.hu (se_ix (se_var 0) se_int) (se_callB call_lenAll im_len (by rfl) T.z_len bt_len (sa_cons (se_ix (se_var 0) se_int) sa_nil)))))) (ss_cons (s_set 2 c.nd (se_callB call_abs im_abs (by rfl) T.z_abs bt_abs (sa_cons (se_ix (se_ix (se_var 0) se_int) (se_ix (se_var 0) se_int)) sa_nil)))
    (ss_cons (s_setIx c.hu1 (se_var 0) se_int (se_add (se_ix (se_var 0) se_int) se_int))
    (ss_one (s_if (st_ge c.hu (se_var 2) (se_pow se_int se_int)) (ss_one (s_setIx c.hu1 (se_var 0) se_int (se_var 2))) (ss_one (s_setIx c.hu1 (se_var 0) se_int (se_mod (se_callTy call_int1 im_int (by rfl) T.z_int bt_int (sa_cons (se_add (se_add (se_mulA (se_ix (se_var 0) se_int) se_int) (se_mulA (se_var 2) se_int)) se_int) sa_nil)) se_int))))))) ss_nil)
    (ss_cons (s_if (st_gt c.hu (se_ix (se_var 0) se_int) se_int) (ss_cons (s_set 3 c.nd (se_mod (se_callTy call_int1 im_int (by rfl) T.z_int bt_int (sa_cons (se_ix (se_var 0) se_int) sa_nil)) (se_var 1)))
    (ss_cons (s_setIx c.hu1 (se_var 0) se_int (se_fdiv (se_ix (se_var 0) se_int) (se_var 1)))
    (ss_one (s_ret (se_var 3))))) ss_nil)
    (ss_cons (s_setIx c.hu1 (se_var 0) se_int (se_mod (se_callTy call_int1 im_int (by rfl) T.z_int bt_int (sa_cons (se_add (se_mulA (se_ix (se_var 0) se_int) se_int) se_int) sa_nil)) se_int))
    (ss_one (s_ret (se_mod (se_mod (se_callTy call_int1 im_int (by rfl) T.z_int bt_int (sa_cons (se_add (se_fdiv (se_mulA (se_ix (se_var 0) se_int) (se_ix (se_var 0) se_int)) se_int) (se_ix (se_var 0) se_int)) sa_nil)) se_int) (se_var 1)))))))
theorem sc__law_pick : FnScope ["src", "some"] ["src", "some"] (defScope s__law_pick) := ⟨rfl, rfl, rfl, by decide +kernel, rfl, by decide +kernel, by decide +kernel⟩
theorem d__law_pick {f : Addr} {fd : FuncData} (F : Fun K "_law_pick" "_law_pick" s__law_pick f fd) (T : Tx mg) (Z : Errs P w K mg base G) (O__law_draw : Ok P w K mg base G 1 "_law_draw" ["src", "most"] m__law_draw) : FnOk P w K mg base (L2.CX P w) 2 f fd ["src", "some"] (spM K G 2 m__law_pick) :=
  fn_okT (N := ["src", "some"]) (ps := ["src", "some"]) (k := 1) (n := 2) (np := 2) (body := b__law_pick) rfl rfl F sc__law_pick fun cdv A outer s H E c => by
    exact (ss_one (s_ret (se_ix (se_var 1) (se_call c O__law_draw (by decide) (by rfl) (sa_cons (se_var 0) (sa_cons (se_callB call_lenAll im_len (by rfl) T.z_len bt_len (sa_cons (se_var 1) sa_nil)) sa_nil))))))
theorem sc__law_same : FnScope ["told", "due", "k"] ["told", "due"] (defScope s__law_same) := ⟨rfl, rfl, rfl, by decide +kernel, rfl, by decide +kernel, by decide +kernel⟩
theorem d__law_same {f : Addr} {fd : FuncData} (F : Fun K "_law_same" "_law_same" s__law_same f fd) (T : Tx mg) (Z : Errs P w K mg base G)  (hm_ : mg "_law_same" = some (.ref f)) (hb_ : Binds K fd ["told", "due"] []) : ∀ n : Nat, FnOk P w K mg base (L2.CX P w) (1 + n) f fd ["told", "due"] (spM K G 2 (m__law_same n))
  | 0 => fn_bad rfl
  | n + 1 => by
    have O_self : Ok P w K mg base G (1 + n) "_law_same" ["told", "due"] (m__law_same n) := ⟨f, fd, hm_, F.kp, hb_, d__law_same F T Z  hm_ hb_ n⟩
    exact fn_okT (N := ["told", "due", "k"]) (ps := ["told", "due"]) (k := 1 + n) (n := 3) (np := 2) (body := b__law_same (m__law_same n)) rfl rfl F sc__law_same fun cdv A outer s H E c => by
      exact (ss_cons (s_if (st_w (sw_or (st_truth (se_isi .tuple (se_var 1) (se_ty (by rfl) T.z_tuple bt_tuple) (by rfl) T.z_isinstance)) (sw_or1 (st_truth (se_isi .list (se_var 1) (se_ty (by rfl) T.z_list bt_list) (by rfl) T.z_isinstance))))) (ss_cons (s_if (st_w (sw_or (st_ne c.hu (se_isi .tuple (se_var 0) (se_ty (by rfl) T.z_tuple bt_tuple) (by rfl) T.z_isinstance) (se_isi .tuple (se_var 1) (se_ty (by rfl) T.z_tuple bt_tuple) (by rfl) T.z_isinstance)) (sw_or1 (st_ne c.hu (se_isi .list (se_var 0) (se_ty (by rfl) T.z_list bt_list) (by rfl) T.z_isinstance) (se_isi .list (se_var 1) (se_ty (by rfl) T.z_list bt_list) (by rfl) T.z_isinstance))))) (ss_one (s_ret se_bl)) ss_nil)
    (ss_one (s_ret (se_and (se_eq c.hu (se_callB call_lenAll im_len (by rfl) T.z_len bt_len (sa_cons (se_var 0) sa_nil)) (se_callB call_lenAll im_len (by rfl) T.z_len bt_len (sa_cons (se_var 1) sa_nil))) (se_one (se_callB (cr_all c.hc) im_all (by rfl) T.z_all bt_all (sa_cons (se_fz (se_lc (own := [("k", 2)]) (s := (gtName 2)) c.hc c.nd (pi_range1 (by rfl) T.z_range (sa_cons (se_callB call_lenAll im_len (by rfl) T.z_len bt_len (sa_cons (se_var 1) sa_nil)) sa_nil)) io_rng1 (blkOk_by (N := ["told", "due", "k"]) (sc := defScope s__law_same) (by decide +kernel)) (fun _ _ _ _ _ => (pg_name (i := 2) c.nd rfl (by first | exact Or.inl rfl | exact Or.inr rfl))) (tgw_name (by decide)) (fun _ _ _ _ _ => pts_nil) yes_imp (fun _ _ _ _ _ => inBlkE c fun c => (se_call c O_self (Nat.le_refl _) (by rfl) (sa_cons (se_ix (se_var 0) (se_var 2)) (sa_cons (se_ix (se_var 1) (se_var 2)) sa_nil)))))) sa_nil))))))) ss_nil)
    (ss_cons (s_if (st_isN (se_var 1)) (ss_one (s_ret (se_isN (se_var 0)))) ss_nil)
    (ss_cons (s_if (st_w (sw_or (st_truth (se_isi .bool (se_var 1) (se_ty (by rfl) T.z_bool bt_bool) (by rfl) T.z_isinstance)) (sw_or1 (st_truth (se_isi .bool (se_var 0) (se_ty (by rfl) T.z_bool bt_bool) (by rfl) T.z_isinstance))))) (ss_one (s_ret (se_and (se_isi .bool (se_var 1) (se_ty (by rfl) T.z_bool bt_bool) (by rfl) T.z_isinstance) (se_and (se_isi .bool (se_var 0) (se_ty (by rfl) T.z_bool bt_bool) (by rfl) T.z_isinstance) (se_one (se_eq c.hu (se_var 0) (se_var 1))))))) ss_nil)
    (ss_cons (s_if (st_truth (se_isi .int (se_var 1) (se_ty (by rfl) T.z_int bt_int) (by rfl) T.z_isinstance)) (ss_one (s_ret (se_and (se_isi .int (se_var 0) (se_ty (by rfl) T.z_int bt_int) (by rfl) T.z_isinstance) (se_one (se_eq c.hu (se_var 0) (se_var 1)))))) ss_nil)
    (ss_one (s_ret (se_and (se_isi .str (se_var 1) (se_ty (by rfl) T.z_str bt_str) (by rfl) T.z_isinstance) (se_and (se_isi .str (se_var 0) (se_ty (by rfl) T.z_str bt_str) (by rfl) T.z_isinstance) (se_one (se_eq c.hu (se_var 0) (se_var 1)))))))))))
theorem sc__law_label : FnScope ["src", "signs", "pick", "size", "label", "k"] ["src"] (defScope s__law_label) := ⟨rfl, rfl, rfl, by decide +kernel, rfl, by decide +kernel, by decide +kernel⟩
theorem d__law_label {f : Addr} {fd : FuncData} (F : Fun K "_law_label" "_law_label" s__law_label f fd) (T : Tx mg) (Z : Errs P w K mg base G) (O__law_draw : Ok P w K mg base G 1 "_law_draw" ["src", "most"] m__law_draw) : FnOk P w K mg base (L2.CX P w) 2 f fd ["src"] (spM K G 1 m__law_label) :=
  fn_okT (N := ["src", "signs", "pick", "size", "label", "k"]) (ps := ["src"]) (k := 1) (n := 6) (np := 1) (body := b__law_label) rfl rfl F sc__law_label fun cdv A outer s H E c => by
    exact (ss_cons (s_set 1 c.nd se_str)
    (ss_cons (s_set 2 c.nd (se_call c O__law_draw (by decide) (by rfl) (sa_cons (se_var 0) (sa_cons se_int sa_nil))))
    (ss_cons (s_if (st_lt c.hu (se_var 2) se_int) (ss_one (s_ret (se_ix (se_lstF (sa_cons se_str (sa_cons se_str (sa_cons se_str (sa_cons se_str (sa_cons se_str (sa_cons se_str sa_nil))))))) (se_var 2)))) ss_nil)
    (ss_cons (s_set 3 c.nd (se_add se_int (se_call c O__law_draw (by decide) (by rfl) (sa_cons (se_var 0) (sa_cons (se_ix (se_lstF (sa_cons se_int (sa_cons se_int (sa_cons se_int sa_nil)))) (se_sub (se_var 2) se_int)) sa_nil)))))
    (ss_cons (s_set 4 c.nd se_str)
    (ss_cons (s_for c.po c.hc (pi_range1 (by rfl) T.z_range (sa_cons (se_var 3) sa_nil)) io_rng1 (pg_name (i := 5) c.nd rfl (by first | exact Or.inl rfl | exact Or.inr rfl)) tg_name (ss_one (s_set 4 c.nd (se_add (se_var 4) (se_ix (se_var 1) (se_call c O__law_draw (by decide) (by rfl) (sa_cons (se_var 0) (sa_cons (se_sub (se_callB call_lenAll im_len (by rfl) T.z_len bt_len (sa_cons (se_var 1) sa_nil)) (se_callTy call_int1 im_int (by rfl) T.z_int bt_int (sa_cons (se_or (se_eq c.hu (se_var 5) se_int) (se_one (se_eq c.hu (se_var 5) (se_sub (se_var 3) se_int)))) sa_nil))) sa_nil))))))))
    (ss_one (s_ret (se_var 4)))))))))
theorem sc__law_name : FnScope ["src", "base", "most", "name", "k"] ["src", "base", "most"] (defScope s__law_name) := ⟨rfl, rfl, rfl, by decide +kernel, rfl, by decide +kernel, by decide +kernel⟩
theorem d__law_name {f : Addr} {fd : FuncData} (F : Fun K "_law_name" "_law_name" s__law_name f fd) (T : Tx mg) (Z : Errs P w K mg base G) (O__law_draw : Ok P w K mg base G 1 "_law_draw" ["src", "most"] m__law_draw) (O__law_label : Ok P w K mg base G 2 "_law_label" ["src"] m__law_label) : FnOk P w K mg base (L2.CX P w) 3 f fd ["src", "base", "most"] (spM K G 3 m__law_name) :=
  fn_okT (N := ["src", "base", "most", "name", "k"]) (ps := ["src", "base", "most"]) (k := 2) (n := 5) (np := 3) (body := b__law_name) rfl rfl F sc__law_name fun cdv A outer s H E c => by
    exact (ss_cons (s_set 3 c.nd (se_var 1))
    (ss_cons (s_for c.po c.hc (pi_range1 (by rfl) T.z_range (sa_cons (se_call c O__law_draw (by decide) (by rfl) (sa_cons (se_var 0) (sa_cons (se_add (se_var 2) se_int) sa_nil))) sa_nil)) io_rng1 (pg_name (i := 4) c.nd rfl (by first | exact Or.inl rfl | exact Or.inr rfl)) tg_name (ss_one (s_if (st_lt c.hu (se_callB call_lenAll im_len (by rfl) T.z_len bt_len (sa_cons (se_var 3) sa_nil)) se_int) (ss_one (s_set 3 c.nd (se_add (se_tup (sa_cons (se_call c O__law_label (by decide) (by rfl) (sa_cons (se_var 0) sa_nil)) sa_nil)) (se_var 3)))) ss_nil)))
    (ss_one (s_ret (se_var 3)))))
theorem sc__law_owner : FnScope ["src", "base", "owner"] ["src", "base"] (defScope s__law_owner) := ⟨rfl, rfl, rfl, by decide +kernel, rfl, by decide +kernel, by decide +kernel⟩
theorem d__law_owner {f : Addr} {fd : FuncData} (F : Fun K "_law_owner" "_law_owner" s__law_owner f fd) (T : Tx mg) (Z : Errs P w K mg base G) (O__law_draw : Ok P w K mg base G 1 "_law_draw" ["src", "most"] m__law_draw) (O__law_name : Ok P w K mg base G 3 "_law_name" ["src", "base", "most"] m__law_name) : FnOk P w K mg base (L2.CX P w) 4 f fd ["src", "base"] (spM K G 2 m__law_owner) :=
  fn_okT (N := ["src", "base", "owner"]) (ps := ["src", "base"]) (k := 3) (n := 3) (np := 2) (body := b__law_owner) rfl rfl F sc__law_owner fun cdv A outer s H E c => by
    exact (ss_cons (s_set 2 c.nd (se_call c O__law_name (by decide) (by rfl) (sa_cons (se_var 0) (sa_cons (se_var 1) (sa_cons se_int sa_nil)))))
    (ss_cons (s_if (st_w (sw_and (st_lt c.hu (se_callB call_lenAll im_len (by rfl) T.z_len bt_len (sa_cons (se_var 2) sa_nil)) se_int) (sw_and1 (st_eq c.hu (se_call c O__law_draw (by decide) (by rfl) (sa_cons (se_var 0) (sa_cons se_int sa_nil))) se_int)))) (ss_one (s_ret (se_add (se_tup (sa_cons se_str sa_nil)) (se_var 2)))) ss_nil)
    (ss_one (s_ret (se_var 2)))))
theorem sc__law_is_name : FnScope ["value", "label", "sign"] ["value"] (defScope s__law_is_name) := ⟨rfl, rfl, rfl, by decide +kernel, rfl, by decide +kernel, by decide +kernel⟩
theorem d__law_is_name {f : Addr} {fd : FuncData} (F : Fun K "_law_is_name" "_law_is_name" s__law_is_name f fd) (T : Tx mg) (Z : Errs P w K mg base G)  : FnOk P w K mg base (L2.CX P w) 1 f fd ["value"] (spM K G 1 m__law_is_name) :=
  fn_okT (N := ["value", "label", "sign"]) (ps := ["value"]) (k := 0) (n := 3) (np := 1) (body := b__law_is_name) rfl rfl F sc__law_is_name fun cdv A outer s H E c => by
    exact (ss_cons (s_if (st_w (sw_or (st_not (st_truth (se_isi .tuple (se_var 0) (se_ty (by rfl) T.z_tuple bt_tuple) (by rfl) T.z_isinstance))) (sw_or1 (st_gt c.hu (se_callB call_lenAll im_len (by rfl) T.z_len bt_len (sa_cons (se_var 0) sa_nil)) se_int)))) (ss_one (s_ret se_bl)) ss_nil)
    (ss_cons (s_for c.po c.hc (pi_seqS (se_var 0)) io_seqS (pg_name (i := 1) c.nd rfl (by first | exact Or.inl rfl | exact Or.inr rfl)) tg_name (ss_cons (s_if (st_w (sw_or (st_not (st_truth (se_isi .str (se_var 1) (se_ty (by rfl) T.z_str bt_str) (by rfl) T.z_isinstance))) (sw_or (st_eq c.hu (se_var 1) se_str) (sw_or1 (st_gt c.hu (se_callB call_lenAll im_len (by rfl) T.z_len bt_len (sa_cons (se_var 1) sa_nil)) se_int))))) (ss_one (s_ret se_bl)) ss_nil)
    (ss_cons (s_if (st_not (st_truth (se_callB (cr_all c.hc) im_all (by rfl) T.z_all bt_all (sa_cons (se_fz (se_lc (own := [("sign", 2)]) (s := (gtName 2)) c.hc c.nd (pi_seqS (se_var 1)) io_seqS (blkOk_by (N := ["value", "label", "sign"]) (sc := defScope s__law_is_name) (by decide +kernel)) (fun _ _ _ _ _ => (pg_name (i := 2) c.nd rfl (by first | exact Or.inl rfl | exact Or.inr rfl))) (tgw_name (by decide)) (fun _ _ _ _ _ => pts_nil) yes_imp (fun _ _ _ _ _ => inBlkE c fun c => (se_in c.hu (se_var 2) se_str)))) sa_nil)))) (ss_one (s_ret se_bl)) ss_nil)
    (ss_one (s_if (st_w (sw_or (st_eq c.hu (se_ix (se_var 1) se_int) se_str) (sw_or1 (st_eq c.hu (se_ix (se_var 1) (se_neg se_int)) se_str)))) (ss_one (s_ret se_bl)) ss_nil)))))
    (ss_one (s_ret se_bl))))
theorem sc__law_is_owner : FnScope ["value"] ["value"] (defScope s__law_is_owner) := ⟨rfl, rfl, rfl, by decide +kernel, rfl, by decide +kernel, by decide +kernel⟩
theorem d__law_is_owner {f : Addr} {fd : FuncData} (F : Fun K "_law_is_owner" "_law_is_owner" s__law_is_owner f fd) (T : Tx mg) (Z : Errs P w K mg base G) (O__law_is_name : Ok P w K mg base G 1 "_law_is_name" ["value"] m__law_is_name) : FnOk P w K mg base (L2.CX P w) 2 f fd ["value"] (spM K G 1 m__law_is_owner) :=
  fn_okT (N := ["value"]) (ps := ["value"]) (k := 1) (n := 1) (np := 1) (body := b__law_is_owner) rfl rfl F sc__law_is_owner fun cdv A outer s H E c => by
    exact (ss_cons (s_if (st_w (sw_and (st_truth (se_isi .tuple (se_var 0) (se_ty (by rfl) T.z_tuple bt_tuple) (by rfl) T.z_isinstance)) (sw_and (st_gt c.hu (se_callB call_lenAll im_len (by rfl) T.z_len bt_len (sa_cons (se_var 0) sa_nil)) se_int) (sw_and (st_truth (se_isi .str (se_ix (se_var 0) se_int) (se_ty (by rfl) T.z_str bt_str) (by rfl) T.z_isinstance)) (sw_and1 (st_eq c.hu (se_ix (se_var 0) se_int) se_str)))))) (ss_one (s_ret (se_and (se_le c.hu (se_callB call_lenAll im_len (by rfl) T.z_len bt_len (sa_cons (se_var 0) sa_nil)) se_int) (se_one (se_call c O__law_is_name (by decide) (by rfl) (sa_cons (se_slF (se_var 0) (so_some se_int) so_none) sa_nil)))))) ss_nil)
    (ss_one (s_ret (se_call c O__law_is_name (by decide) (by rfl) (sa_cons (se_var 0) sa_nil)))))
theorem sc__law_scan : FnScope ["text", "star", "parts", "labels", "at", "j", "part", "last", "k"] ["text", "star"] (defScope s__law_scan) := ⟨rfl, rfl, rfl, by decide +kernel, rfl, by decide +kernel, by decide +kernel⟩
theorem d__law_scan {f : Addr} {fd : FuncData} (F : Fun K "_law_scan" "_law_scan" s__law_scan f fd) (T : Tx mg) (Z : Errs P w K mg base G)  : FnOk P w K mg base (L2.CX P w) 1 f fd ["text", "star"] (spM K G 2 m__law_scan) :=
  fn_okT (N := ["text", "star", "parts", "labels", "at", "j", "part", "last", "k"]) (ps := ["text", "star"]) (k := 0) (n := 9) (np := 2) (body := b__law_scan) rfl rfl F sc__law_scan fun cdv A outer s H E c => by
    exact (ss_cons (s_if (st_eq c.hu (se_var 0) se_str) (ss_one (s_ret (se_lstF (sa_cons se_bl (sa_cons (se_tup sa_nil) sa_nil))))) ss_nil)
    (ss_cons (s_set 2 c.nd (se_splitF (se_var 0) se_str))
    (ss_cons (s_set 3 c.nd (se_lst sa_nil))
    (ss_cons (s_set 4 c.nd se_int)
    (ss_cons (s_for c.po c.hc (pi_range1 (by rfl) T.z_range (sa_cons (se_callB call_lenAll im_len (by rfl) T.z_len bt_len (sa_cons (se_var 2) sa_nil)) sa_nil)) io_rng1 (pg_name (i := 5) c.nd rfl (by first | exact Or.inl rfl | exact Or.inr rfl)) tg_name (ss_cons (s_set 6 c.nd (se_ix (se_var 2) (se_var 5)))
    (ss_cons (s_set 7 c.nd (se_eq c.hu (se_var 5) (se_sub (se_callB call_lenAll im_len (by rfl) T.z_len bt_len (sa_cons (se_var 2) sa_nil)) se_int)))
    (ss_cons (s_if (st_w (sw_and (st_eq c.hu (se_var 5) se_int) (sw_and (st_truth (se_var 1)) (sw_and1 (st_eq c.hu (se_slF (se_var 6) so_none (so_some se_int)) se_str))))) (ss_one (s_if (st_w (sw_or (st_ne c.hu (se_var 6) se_str) (sw_or1 (st_truth (se_var 7))))) (ss_one (s_ret (se_lstF (sa_cons se_bl (sa_cons se_int sa_nil))))) ss_nil)) (ss_cons (s_for c.po c.hc (pi_range1 (by rfl) T.z_range (sa_cons (se_callB call_lenAll im_len (by rfl) T.z_len bt_len (sa_cons (se_var 6) sa_nil)) sa_nil)) io_rng1 (pg_name (i := 8) c.nd rfl (by first | exact Or.inl rfl | exact Or.inr rfl)) tg_name (ss_cons (s_if (st_w (sw_or (st_nin c.hu (se_ix (se_var 6) (se_var 8)) se_str) (sw_or1 (st_eq c.hu (se_var 8) se_int)))) (ss_one (s_ret (se_lstF (sa_cons se_bl (sa_cons (se_add (se_var 4) (se_var 8)) sa_nil))))) ss_nil)
    (ss_one (s_if (st_w (sw_and (st_eq c.hu (se_var 8) se_int) (sw_and1 (st_w (sw_or (st_eq c.hu (se_ix (se_var 6) (se_var 8)) se_str) (sw_or1 (st_eq c.hu (se_callB call_lenAll im_len (by rfl) T.z_len bt_len (sa_cons (se_var 3) sa_nil)) se_int))))))) (ss_one (s_ret (se_lstF (sa_cons se_bl (sa_cons (se_var 4) sa_nil))))) ss_nil))))
    (ss_cons (s_if (st_w (sw_and (st_truth (se_var 7)) (sw_and1 (st_w (sw_or (st_ne c.hu (se_var 6) se_str) (sw_or1 (st_eq c.hu (se_var 0) se_str))))))) (ss_one (s_ret (se_lstF (sa_cons se_bl (sa_cons (se_callB call_lenAll im_len (by rfl) T.z_len bt_len (sa_cons (se_var 0) sa_nil)) sa_nil))))) ss_nil)
    (ss_cons (s_if (st_w (sw_and (st_not (st_truth (se_var 7))) (sw_and1 (st_eq c.hu (se_var 6) se_str)))) (ss_one (s_ret (se_lstF (sa_cons se_bl (sa_cons (se_var 4) sa_nil))))) ss_nil)
    (ss_one (s_if (st_w (sw_and (st_not (st_truth (se_var 7))) (sw_and1 (st_eq c.hu (se_ix (se_var 6) (se_neg se_int)) se_str)))) (ss_one (s_ret (se_lstF (sa_cons se_bl (sa_cons (se_sub (se_add (se_var 4) (se_callB call_lenAll im_len (by rfl) T.z_len bt_len (sa_cons (se_var 6) sa_nil))) se_int) sa_nil))))) ss_nil))))))
    (ss_one (s_if (st_not (st_truth (se_var 7))) (ss_cons (s_expr (se_append (se_var 3) (sa_cons (se_var 6) sa_nil)))
    (ss_one (s_set 4 c.nd (se_add (se_add (se_var 4) (se_callB call_lenAll im_len (by rfl) T.z_len bt_len (sa_cons (se_var 6) sa_nil))) se_int)))) ss_nil))))))
    (ss_one (s_ret (se_lstF (sa_cons se_bl (sa_cons (se_callTy call_tuple_of im_tuple (by rfl) T.z_tuple bt_tuple (sa_cons (se_var 3) sa_nil)) sa_nil))))))))))
theorem sc__law_sign : FnScope ["src", "signs"] ["src"] (defScope s__law_sign) := ⟨rfl, rfl, rfl, by decide +kernel, rfl, by decide +kernel, by decide +kernel⟩
theorem d__law_sign {f : Addr} {fd : FuncData} (F : Fun K "_law_sign" "_law_sign" s__law_sign f fd) (T : Tx mg) (Z : Errs P w K mg base G) (O__law_draw : Ok P w K mg base G 1 "_law_draw" ["src", "most"] m__law_draw) (O__law_pick : Ok P w K mg base G 2 "_law_pick" ["src", "some"] m__law_pick) : FnOk P w K mg base (L2.CX P w) 3 f fd ["src"] (spM K G 1 m__law_sign) :=
  fn_okT (N := ["src", "signs"]) (ps := ["src"]) (k := 2) (n := 2) (np := 1) (body := b__law_sign) rfl rfl F sc__law_sign fun cdv A outer s H E c => by
    exact (ss_cons (s_if (st_lt c.hu (se_call c O__law_draw (by decide) (by rfl) (sa_cons (se_var 0) (sa_cons se_int sa_nil))) se_int) (ss_one (s_ret (se_call c O__law_pick (by decide) (by rfl) (sa_cons (se_var 0) (sa_cons se_str sa_nil))))) ss_nil)
    (ss_cons (s_set 1 c.nd se_str)
    (ss_one (s_ret (se_call c O__law_pick (by decide) (by rfl) (sa_cons (se_var 0) (sa_cons (se_var 1) sa_nil)))))))
theorem sc__law_edit : FnScope ["src", "text", "at", "way"] ["src", "text"] (defScope s__law_edit) := ⟨rfl, rfl, rfl, by decide +kernel, rfl, by decide +kernel, by decide +kernel⟩
theorem d__law_edit {f : Addr} {fd : FuncData} (F : Fun K "_law_edit" "_law_edit" s__law_edit f fd) (T : Tx mg) (Z : Errs P w K mg base G) (O__law_draw : Ok P w K mg base G 1 "_law_draw" ["src", "most"] m__law_draw) (O__law_sign : Ok P w K mg base G 3 "_law_sign" ["src"] m__law_sign) : FnOk P w K mg base (L2.CX P w) 4 f fd ["src", "text"] (spM K G 2 m__law_edit) :=
  fn_okT (N := ["src", "text", "at", "way"]) (ps := ["src", "text"]) (k := 3) (n := 4) (np := 2) (body := b__law_edit) rfl rfl F sc__law_edit fun cdv A outer s H E c => by
    exact (ss_cons (s_set 2 c.nd (se_call c O__law_draw (by decide) (by rfl) (sa_cons (se_var 0) (sa_cons (se_add (se_callB call_lenAll im_len (by rfl) T.z_len bt_len (sa_cons (se_var 1) sa_nil)) se_int) sa_nil))))
    (ss_cons (s_set 3 c.nd (se_call c O__law_draw (by decide) (by rfl) (sa_cons (se_var 0) (sa_cons se_int sa_nil))))
    (ss_cons (s_if (st_eq c.hu (se_var 3) se_int) (ss_one (s_ret (se_addF (se_slF (se_var 1) so_none (so_some (se_var 2))) (se_slF (se_var 1) (so_some (se_add (se_var 2) se_int)) so_none)))) ss_nil)
    (ss_cons (s_if (st_eq c.hu (se_var 3) se_int) (ss_one (s_ret (se_addF (se_addF (se_slF (se_var 1) so_none (so_some (se_var 2))) (se_call c O__law_sign (by decide) (by rfl) (sa_cons (se_var 0) sa_nil))) (se_slF (se_var 1) (so_some (se_var 2)) so_none)))) ss_nil)
    (ss_cons (s_if (st_eq c.hu (se_var 3) se_int) (ss_one (s_ret (se_add (se_add (se_slF (se_var 1) so_none (so_some (se_var 2))) (se_mulA (se_slF (se_slF (se_var 1) (so_some (se_var 2)) so_none) so_none (so_some se_int)) (se_add se_int (se_call c O__law_draw (by decide) (by rfl) (sa_cons (se_var 0) (sa_cons se_int sa_nil)))))) (se_slF (se_var 1) (so_some (se_var 2)) so_none)))) ss_nil)
    (ss_one (s_ret (se_addF (se_addF (se_slF (se_var 1) so_none (so_some (se_var 2))) (se_call c O__law_sign (by decide) (by rfl) (sa_cons (se_var 0) sa_nil))) (se_slF (se_var 1) (so_some (se_add (se_var 2) se_int)) so_none)))))))))
theorem sc__law_wrong_name : FnScope ["src", "long", "some"] ["src"] (defScope s__law_wrong_name) := ⟨rfl, rfl, rfl, by decide +kernel, rfl, by decide +kernel, by decide +kernel⟩
theorem d__law_wrong_name {f : Addr} {fd : FuncData} (F : Fun K "_law_wrong_name" "_law_wrong_name" s__law_wrong_name f fd) (T : Tx mg) (Z : Errs P w K mg base G) (O__law_pick : Ok P w K mg base G 2 "_law_pick" ["src", "some"] m__law_pick) : FnOk P w K mg base (L2.CX P w) 3 f fd ["src"] (spM K G 1 m__law_wrong_name) :=
  fn_okT (N := ["src", "long", "some"]) (ps := ["src"]) (k := 2) (n := 3) (np := 1) (body := b__law_wrong_name) rfl rfl F sc__law_wrong_name fun cdv A outer s H E c => by
    exact (ss_cons (s_set 1 c.nd (se_tup (sa_cons se_str (sa_cons se_str (sa_cons se_str (sa_cons se_str (sa_cons se_str (sa_cons se_str (sa_cons se_str sa_nil)))))))))
    (ss_cons (s_set 2 c.nd (se_lstF (sa_cons (se_var 1) (sa_cons (se_sl (se_var 1) (so_some se_int) so_none) (sa_cons (se_add (se_tup (sa_cons se_str sa_nil)) (se_sl (se_var 1) (so_some se_int) so_none)) (sa_cons (se_add (se_tup (sa_cons se_str sa_nil)) (se_sl (se_var 1) (so_some se_int) so_none)) (sa_cons (se_tup (sa_cons se_str sa_nil)) (sa_cons (se_tup (sa_cons se_str (sa_cons se_str sa_nil))) (sa_cons (se_tup (sa_cons se_str sa_nil)) (sa_cons (se_tup (sa_cons se_str (sa_cons se_str sa_nil))) sa_nil))))))))))
    (ss_cons (s_set 2 c.nd (se_addF (se_var 2) (se_lstF (sa_cons (se_tup (sa_cons se_str sa_nil)) (sa_cons (se_tup (sa_cons se_str sa_nil)) (sa_cons (se_tup (sa_cons se_str sa_nil)) (sa_cons (se_tup (sa_cons se_str (sa_cons se_int sa_nil))) (sa_cons (se_tup (sa_cons se_str sa_nil)) (sa_cons (se_tup (sa_cons se_str (sa_cons se_str sa_nil))) (sa_cons (se_tup (sa_cons se_str (sa_cons se_str sa_nil))) (sa_cons (se_tup (sa_cons se_str (sa_cons se_str sa_nil))) (sa_cons (se_tup (sa_cons se_str sa_nil)) (sa_cons (se_lstF (sa_cons se_str sa_nil)) (sa_cons (se_lstF sa_nil) sa_nil))))))))))))))
    (ss_cons (s_set 2 c.nd (se_addF (se_var 2) (se_lstF (sa_cons se_non (sa_cons se_str (sa_cons se_str (sa_cons se_str (sa_cons se_str (sa_cons se_int (sa_cons se_bl (sa_cons (se_tup (sa_cons se_str (sa_cons se_non sa_nil))) (sa_cons (se_tup (sa_cons (se_tup (sa_cons se_str sa_nil)) sa_nil)) (sa_cons (se_tup (sa_cons se_str sa_nil)) (sa_cons (se_tup (sa_cons se_str sa_nil)) (sa_cons (se_tup (sa_cons se_bl sa_nil)) (sa_cons (se_tup (sa_cons se_non (sa_cons se_str sa_nil))) sa_nil))))))))))))))))
    (ss_one (s_ret (se_call c O__law_pick (by decide) (by rfl) (sa_cons (se_var 0) (sa_cons (se_var 2) sa_nil)))))))))
theorem sc__law_text : FnScope ["src", "text", "k"] ["src"] (defScope s__law_text) := ⟨rfl, rfl, rfl, by decide +kernel, rfl, by decide +kernel, by decide +kernel⟩
theorem d__law_text {f : Addr} {fd : FuncData} (F : Fun K "_law_text" "_law_text" s__law_text f fd) (T : Tx mg) (Z : Errs P w K mg base G) (O__law_draw : Ok P w K mg base G 1 "_law_draw" ["src", "most"] m__law_draw) (O__law_pick : Ok P w K mg base G 2 "_law_pick" ["src", "some"] m__law_pick) (O__law_label : Ok P w K mg base G 2 "_law_label" ["src"] m__law_label) (O__law_edit : Ok P w K mg base G 4 "_law_edit" ["src", "text"] m__law_edit) : FnOk P w K mg base (L2.CX P w) 5 f fd ["src"] (spM K G 1 m__law_text) :=
  fn_okT (N := ["src", "text", "k"]) (ps := ["src"]) (k := 4) (n := 3) (np := 1) (body := b__law_text) rfl rfl F sc__law_text fun cdv A outer s H E c => by
    exact (ss_cons (s_if (st_eq c.hu (se_call c O__law_draw (by decide) (by rfl) (sa_cons (se_var 0) (sa_cons se_int sa_nil))) se_int) (ss_one (s_ret (se_call c O__law_pick (by decide) (by rfl) (sa_cons (se_var 0) (sa_cons (se_lstF (sa_cons se_str (sa_cons se_str (sa_cons se_str (sa_cons se_str (sa_cons se_str (sa_cons se_str (sa_cons se_str (sa_cons se_str (sa_cons se_str (sa_cons se_str sa_nil))))))))))) sa_nil))))) ss_nil)
    (ss_cons (s_set 1 c.nd (se_join se_str (se_fz (se_lc (own := [("k", 2)]) (s := (gtName 2)) c.hc c.nd (pi_range1 (by rfl) T.z_range (sa_cons (se_call c O__law_draw (by decide) (by rfl) (sa_cons (se_var 0) (sa_cons se_int sa_nil))) sa_nil)) io_rng1 (blkOk_by (N := ["src", "text", "k"]) (sc := defScope s__law_text) (by decide +kernel)) (fun _ _ _ _ _ => (pg_name (i := 2) c.nd rfl (by first | exact Or.inl rfl | exact Or.inr rfl))) (tgw_name (by decide)) (fun _ _ _ _ _ => pts_nil) yes_imp (fun _ _ _ _ _ => inBlkE c fun c => (se_add (se_call c O__law_label (by decide) (by rfl) (sa_cons (se_var 0) sa_nil)) se_str))))))
    (ss_cons (s_if (st_eq c.hu (se_call c O__law_draw (by decide) (by rfl) (sa_cons (se_var 0) (sa_cons se_int sa_nil))) se_int) (ss_one (s_set 1 c.nd (se_add se_str (se_var 1)))) ss_nil)
    (ss_cons (s_if (st_eq c.hu (se_call c O__law_draw (by decide) (by rfl) (sa_cons (se_var 0) (sa_cons se_int sa_nil))) se_int) (ss_one (s_set 1 c.nd (se_slF (se_var 1) so_none (so_some (se_neg se_int))))) ss_nil)
    (ss_cons (s_for c.po c.hc (pi_range1 (by rfl) T.z_range (sa_cons (se_call c O__law_draw (by decide) (by rfl) (sa_cons (se_var 0) (sa_cons se_int sa_nil))) sa_nil)) io_rng1 (pg_name (i := 2) c.nd rfl (by first | exact Or.inl rfl | exact Or.inr rfl)) tg_name (ss_one (s_set 1 c.nd (se_call c O__law_edit (by decide) (by rfl) (sa_cons (se_var 0) (sa_cons (se_var 1) sa_nil))))))
    (ss_one (s_ret (se_var 1))))))))
theorem sc__law_outcome : FnScope ["which", "value", "e"] ["which", "value"] (defScope s__law_outcome) := ⟨rfl, rfl, rfl, by decide +kernel, rfl, by decide +kernel, by decide +kernel⟩
theorem d__law_outcome {f : Addr} {fd : FuncData} (F : Fun K "_law_outcome" "_law_outcome" s__law_outcome f fd) (T : Tx mg) (Z : Errs P w K mg base G) (O_parse_name : Ok P w K mg base G 4 "parse_name" ["text"] m_parse_name) (O_parse_owner : Ok P w K mg base G 4 "parse_owner" ["text"] m_parse_owner) (O_format_owner : Ok P w K mg base G 5 "format_owner" ["owner"] m_format_owner) : FnOk P w K mg base (L2.CX P w) 6 f fd ["which", "value"] (spM K G 2 m__law_outcome) :=
  fn_okT (N := ["which", "value", "e"]) (ps := ["which", "value"]) (k := 5) (n := 3) (np := 2) (body := b__law_outcome) rfl rfl F sc__law_outcome fun cdv A outer s H E c => by
    exact (ss_one (s_tryX (c := 0) (i := 2) (mt := mtab 0) c rfl rfl rfl rfl ⟨rfl, by decide, .inl Z.m_BadName⟩ (Z.M 0) (mtab_one 0) (fun W pn xe c => (ss_cons (s_if (st_eq c.hu (se_var 0) se_int) (ss_one (s_ret (se_lstF (sa_cons se_str (sa_cons (se_call c O_parse_name (by decide) (by rfl) (sa_cons (se_var 1) sa_nil)) sa_nil))))) ss_nil)
    (ss_cons (s_if (st_eq c.hu (se_var 0) se_int) (ss_one (s_ret (se_lstF (sa_cons se_str (sa_cons (se_call c O_parse_owner (by decide) (by rfl) (sa_cons (se_var 1) sa_nil)) sa_nil))))) ss_nil)
    (ss_one (s_ret (se_lstF (sa_cons se_str (sa_cons (se_call c O_format_owner (by decide) (by rfl) (sa_cons (se_var 1) sa_nil)) sa_nil)))))))) (fun a oe cls d pn hz hfl hcls => (xe_lstF (xa_cons (xe_of se_str) (xa_cons (xe_tup (xa_cons (xe_fld (G := G) (C := ⟨2, a, d, 0⟩) (k := 0) Z.X_BadName Z.F_BadName_value hcls hz hfl rfl (Or.inl rfl) (by rw [Z.N_BadName]; rfl)) (xa_cons (xe_fld (G := G) (C := ⟨2, a, d, 0⟩) (k := 1) Z.X_BadName Z.F_BadName_place hcls hz hfl rfl (Or.inl rfl) (by rw [Z.N_BadName]; rfl)) xa_nil))) xa_nil))))))
theorem sc__law_is_read : FnScope ["text", "which", "scanned", "due"] ["text"] (defScope s__law_is_read) := ⟨rfl, rfl, rfl, by decide +kernel, rfl, by decide +kernel, by decide +kernel⟩
theorem d__law_is_read {f : Addr} {fd : FuncData} (F : Fun K "_law_is_read" "_law_is_read" s__law_is_read f fd) (T : Tx mg) (Z : Errs P w K mg base G) (O__law_same : Ok P w K mg base G 13 "_law_same" ["told", "due"] (m__law_same 12)) (O__law_scan : Ok P w K mg base G 1 "_law_scan" ["text", "star"] m__law_scan) (O__law_outcome : Ok P w K mg base G 6 "_law_outcome" ["which", "value"] m__law_outcome) : FnOk P w K mg base (L2.CX P w) 14 f fd ["text"] (spM K G 1 m__law_is_read) :=
  fn_okT (N := ["text", "which", "scanned", "due"]) (ps := ["text"]) (k := 13) (n := 4) (np := 1) (body := b__law_is_read) rfl rfl F sc__law_is_read fun cdv A outer s H E c => by
    exact (ss_cons (s_for c.po c.hc (pi_range1 (by rfl) T.z_range (sa_cons se_int sa_nil)) io_rng1 (pg_name (i := 1) c.nd rfl (by first | exact Or.inl rfl | exact Or.inr rfl)) tg_name (ss_cons (s_set 2 c.nd (se_call c O__law_scan (by decide) (by rfl) (sa_cons (se_var 0) (sa_cons (se_eq c.hu (se_var 1) se_int) sa_nil))))
    (ss_cons (s_set 3 c.nd (se_lstF (sa_cons se_str (sa_cons (se_tup (sa_cons (se_var 0) (sa_cons (se_ix (se_var 2) se_int) sa_nil))) sa_nil))))
    (ss_cons (s_if (st_truth (se_ix (se_var 2) se_int)) (ss_cons (s_set 3 c.nd (se_lstF (sa_cons se_str (sa_cons (se_ix (se_var 2) se_int) sa_nil))))
    (ss_one (s_if (st_not (st_truth (se_call c O__law_same (by decide) (by rfl) (sa_cons (se_call c O__law_outcome (by decide) (by rfl) (sa_cons se_int (sa_cons (se_ix (se_var 2) se_int) sa_nil))) (sa_cons (se_lstF (sa_cons se_str (sa_cons (se_var 0) sa_nil))) sa_nil))))) (ss_one (s_ret se_bl)) ss_nil))) ss_nil)
    (ss_one (s_if (st_not (st_truth (se_call c O__law_same (by decide) (by rfl) (sa_cons (se_call c O__law_outcome (by decide) (by rfl) (sa_cons (se_var 1) (sa_cons (se_var 0) sa_nil))) (sa_cons (se_var 3) sa_nil))))) (ss_one (s_ret se_bl)) ss_nil))))))
    (ss_one (s_ret se_bl)))
theorem sc__law_is_judged : FnScope ["value", "text", "label"] ["value"] (defScope s__law_is_judged) := ⟨rfl, rfl, rfl, by decide +kernel, rfl, by decide +kernel, by decide +kernel⟩
theorem d__law_is_judged {f : Addr} {fd : FuncData} (F : Fun K "_law_is_judged" "_law_is_judged" s__law_is_judged f fd) (T : Tx mg) (Z : Errs P w K mg base G) (O_is_name : Ok P w K mg base G 2 "is_name" ["value"] m_is_name) (O_is_owner : Ok P w K mg base G 3 "is_owner" ["value"] m_is_owner) (O__law_same : Ok P w K mg base G 13 "_law_same" ["told", "due"] (m__law_same 12)) (O__law_is_name : Ok P w K mg base G 1 "_law_is_name" ["value"] m__law_is_name) (O__law_is_owner : Ok P w K mg base G 2 "_law_is_owner" ["value"] m__law_is_owner) (O__law_outcome : Ok P w K mg base G 6 "_law_outcome" ["which", "value"] m__law_outcome) : FnOk P w K mg base (L2.CX P w) 14 f fd ["value"] (spM K G 1 m__law_is_judged) :=
  fn_okT (N := ["value", "text", "label"]) (ps := ["value"]) (k := 13) (n := 3) (np := 1) (body := b__law_is_judged) rfl rfl F sc__law_is_judged fun cdv A outer s H E c => by
    exact (ss_cons (s_if (st_w (sw_or (st_not (st_truth (se_call c O__law_same (by decide) (by rfl) (sa_cons (se_call c O_is_name (by decide) (by rfl) (sa_cons (se_var 0) sa_nil)) (sa_cons (se_call c O__law_is_name (by decide) (by rfl) (sa_cons (se_var 0) sa_nil)) sa_nil))))) (sw_or1 (st_not (st_truth (se_call c O__law_same (by decide) (by rfl) (sa_cons (se_call c O_is_owner (by decide) (by rfl) (sa_cons (se_var 0) sa_nil)) (sa_cons (se_call c O__law_is_owner (by decide) (by rfl) (sa_cons (se_var 0) sa_nil)) sa_nil)))))))) (ss_one (s_ret se_bl)) ss_nil)
    (ss_cons (s_if (st_not (st_truth (se_call c O__law_is_owner (by decide) (by rfl) (sa_cons (se_var 0) sa_nil)))) (ss_one (s_ret (se_call c O__law_same (by decide) (by rfl) (sa_cons (se_call c O__law_outcome (by decide) (by rfl) (sa_cons se_int (sa_cons (se_var 0) sa_nil))) (sa_cons (se_lstF (sa_cons se_str (sa_cons (se_tup (sa_cons (se_var 0) (sa_cons se_int sa_nil))) sa_nil))) sa_nil))))) ss_nil)
    (ss_cons (s_set 1 c.nd se_str)
    (ss_cons (s_if (st_ne c.hu (se_var 0) (se_tup sa_nil)) (ss_one (s_set 1 c.nd (se_join se_str (se_fz (se_lc (own := [("label", 2)]) (s := (gtName 2)) c.hc c.nd (pi_seqS (se_var 0)) io_seqS (blkOk_by (N := ["value", "text", "label"]) (sc := defScope s__law_is_judged) (by decide +kernel)) (fun _ _ _ _ _ => (pg_name (i := 2) c.nd rfl (by first | exact Or.inl rfl | exact Or.inr rfl))) (tgw_name (by decide)) (fun _ _ _ _ _ => pts_nil) yes_imp (fun _ _ _ _ _ => inBlkE c fun c => (se_add (se_var 2) se_str))))))) ss_nil)
    (ss_cons (s_if (st_w (sw_and (st_truth (se_call c O__law_is_name (by decide) (by rfl) (sa_cons (se_var 0) sa_nil))) (sw_and1 (st_not (st_truth (se_call c O__law_same (by decide) (by rfl) (sa_cons (se_call c O__law_outcome (by decide) (by rfl) (sa_cons se_int (sa_cons (se_var 1) sa_nil))) (sa_cons (se_lstF (sa_cons se_str (sa_cons (se_var 0) sa_nil))) sa_nil)))))))) (ss_one (s_ret se_bl)) ss_nil)
    (ss_one (s_ret (se_and (se_call c O__law_same (by decide) (by rfl) (sa_cons (se_call c O__law_outcome (by decide) (by rfl) (sa_cons se_int (sa_cons (se_var 0) sa_nil))) (sa_cons (se_lstF (sa_cons se_str (sa_cons (se_var 1) sa_nil))) sa_nil))) (se_one (se_call c O__law_same (by decide) (by rfl) (sa_cons (se_call c O__law_outcome (by decide) (by rfl) (sa_cons se_int (sa_cons (se_var 1) sa_nil))) (sa_cons (se_lstF (sa_cons se_str (sa_cons (se_var 0) sa_nil))) sa_nil))))))))))))
theorem sc__law_some_label : FnScope ["src", "label", "wrong", "way"] ["src"] (defScope s__law_some_label) := ⟨rfl, rfl, rfl, by decide +kernel, rfl, by decide +kernel, by decide +kernel⟩
theorem d__law_some_label {f : Addr} {fd : FuncData} (F : Fun K "_law_some_label" "_law_some_label" s__law_some_label f fd) (T : Tx mg) (Z : Errs P w K mg base G) (O__law_draw : Ok P w K mg base G 1 "_law_draw" ["src", "most"] m__law_draw) (O__law_pick : Ok P w K mg base G 2 "_law_pick" ["src", "some"] m__law_pick) (O__law_label : Ok P w K mg base G 2 "_law_label" ["src"] m__law_label) : FnOk P w K mg base (L2.CX P w) 3 f fd ["src"] (spM K G 1 m__law_some_label) :=
  fn_okT (N := ["src", "label", "wrong", "way"]) (ps := ["src"]) (k := 2) (n := 4) (np := 1) (body := b__law_some_label) rfl rfl F sc__law_some_label fun cdv A outer s H E c => by
    exact (ss_cons (s_set 1 c.nd (se_call c O__law_label (by decide) (by rfl) (sa_cons (se_var 0) sa_nil)))
    (ss_cons (s_set 2 c.nd (se_lstF (sa_cons se_str (sa_cons se_str (sa_cons se_str (sa_cons se_str (sa_cons se_str (sa_cons se_str (sa_cons se_str (sa_cons se_str (sa_cons se_str (sa_cons se_int (sa_cons se_bl (sa_cons se_non (sa_cons (se_tup (sa_cons se_str sa_nil)) (sa_cons (se_lstF (sa_cons se_str sa_nil)) (sa_cons se_str (sa_cons se_str (sa_cons (se_tup sa_nil) sa_nil)))))))))))))))))))
    (ss_cons (s_set 3 c.nd (se_call c O__law_draw (by decide) (by rfl) (sa_cons (se_var 0) (sa_cons se_int sa_nil))))
    (ss_cons (s_if (st_eq c.hu (se_var 3) se_int) (ss_one (s_ret (se_var 1))) ss_nil)
    (ss_cons (s_if (st_eq c.hu (se_var 3) se_int) (ss_one (s_ret (se_sl (se_mulA (se_var 1) se_int) so_none (so_some (se_add se_int (se_call c O__law_draw (by decide) (by rfl) (sa_cons (se_var 0) (sa_cons se_int sa_nil)))))))) ss_nil)
    (ss_one (s_ret (se_call c O__law_pick (by decide) (by rfl) (sa_cons (se_var 0) (sa_cons (se_var 2) sa_nil))))))))))
theorem sc_law : FnScope ["script", "src", "text", "value", "label", "other", "refusal"] ["script"] (defScope s_law) := ⟨rfl, rfl, rfl, by decide +kernel, rfl, by decide +kernel, by decide +kernel⟩
theorem d_law {f : Addr} {fd : FuncData} (F : Fun K "law" "law" s_law f fd) (T : Tx mg) (Z : Errs P w K mg base G) (O_is_label : Ok P w K mg base G 1 "is_label" ["value"] m_is_label) (O__law_draw : Ok P w K mg base G 1 "_law_draw" ["src", "most"] m__law_draw) (O__law_pick : Ok P w K mg base G 2 "_law_pick" ["src", "some"] m__law_pick) (O__law_same : Ok P w K mg base G 13 "_law_same" ["told", "due"] (m__law_same 12)) (O__law_name : Ok P w K mg base G 3 "_law_name" ["src", "base", "most"] m__law_name) (O__law_owner : Ok P w K mg base G 4 "_law_owner" ["src", "base"] m__law_owner) (O__law_is_name : Ok P w K mg base G 1 "_law_is_name" ["value"] m__law_is_name) (O__law_wrong_name : Ok P w K mg base G 3 "_law_wrong_name" ["src"] m__law_wrong_name) (O__law_text : Ok P w K mg base G 5 "_law_text" ["src"] m__law_text) (O__law_outcome : Ok P w K mg base G 6 "_law_outcome" ["which", "value"] m__law_outcome) (O__law_is_read : Ok P w K mg base G 14 "_law_is_read" ["text"] m__law_is_read) (O__law_is_judged : Ok P w K mg base G 14 "_law_is_judged" ["value"] m__law_is_judged) (O__law_some_label : Ok P w K mg base G 3 "_law_some_label" ["src"] m__law_some_label) : FnOk P w K mg base (L2.CX P w) 15 f fd ["script"] (spM K G 1 m_law) :=
  fn_okT (N := ["script", "src", "text", "value", "label", "other", "refusal"]) (ps := ["script"]) (k := 14) (n := 7) (np := 1) (body := b_law) rfl rfl F sc_law fun cdv A outer s H E c => by
    exact (ss_cons (s_set 1 c.nd (se_lst (sa_cons (se_var 0) (sa_cons se_int (sa_cons se_int (sa_cons se_int sa_nil))))))
    (ss_cons (s_set 2 c.nd (se_call c O__law_text (by decide) (by rfl) (sa_cons (se_var 1) sa_nil)))
    (ss_cons (s_if (st_not (st_truth (se_call c O__law_is_read (by decide) (by rfl) (sa_cons (se_var 2) sa_nil)))) (ss_one (s_ret se_bl)) ss_nil)
    (ss_cons (s_set 3 c.nd (se_call c O__law_owner (by decide) (by rfl) (sa_cons (se_var 1) (sa_cons (se_call c O__law_name (by decide) (by rfl) (sa_cons (se_var 1) (sa_cons (se_tup sa_nil) (sa_cons se_int sa_nil)))) sa_nil))))
    (ss_cons (s_if (st_eq c.hu (se_call c O__law_draw (by decide) (by rfl) (sa_cons (se_var 1) (sa_cons se_int sa_nil))) se_int) (ss_one (s_set 3 c.nd (se_call c O__law_wrong_name (by decide) (by rfl) (sa_cons (se_var 1) sa_nil)))) ss_nil)
    (ss_cons (s_if (st_not (st_truth (se_call c O__law_is_judged (by decide) (by rfl) (sa_cons (se_var 3) sa_nil)))) (ss_one (s_ret se_bl)) ss_nil)
    (ss_cons (s_set 4 c.nd (se_call c O__law_some_label (by decide) (by rfl) (sa_cons (se_var 1) sa_nil)))
    (ss_cons (s_if (st_not (st_truth (se_call c O__law_same (by decide) (by rfl) (sa_cons (se_call c O_is_label (by decide) (by rfl) (sa_cons (se_var 4) sa_nil)) (sa_cons (se_call c O__law_is_name (by decide) (by rfl) (sa_cons (se_tup (sa_cons (se_var 4) sa_nil)) sa_nil)) sa_nil))))) (ss_one (s_ret se_bl)) ss_nil)
    (ss_cons (s_set 5 c.nd (se_call c O__law_pick (by decide) (by rfl) (sa_cons (se_var 1) (sa_cons (se_lstF (sa_cons se_non (sa_cons se_int (sa_cons se_bl (sa_cons (se_tup (sa_cons se_str sa_nil)) (sa_cons (se_lstF (sa_cons se_str sa_nil)) (sa_cons (se_tup sa_nil) (sa_cons se_int sa_nil)))))))) sa_nil))))
    (ss_cons (s_set 6 c.nd (se_lstF (sa_cons se_str (sa_cons (se_tup (sa_cons (se_var 5) (sa_cons se_int sa_nil))) sa_nil))))
    (ss_one (s_ret (se_and (se_call c O__law_same (by decide) (by rfl) (sa_cons (se_call c O__law_outcome (by decide) (by rfl) (sa_cons se_int (sa_cons (se_var 5) sa_nil))) (sa_cons (se_var 6) sa_nil))) (se_one (se_call c O__law_same (by decide) (by rfl) (sa_cons (se_call c O__law_outcome (by decide) (by rfl) (sa_cons se_int (sa_cons (se_var 5) sa_nil))) (sa_cons (se_var 6) sa_nil)))))))))))))))))
end
end Lk02
/-! labels, names, owners -/
namespace Lk02
open PySem L2 PyProof.Rows Sm SmPool
def LET : Str := "abcdefghijklmnopqrstuvwxyz0123456789-"
def isLet (c : Nat) : Bool := inS c LET
theorem isLet_iff (c : Nat) : inS c "abcdefghijklmnopqrstuvwxyz0123456789-" = isLet c := rfl
theorem l_nil : ("" : Str) = tx [] := rfl
theorem l_dot : ("." : Str) = tx [46] := by decide +kernel
theorem l_star : ("*" : Str) = tx [42] := by decide +kernel
theorem l_dash : ("-" : Str) = tx [45] := by decide +kernel
def labL (l : List Nat) : Bool := !l.isEmpty && decide (l.length ≤ 12) && l.all isLet && decide (l.head? ≠ some 45) && decide (l.getLast? ≠ some 45)
def labD : D → Bool
  | .str x => labL x.cps.toList
  | _ => false
def namD : D → Bool
  | .tup ds => decide (ds.length ≤ 6) && ds.all labD
  | _ => false
def ownD : D → Bool
  | .tup (.str x :: ds) => if x = "*" then decide (ds.length ≤ 5) && ds.all labD else namD (.tup (.str x :: ds))
  | d => namD d
theorem is_label_spec {k : Nat} (d : D) (h : Hh) (hd : tm k d = true) : m_is_label [d] h = .ok (.bl (labD d)) h := by
  cases d with
  | str x =>
    have hl := tm_len hd
    rw [tx_of x]
    generalize x.cps.toList = l at hl
    by_cases h0 : l = []
    · subst h0
      simp [m_is_label, b_is_label, l_nil, trR_ok0, labD, labL]
    by_cases h1 : 12 < l.length
    · have : ¬ l.length ≤ 12 := by omega
      have h1' : (12 : Int) < l.length := by omega
      simp [m_is_label, b_is_label, l_nil, trR_ok0, labD, labL, h0, hl, h1', this]
    have h1' : ¬ (12 : Int) < l.length := by omega
    have lp := forL_allM (i := 1) (body := b_is_label_1) (env := [some (.str (tx l)), none]) (h := h) (fun c => D.str (tx [c])) isLet (.bl false) l (fun c hc => by
      cases q : isLet c <;> simp [b_is_label_1, isLet_iff, q])
    have hle : l.length ≤ 12 := by omega
    cases hall : l.all isLet with
    | false =>
      have := lp.2 hall
      simp [m_is_label, b_is_label, l_nil, trR_ok0, labD, labL, h0, hl, h1', this, hall]
    | true =>
      obtain ⟨e, this⟩ := lp.1 hall
      obtain ⟨a, ha, hh⟩ : ∃ a, atI l (0 : Int) = some a ∧ l.head? = some a := by
        cases l with
        | nil => exact absurd rfl h0
        | cons a r => exact ⟨a, by rw [atI_pos (by omega)]; rfl, rfl⟩
      obtain ⟨z, hz⟩ : ∃ z, l.getLast? = some z := ⟨_, List.getLast?_eq_some_getLast h0⟩
      by_cases q1 : a = 45
      · simp [m_is_label, b_is_label, l_nil, l_dash, trR_ok0, labD, labL, h0, hl, h1', this, hall, hle, ha, hh, q1]
      · simp [m_is_label, b_is_label, l_nil, l_dash, trR_ok0, labD, labL, h0, hl, h1', this, hall, hle, ha, hh, q1, atI_m1, hz]
  | ref n => exact absurd hd tm_ref
  | _ => simp [m_is_label, b_is_label, trR_ok0, labD]
theorem labD_tup (ds : List D) : labD (.tup ds) = false := rfl
theorem is_name_spec {k : Nat} (d : D) (h : Hh) (hd : tm k d = true) : m_is_name [d] h = .ok (.bl (namD d)) h := by
  cases d with
  | tup ds =>
    obtain ⟨h1, h2⟩ := tm_tup hd
    by_cases hl : 6 < ds.length
    · have hl' : (6 : Int) < ds.length := by omega
      have : ¬ ds.length ≤ 6 := by omega
      simp [m_is_name, b_is_name, trR_ok0, namD, hl', this]
    · have hl' : ¬ (6 : Int) < ds.length := by omega
      have hl2 : ds.length ≤ 6 := by omega
      have lp := forL_all (i := 1) (body := b_is_name_1) (env := [some (.tup ds), none]) (h := h) labD (.bl false) ds (fun x hx => by
        have := is_label_spec x h (tms_mem h1 hx)
        cases q : labD x <;> simp [b_is_name_1, this, q])
      cases hall : ds.all labD with
      | false =>
        have := lp.2 hall
        simp [m_is_name, b_is_name, trR_ok0, namD, hl', this, hall]
      | true =>
        obtain ⟨e, this⟩ := lp.1 hall
        simp [m_is_name, b_is_name, trR_ok0, namD, hl', this, hall, hl2]
  | ref n => exact absurd hd tm_ref
  | _ => simp [m_is_name, b_is_name, trR_ok0, namD]
theorem law_is_name_spec {k : Nat} (d : D) (h : Hh) (hd : tm k d = true) : m__law_is_name [d] h = .ok (.bl (namD d)) h := by
  cases d with
  | tup ds =>
    obtain ⟨h1, h2⟩ := tm_tup hd
    by_cases hl : 6 < ds.length
    · have hl' : (6 : Int) < ds.length := by omega
      have : ¬ ds.length ≤ 6 := by omega
      simp [m__law_is_name, b__law_is_name, trR_ok0, namD, hl', this]
    · have hl' : ¬ (6 : Int) < ds.length := by omega
      have hl2 : ds.length ≤ 6 := by omega
      have lp := forL_all (i := 1) (body := b__law_is_name_1) (env := [some (.tup ds), none, none]) (h := h) labD (.bl false) ds (fun x hx => by
        have hx1 := tms_mem h1 hx
        cases x with
        | str x =>
          have hl := tm_len hx1
          rw [tx_of x]
          generalize x.cps.toList = l at hl
          by_cases h0 : l = []
          · subst h0
            simp [b__law_is_name_1, l_nil, labD, labL]
          by_cases h1 : 12 < l.length
          · have : ¬ l.length ≤ 12 := by omega
            have h1' : (12 : Int) < l.length := by omega
            simp [b__law_is_name_1, l_nil, labD, labL, h0, hl, h1', this]
          have h1' : ¬ (12 : Int) < l.length := by omega
          have hle : l.length ≤ 12 := by omega
          have lc := fz_lcM (i := 2) (m := eB opIn (eV 2) (eC (.str "abcdefghijklmnopqrstuvwxyz0123456789-"))) (env := [some (.tup ds), some (.str (tx l)), none]) (h := h) (fun c => D.str (tx [c])) (fun c => .bl (isLet c)) l (fun x hx acc => by simp [isLet_iff]) hl (by simp [los_all])
          have hb := bools_map isLet l
          obtain ⟨a, ha, hh⟩ : ∃ a, atI l (0 : Int) = some a ∧ l.head? = some a := by
            cases l with
            | nil => exact absurd rfl h0
            | cons a r => exact ⟨a, by rw [atI_pos (by omega)]; rfl, rfl⟩
          obtain ⟨z, hz⟩ : ∃ z, l.getLast? = some z := ⟨_, List.getLast?_eq_some_getLast h0⟩
          cases hall : l.all isLet with
          | false => simp [b__law_is_name_1, l_nil, labD, labL, h0, hl, h1', hle, lc, hb, hall]
          | true =>
            by_cases q1 : a = 45
            · simp [b__law_is_name_1, l_nil, l_dash, labD, labL, h0, hl, h1', hle, lc, hb, hall, ha, hh, q1]
            · by_cases q2 : z = 45 <;> simp [b__law_is_name_1, l_nil, l_dash, labD, labL, h0, hl, h1', hle, lc, hb, hall, ha, hh, q1, q2, atI_m1, hz]
        | ref n => exact absurd hx1 tm_ref
        | _ => simp [b__law_is_name_1, labD])
      cases hall : ds.all labD with
      | false =>
        have := lp.2 hall
        simp [m__law_is_name, b__law_is_name, trR_ok0, namD, hl', this, hall]
      | true =>
        obtain ⟨e, this⟩ := lp.1 hall
        simp [m__law_is_name, b__law_is_name, trR_ok0, namD, hl', this, hall, hl2]
  | ref n => exact absurd hd tm_ref
  | _ => simp [m__law_is_name, b__law_is_name, trR_ok0, namD]
/-! owners -/
theorem str_okD (x : Str) (h : x.cps.all (· < 0x110000) = true) (k : Nat) : okD (k + 1) (.str x) = true := h
theorem ownD_of {ds : List D} (h : ∀ r, ds ≠ .str "*" :: r) : ownD (.tup ds) = namD (.tup ds) := by
  cases ds with
  | nil => rfl
  | cons d ds =>
    cases d with
    | str x =>
      have : x ≠ "*" := fun e => h ds (by rw [e])
      simp [ownD, this]
    | _ => rfl
theorem ownD_star (ds : List D) : ownD (.tup (.str "*" :: ds)) = (decide (ds.length ≤ 5) && ds.all labD) := by simp [ownD]
theorem law_is_owner_spec {k : Nat} (d : D) (h : Hh) (hd : tm k d = true) : m__law_is_owner [d] h = .ok (.bl (ownD d)) h := by
  have nm := law_is_name_spec d h hd
  cases d with
  | tup ds =>
    obtain ⟨h1, h2⟩ := tm_tup hd
    cases ds with
    | nil => simp [m__law_is_owner, b__law_is_owner, trR_ok0, nm, ownD]
    | cons d ds =>
      have ha : atI (d :: ds) (0 : Int) = some d := by rw [atI_pos (by omega)]; rfl
      have hc : cutD (d :: ds) (some 1) none = ds := by rw [cutD_from (by omega)]; rfl
      have hpos : (0 : Int) < ds.length + 1 := by omega
      cases d with
      | str x =>
        by_cases hx : x = "*"
        · subst hx
          have nm2 := law_is_name_spec (k := k) (.tup ds) h (tm_sub hd (fun d hd => by simp [hd]) (by simp))
          rw [ownD_star]
          by_cases hl : ds.length ≤ 5
          · have hl' : (ds.length : Int) + 1 ≤ 6 := by omega
            have hl6 : ds.length ≤ 6 := by omega
            simp [m__law_is_owner, b__law_is_owner, trR_ok0, ha, hc, hpos, nm2, namD, hl, hl', hl6]
          · have hl' : ¬ (ds.length : Int) + 1 ≤ 6 := by omega
            simp [m__law_is_owner, b__law_is_owner, trR_ok0, ha, hc, hpos, nm2, namD, hl, hl']
        · rw [ownD_of (fun r e => by cases e; exact hx rfl)]
          simp [m__law_is_owner, b__law_is_owner, trR_ok0, ha, hc, hpos, nm, hx]
      | ref n => exact absurd (tms_mem h1 (List.mem_cons_self ..)) tm_ref
      | _ =>
        rw [ownD_of (fun r e => by cases e)]
        simp [m__law_is_owner, b__law_is_owner, trR_ok0, ha, hc, hpos, nm]
  | ref n => exact absurd hd tm_ref
  | _ => simp [m__law_is_owner, b__law_is_owner, trR_ok0, nm, ownD]
theorem is_owner_spec {k : Nat} (d : D) (h : Hh) (hd : tm k d = true) (hk : k ≤ 50) : m_is_owner [d] h = .ok (.bl (ownD d)) h := by
  have nm := is_name_spec d h hd
  cases d with
  | tup ds =>
    obtain ⟨h1, h2⟩ := tm_tup hd
    have hc1 : cutD ds none (some 1) = ds.take 1 := cutD_to (by omega)
    have hc : cutD ds (some 1) none = ds.drop 1 := cutD_from (by omega)
    have okt : okD 60 (.tup (ds.take 1)) = true :=
       okD_mono (by omega) (tm_ok (k := k) (tm_sub hd (fun d hd => List.mem_of_mem_take hd) (by simp; omega)))
    have eq := opEq_ok (a := .tup (ds.take 1)) (b := .tup [.str "*"]) h okt (by decide +kernel)
    by_cases hs : ∃ r, ds = .str "*" :: r
    · obtain ⟨r, rfl⟩ := hs
      have nm2 := is_name_spec (k := k) (.tup r) h (tm_sub hd (fun d hd => by simp [hd]) (by simp))
      rw [ownD_star]
      simp [eqd, eqds] at eq
      by_cases hl : r.length ≤ 5
      · have hl' : (r.length : Int) + 1 ≤ 6 := by omega
        have hl6 : r.length ≤ 6 := by omega
        simp [m_is_owner, b_is_owner, trR_ok0, hc1, hc, eq, nm2, namD, hl, hl', hl6]
      · have hl' : ¬ (r.length : Int) + 1 ≤ 6 := by omega
        simp [m_is_owner, b_is_owner, trR_ok0, hc1, hc, eq, nm2, namD, hl, hl']
    · have ne : eqd (.tup (ds.take 1)) (.tup [.str "*"]) = false := by
        cases ds with
        | nil => rfl
        | cons d ds =>
          cases d with
          | str x =>
            have : x ≠ "*" := fun e => hs ⟨ds, by rw [e]⟩
            simp [eqd, eqds, this]
          | _ => simp [eqd, eqds]
      rw [ne] at eq
      rw [ownD_of (fun r e => hs ⟨r, e⟩)]
      simp [m_is_owner, b_is_owner, trR_ok0, hc1, eq, nm]
  | ref n => exact absurd hd tm_ref
  | _ => simp [m_is_owner, b_is_owner, trR_ok0, nm, ownD]
end Lk02
/-! reading names -/
namespace Lk02
open PySem L2 PyProof.Rows Sm SmPool
/-- the first fault within a part -/
def fa (nl : Nat) : Nat → List Nat → Option Nat
  | _, [] => none
  | k, c :: t => if isLet c = false ∨ k = 12 then some k else if k = 0 ∧ (c = 45 ∨ nl = 6) then some 0 else fa nl (k + 1) t
/-- reading part by part -/
def sc (n : Nat) : Nat → List (List Nat) → List (List Nat) → Nat ⊕ List (List Nat)
  | _, ls, [] => .inr ls
  | s, ls, [p] => match fa ls.length 0 p with
    | some k => .inl (s + k)
    | none => if p ≠ [] ∨ n = 0 then .inl n else .inr ls
  | s, ls, p :: q :: r => match fa ls.length 0 p with
    | some k => .inl (s + k)
    | none => if p = [] then .inl s else if p.getLast? = some 45 then .inl (s + p.length - 1) else sc n (s + p.length + 1) (ls ++ [p]) (q :: r)
def scan (t : List Nat) (star : Bool) : Nat ⊕ List (List Nat) :=
  if t = [46] then .inr [] else
  if star = true ∧ t.head? = some 42 then (if t.take 2 = [42, 46] then sc t.length 2 [[42]] (spl 46 (t.drop 2)) else .inl 1)
  else sc t.length 0 [] (spl 46 t)
def lD (l : List Nat) : D := .str (tx l)
/-! ### the program's way -/
def tst : MT := tBl (eB opLt (eV 3) (eN opLen [eV 0]))
noncomputable def rst : S := sSeq (sIf (tOrM (tBl (eB opEq (eV 0) (eC (.str "")))) (tBl (eB opLt (eV 4) (eN opLen [(eV 0)])))) (sRaise 0 [(eV 0), (eN opLen [(eV 0)])]) sSkip)
    (sRet (eN opTupleOf [(eV 2)]))
section
variable {t : List Nat} {h : Hh} {ls : List (List Nat)} {sd e5 : Option D} {s k : Nat}
theorem isLet46 : isLet 46 = false := by decide +kernel
theorem tst_t (hz : t.length ≤ 4096) (hk : k < t.length) {g : Hh} {e4 : Option D} : tst [some (lD t), sd, some (.ref h.length), some (.int (k : Int)), e4, e5] g = .ok true g := by
  have h1 : t.length ≤ sizeLine := line4k (by omega)
  have h2 : (k : Int) < t.length := by omega
  simp [tst, lD, h1, h2, hk]
theorem tst_f (hz : t.length ≤ 4096) (hk : ¬ k < t.length) {g : Hh} {e4 : Option D} : tst [some (lD t), sd, some (.ref h.length), some (.int (k : Int)), e4, e5] g = .ok false g := by
  have h1 : t.length ≤ sizeLine := line4k (by omega)
  simp [tst, lD, h1]
  omega
/-- one sign that is no dot -/
theorem turn_sign {c : Nat} {a b : Int} (hz : t.length ≤ 4096) (ha : atI t a = some c) (hn : c ≠ 46) :
    (isLet c = false ∨ a - b = 12 → b_scan_owner_1 [some (lD t), sd, some (.ref h.length), some (.int a), some (.int b), e5] (h ++ [.lst (ls.map lD)]) = .exc 0 [lD t, .int a] [some (lD t), sd, some (.ref h.length), some (.int a), some (.int b), some (lD [c])] (h ++ [.lst (ls.map lD)])) ∧
    (¬ (isLet c = false ∨ a - b = 12) → (a = b ∧ (c = 45 ∨ ls.length = 6)) → b_scan_owner_1 [some (lD t), sd, some (.ref h.length), some (.int a), some (.int b), e5] (h ++ [.lst (ls.map lD)]) = .exc 0 [lD t, .int a] [some (lD t), sd, some (.ref h.length), some (.int a), some (.int b), some (lD [c])] (h ++ [.lst (ls.map lD)])) ∧
    (¬ (isLet c = false ∨ a - b = 12) → ¬ (a = b ∧ (c = 45 ∨ ls.length = 6)) → b_scan_owner_1 [some (lD t), sd, some (.ref h.length), some (.int a), some (.int b), e5] (h ++ [.lst (ls.map lD)]) = .nx [some (lD t), sd, some (.ref h.length), some (.int (a + 1)), some (.int b), some (lD [c])] (h ++ [.lst (ls.map lD)])) := by
  have h1 : t.length ≤ sizeLine := line4k (by omega)
  have i6 : ((ls.length : Int) = 6) ↔ ls.length = 6 := by omega
  refine ⟨fun z => ?_, fun z1 z2 => ?_, fun z1 z2 => ?_⟩
  · cases q : isLet c with
    | false => simp [b_scan_owner_1, lD, h1, ha, l_dot, hn, isLet_iff, q]
    | true =>
      have hk : a - b = 12 := by simpa [q] using z
      simp [b_scan_owner_1, lD, h1, ha, l_dot, hn, isLet_iff, q, hk]
  · obtain ⟨q1, q2⟩ := not_or.mp z1
    have q1 : isLet c = true := by simpa using q1
    obtain ⟨q3, q4⟩ := z2
    subst q3
    by_cases q5 : c = 45
    · subst q5
      simp [b_scan_owner_1, lD, h1, ha, l_dot, l_dash, isLet_iff, q1]
    · have q6 : ls.length = 6 := by simpa [q5] using q4
      simp [b_scan_owner_1, lD, h1, ha, l_dot, l_dash, hn, isLet_iff, q1, q5, q6]
  · obtain ⟨q1, q2⟩ := not_or.mp z1
    have q1 : isLet c = true := by simpa using q1
    by_cases q3 : a = b
    · subst q3
      have q4 : ¬ c = 45 ∧ ¬ ls.length = 6 := by
        constructor
        · intro e; exact z2 ⟨rfl, .inl e⟩
        · intro e; exact z2 ⟨rfl, .inr e⟩
      simp [b_scan_owner_1, lD, h1, ha, l_dot, l_dash, hn, isLet_iff, q1, q4, i6]
    · simp [b_scan_owner_1, lD, h1, ha, l_dot, l_dash, hn, isLet_iff, q1, q2, q3]
/-- a dot -/
theorem turn_dot {a b : Int} (hz : t.length ≤ 4096) (ha : atI t a = some 46) (hls : ls.length ≤ 5000) :
    (a = b → b_scan_owner_1 [some (lD t), sd, some (.ref h.length), some (.int a), some (.int b), e5] (h ++ [.lst (ls.map lD)]) = .exc 0 [lD t, .int a] [some (lD t), sd, some (.ref h.length), some (.int a), some (.int b), some (lD [46])] (h ++ [.lst (ls.map lD)])) ∧
    (a ≠ b → ∀ z, atI t (a - 1) = some z → (z = 45 → b_scan_owner_1 [some (lD t), sd, some (.ref h.length), some (.int a), some (.int b), e5] (h ++ [.lst (ls.map lD)]) = .exc 0 [lD t, .int (a - 1)] [some (lD t), sd, some (.ref h.length), some (.int a), some (.int b), some (lD [46])] (h ++ [.lst (ls.map lD)])) ∧
      (z ≠ 45 → ∀ p, cutS (tx t) (some b) (some a) = tx p → b_scan_owner_1 [some (lD t), sd, some (.ref h.length), some (.int a), some (.int b), e5] (h ++ [.lst (ls.map lD)]) = .nx [some (lD t), sd, some (.ref h.length), some (.int (a + 1)), some (.int (a + 1)), some (lD [46])] (h ++ [.lst ((ls ++ [p]).map lD)]))) := by
  have h1 : t.length ≤ sizeLine := line4k (by omega)
  have h2 : ls.length < sizeLine := by rw [sizeLine_eq]; omega
  refine ⟨fun z => ?_, fun z1 z hz2 => ⟨fun z2 => ?_, fun z2 p hp => ?_⟩⟩
  · subst z
    simp [b_scan_owner_1, lD, h1, ha, l_dot]
  · subst z2
    simp [b_scan_owner_1, lD, h1, ha, l_dot, l_dash, z1, hz2]
  · simp [b_scan_owner_1, lD, h1, ha, l_dot, l_dash, z1, hz2, z2, hp, h2]
abbrev ev (t : List Nat) (sd : Option D) (h : Hh) (a b : Int) (e5 : Option D) : Ev := [some (lD t), sd, some (.ref h.length), some (.int a), some (.int b), e5]
theorem tst_t' {a b : Int} (hz : t.length ≤ 4096) (hk : a < t.length) {g : Hh} : tst (ev t sd h a b e5) g = .ok true g := by
  have h1 : t.length ≤ sizeLine := line4k (by omega)
  simp [tst, lD, h1, hk]
theorem tst_f' {a b : Int} (hz : t.length ≤ 4096) (hk : ¬ a < t.length) {g : Hh} : tst (ev t sd h a b e5) g = .ok false g := by
  have h1 : t.length ≤ sizeLine := line4k (by omega)
  simp [tst, lD, h1, hk]
theorem at_mid {p r : List Nat} {c : Nat} {a : Int} (ht : t = p ++ c :: r) (ha : a = p.length) : atI t a = some c := by
  subst ht ha
  rw [atI_pos (by omega)]
  simp
/-- what reading answers -/
def res (t : List Nat) (h : Hh) : Nat ⊕ List (List Nat) → R D
  | .inl pl => .exc 0 [lD t, .int (pl : Int)] h
  | .inr out => .ok (.tup (out.map lD)) h
/-- through a part without dots -/
theorem scan_part (hz : t.length ≤ 4096) : ∀ (r pre post : List Nat) (s k f : Nat) (e5 : Option D), t = pre ++ r ++ post → pre.length = s + k → 46 ∉ r →
    ∃ e5', whileF tst b_scan_owner_1 (r.length + f) (ev t sd h ((s + k : Nat) : Int) (s : Int) e5) (h ++ [.lst (ls.map lD)]) = match fa ls.length k r with
      | some j => .exc 0 [lD t, .int ((s + j : Nat) : Int)] (ev t sd h ((s + j : Nat) : Int) (s : Int) e5') (h ++ [.lst (ls.map lD)])
      | none => whileF tst b_scan_owner_1 f (ev t sd h ((s + (k + r.length) : Nat) : Int) (s : Int) e5') (h ++ [.lst (ls.map lD)])
  | [], pre, post, s, k, f, e5, ht, hp, hd => ⟨e5, by simp [fa]⟩
  | c :: r, pre, post, s, k, f, e5, ht, hp, hd => by
    have hc : c ≠ 46 := fun e => hd (by simp [e])
    have ha : atI t ((s + k : Nat) : Int) = some c := at_mid (p := pre) (r := r ++ post) (by rw [ht]; simp) (by rw [hp])
    have hlen : t.length = pre.length + (r.length + 1) + post.length := by rw [ht]; simp; omega
    have t1 := turn_sign (sd := sd) (h := h) (ls := ls) (e5 := e5) (a := ((s + k : Nat) : Int)) (b := (s : Int)) hz ha hc
    have i12 : (((s + k : Nat) : Int) - (s : Int) = 12) ↔ k = 12 := by omega
    have i0 : (((s + k : Nat) : Int) = (s : Int)) ↔ k = 0 := by omega
    rw [i12, i0] at t1
    obtain ⟨u1, u2, u3⟩ := t1
    have hlt : ((s + k : Nat) : Int) < t.length := by omega
    have tt := tst_t' (sd := sd) (h := h) (e5 := e5) (b := (s : Int)) (g := h ++ [.lst (ls.map lD)]) hz hlt
    rw [show (c :: r).length + f = (r.length + f) + 1 by simp; omega]
    by_cases q1 : isLet c = false ∨ k = 12
    · refine ⟨some (lD [c]), ?_⟩
      rw [whileF_x tt (u1 q1)]
      simp only [fa, if_pos q1]
    · by_cases q2 : k = 0 ∧ (c = 45 ∨ ls.length = 6)
      · refine ⟨some (lD [c]), ?_⟩
        rw [whileF_x tt (u2 q1 q2)]
        simp only [fa, if_neg q1, if_pos q2]
        rw [q2.1]
      · have n := u3 q1 q2
        rw [whileF_t tt n]
        obtain ⟨e5', ih⟩ := scan_part hz r (pre ++ [c]) post s (k + 1) f (some (lD [c])) (by rw [ht]; simp) (by simp; omega) (fun e => hd (by simp [e]))
        refine ⟨e5', ?_⟩
        have c1 : (((s + k : Nat) : Int) + 1) = ((s + (k + 1) : Nat) : Int) := by omega
        rw [c1]
        refine ih.trans ?_
        simp only [fa, if_neg q1, if_neg q2]
        rw [show k + 1 + r.length = k + (c :: r).length by simp; omega]
theorem scan_parts (hz : t.length ≤ 4096) : ∀ (ps ls : List (List Nat)) (pre : List Nat) (s f : Nat) (e5 : Option D), ps ≠ [] → t = pre ++ cat 46 ps → pre.length = s → (∀ p ∈ ps, 46 ∉ p) → t.length < s + f → ls.length + ps.length ≤ 4097 →
    ∃ g, fnEnd (sSeq1 rst (whileF tst b_scan_owner_1 f (ev t sd h (s : Int) (s : Int) e5) (h ++ [.lst (ls.map lD)]))) = res t (h ++ g) (sc t.length s ls ps)
  | [], _, _, _, _, _, h0, _, _, _, _, _ => absurd rfl h0
  | [p], ls, pre, s, f, e5, _, ht, hp, hd, hf, hl => by
    have hlen : t.length = s + p.length := by rw [ht]; simp [cat, hp]
    obtain ⟨f', rfl⟩ : ∃ f', f = p.length + (f' + 1) := ⟨f - p.length - 1, by omega⟩
    obtain ⟨e5', e⟩ := scan_part (sd := sd) (h := h) (ls := ls) hz p pre [] s 0 (f' + 1) e5 (by rw [ht]; simp [cat]) (by omega) (hd p (by simp))
    have hs0 : ((s + 0 : Nat) : Int) = (s : Int) := by omega
    rw [hs0] at e
    rw [e]
    have h1 : t.length ≤ sizeLine := line4k (by omega)
    cases q : fa ls.length 0 p with
    | some j =>
      refine ⟨[.lst (ls.map lD)], ?_⟩
      simp [sc, q, res]
    | none =>
      refine ⟨[.lst (ls.map lD)], ?_⟩
      have tf := tst_f' (sd := sd) (h := h) (e5 := e5') (a := ((s + (0 + p.length) : Nat) : Int)) (b := (s : Int)) (g := h ++ [.lst (ls.map lD)]) hz (by omega)
      dsimp only
      rw [whileF_f tf]
      simp only [sc, q]
      by_cases c1 : p ≠ [] ∨ t.length = 0
      · rw [if_pos c1]
        by_cases c2 : t = []
        · subst c2
          simp [rst, res, lD, l_nil]
        · have c3 : p ≠ [] := c1.resolve_right (by simpa using c2)
          have c4 : 0 < p.length := List.length_pos_iff.mpr c3
          have c5 : (s : Int) < t.length := by omega
          simp [rst, res, lD, l_nil, h1, c2, c5]
      · rw [if_neg c1]
        obtain ⟨c2, c3⟩ := not_or.mp c1
        have c2 : p = [] := by simpa using c2
        subst c2
        have c4 : t ≠ [] := by simpa using c3
        have c5 : ¬ (s : Int) < t.length := by simp at hlen; omega
        simp [rst, res, lD, l_nil, h1, c4, c5]
  | p :: p2 :: ps, ls, pre, s, f, e5, _, ht, hp, hd, hf, hl => by
    have ht' : t = pre ++ p ++ (46 :: cat 46 (p2 :: ps)) := by rw [ht]; simp [cat]
    have hlen : t.length = s + p.length + 1 + (cat 46 (p2 :: ps)).length := by rw [ht']; simp [hp]; omega
    obtain ⟨f', rfl⟩ : ∃ f', f = p.length + (f' + 1) := ⟨f - p.length - 1, by omega⟩
    obtain ⟨e5', e⟩ := scan_part (sd := sd) (h := h) (ls := ls) hz p pre (46 :: cat 46 (p2 :: ps)) s 0 (f' + 1) e5 ht' (by omega) (hd p (by simp))
    have hs0 : ((s + 0 : Nat) : Int) = (s : Int) := by omega
    rw [hs0] at e
    rw [e]
    have h1 : t.length ≤ sizeLine := line4k (by omega)
    cases q : fa ls.length 0 p with
    | some j =>
      refine ⟨[.lst (ls.map lD)], ?_⟩
      simp [sc, q, res]
    | none =>
      dsimp only
      have ha : atI t ((s + (0 + p.length) : Nat) : Int) = some 46 := at_mid (p := pre ++ p) (r := cat 46 (p2 :: ps)) ht' (by simp [hp])
      have tt := tst_t' (sd := sd) (h := h) (e5 := e5') (a := ((s + (0 + p.length) : Nat) : Int)) (b := (s : Int)) (g := h ++ [.lst (ls.map lD)]) hz (by omega)
      obtain ⟨u1, u2⟩ := turn_dot (sd := sd) (h := h) (ls := ls) (e5 := e5') (a := ((s + (0 + p.length) : Nat) : Int)) (b := (s : Int)) hz ha (by simp at hl; omega)
      by_cases c0 : p = []
      · subst c0
        refine ⟨[.lst (ls.map lD)], ?_⟩
        rw [whileF_x tt (u1 (by simp))]
        simp only [sc, q]
        simp [res]
      · have c1 : 0 < p.length := List.length_pos_iff.mpr c0
        obtain ⟨z, hz1⟩ : ∃ z, p.getLast? = some z := ⟨_, List.getLast?_eq_some_getLast c0⟩
        have hz2 : atI t (((s + (0 + p.length) : Nat) : Int) - 1) = some z := by
          obtain ⟨p0, e1⟩ := List.getLast?_eq_some_iff.mp hz1
          refine at_mid (p := pre ++ p0) (r := 46 :: cat 46 (p2 :: ps)) ?_ (by rw [e1]; simp [hp]; omega)
          rw [ht', e1]
          simp
        obtain ⟨u3, u4⟩ := u2 (by omega) z hz2
        by_cases c2 : z = 45
        · refine ⟨[.lst (ls.map lD)], ?_⟩
          rw [whileF_x tt (u3 c2)]
          simp only [sc, q, if_neg c0, hz1, c2]
          simp [res]
          omega
        · have hcut : cutS (tx t) (some (s : Int)) (some ((s + (0 + p.length) : Nat) : Int)) = tx p := by
            rw [cutS_mid (by omega) (by omega)]
            congr 1
            have e2 : ((s + (0 + p.length) : Nat) : Int).toNat = (pre ++ p).length := by rw [Int.toNat_natCast]; simp [hp]
            rw [e2, ht', List.take_left, Int.toNat_natCast, ← hp, List.drop_left]
          rw [whileF_t tt (u4 c2 p hcut)]
          obtain ⟨g, ih⟩ := scan_parts hz (p2 :: ps) (ls ++ [p]) (pre ++ p ++ [46]) (s + p.length + 1) f' (some (lD [46])) (by simp) (by rw [ht']; simp) (by simp; omega) (fun x hx => hd x (by simp [hx])) (by omega) (by simp at hl ⊢; omega)
          refine ⟨g, ?_⟩
          have c3 : (((s + (0 + p.length) : Nat) : Int) + 1) = ((s + p.length + 1 : Nat) : Int) := by omega
          rw [c3]
          refine ih.trans ?_
          simp only [sc, q, if_neg c0, hz1]
          rw [if_neg (by simpa using c2)]
end
end Lk02
/-! both ways of reading -/
namespace Lk02
open PySem L2 PyProof.Rows Sm SmPool
theorem los_lD (n : Nat) (ls : List (List Nat)) : los n (ls.map lD) = true := by simp [los_all, lD]
theorem scan_owner_spec (t : List Nat) (star : Bool) (h : Hh) (hz : t.length ≤ 4090) : m_scan_owner [lD t, .bl star] h = res t h (scan t star) := by
  have h1 : t.length ≤ sizeLine := line4k (by omega)
  have hsp : ∀ u : List Nat, u.length ≤ 4090 → (spl 46 u).length ≤ 4091 := by
    intro u
    have : ∀ u : List Nat, (spl 46 u).length ≤ u.length + 1 := by
      intro u
      induction u with
      | nil => simp [spl]
      | cons x u ih =>
        unfold spl
        split
        · simp; omega
        · split
          · simp
          · rename_i e; rw [e] at ih; simp at ih ⊢; omega
    intro hu; have := this u; omega
  have fin : ∀ (r : R D) (o : Nat ⊕ List (List Nat)), (∃ g, r = res t (h ++ g) o) → trR h r = res t h o := by
    rintro r o ⟨g, rfl⟩
    cases o with
    | inl pl => simp [res, trR_excA, lD]
    | inr out => simp [res, trR_app, los_lD]
  by_cases c0 : t = [46]
  · subst c0
    simp [m_scan_owner, b_scan_owner, scan, lD, l_dot, trR_ok0, res]
  · unfold scan
    rw [if_neg c0]
    by_cases c1 : star = true ∧ t.head? = some 42
    · obtain ⟨c1, c2⟩ := c1
      subst c1
      have ht1 : cutS (tx t) none (some 1) = tx (t.take 1) := cutS_to (by omega)
      have ht2 : cutS (tx t) (some 1) (some 2) = tx (t.take 2).tail := by rw [cutS_mid (by omega) (by omega)]; simp
      have ht3 : t.take 1 = [42] := by
        cases t with
        | nil => simp at c2
        | cons x t => simp at c2; simp [c2]
      simp only [c2, and_self, if_true]
      by_cases c3 : t.take 2 = [42, 46]
      · rw [if_pos c3]
        have ht4 : (t.take 2).tail = [46] := by rw [c3]; rfl
        have ht5 : t = [42, 46] ++ cat 46 (spl 46 (t.drop 2)) := by rw [cat_spl, ← c3, List.take_append_drop]
        have hd : (t.drop 2).length ≤ 4090 := by simp; omega
        refine fin _ _ ?_
        obtain ⟨g, e⟩ := scan_parts (sd := some (.bl true)) (h := h) (t := t) (by omega) (spl 46 (t.drop 2)) [[42]] [42, 46] 2 100000 none (spl_ne _ _) ht5 rfl (fun p hp => spl_mem _ _ p hp) (by omega) (by have := hsp _ hd; simp; omega)
        refine ⟨g, ?_⟩
        refine Eq.trans ?_ e
        have hs0 : 0 < sizeLine := by rw [sizeLine_eq]; omega
        simp [b_scan_owner, lD, l_dot, l_star, l_nil, l_dash, c0, h1, ht1, ht2, ht3, ht4, rst, tst, ev, hs0]
      · rw [if_neg c3]
        have ht4 : (t.take 2).tail ≠ [46] := by
          intro e
          apply c3
          cases t with
          | nil => simp at c2
          | cons x t =>
            cases t with
            | nil => simp at e
            | cons y t =>
              simp at c2 e
              simp [c2, e]
        simp [m_scan_owner, b_scan_owner, lD, l_dot, l_star, c0, h1, ht1, ht2, ht3, ht4, trR_excA, res]
    · rw [if_neg c1]
      have ht5 : t = [] ++ cat 46 (spl 46 t) := by rw [cat_spl]; rfl
      refine fin _ _ ?_
      obtain ⟨g, e⟩ := scan_parts (sd := some (.bl star)) (h := h) (t := t) (by omega) (spl 46 t) [] [] 0 100000 none (spl_ne _ _) ht5 rfl (fun p hp => spl_mem _ _ p hp) (by omega) (by have := hsp _ hz; simp; omega)
      refine ⟨g, ?_⟩
      refine Eq.trans ?_ e
      have ht1 : cutS (tx t) none (some 1) = tx (t.take 1) := cutS_to (by omega)
      cases star with
      | false => simp [b_scan_owner, lD, l_dot, l_star, l_nil, l_dash, c0, h1, rst, tst, ev]
      | true =>
        have ht3 : t.take 1 ≠ [42] := by
          intro e
          apply c1
          refine ⟨rfl, ?_⟩
          cases t with
          | nil => simp at e
          | cons x t => simp at e; simp [e]
        simp [b_scan_owner, lD, l_dot, l_star, l_nil, l_dash, c0, h1, ht1, ht3, rst, tst, ev]
/-! ### the law's way -/
section
variable {t p : List Nat} {parts : List D} {h : Hh} {ls : List (List Nat)} {sd e8 : Option D} {la : Bool} {s j k : Int}
abbrev ew (t : List Nat) (sd : Option D) (parts : List D) (h : Hh) (s j : Int) (p : List Nat) (la : Bool) (e8 : Option D) : Ev := [some (lD t), sd, some (.fls parts), some (.ref h.length), some (.int s), some (.int j), some (lD p), some (.bl la), e8]
theorem law_turn {c : Nat} (hz : p.length ≤ 4096) (ha : atI p k = some c) :
    ((isLet c = false ∨ k = 12) → b__law_scan_2 (ew t sd parts h s j p la (some (.int k))) (h ++ [.lst (ls.map lD)]) = .rt (.fls [.bl false, .int (s + k)]) (h ++ [.lst (ls.map lD)])) ∧
    (¬ (isLet c = false ∨ k = 12) → (k = 0 ∧ (c = 45 ∨ ls.length = 6)) → b__law_scan_2 (ew t sd parts h s j p la (some (.int k))) (h ++ [.lst (ls.map lD)]) = .rt (.fls [.bl false, .int s]) (h ++ [.lst (ls.map lD)])) ∧
    (¬ (isLet c = false ∨ k = 12) → ¬ (k = 0 ∧ (c = 45 ∨ ls.length = 6)) → b__law_scan_2 (ew t sd parts h s j p la (some (.int k))) (h ++ [.lst (ls.map lD)]) = .nx (ew t sd parts h s j p la (some (.int k))) (h ++ [.lst (ls.map lD)])) := by
  have h1 : p.length ≤ sizeLine := line4k (by omega)
  have i6 : ((ls.length : Int) = 6) ↔ ls.length = 6 := by omega
  refine ⟨fun z => ?_, fun z1 z2 => ?_, fun z1 z2 => ?_⟩
  · cases q : isLet c with
    | false => simp [b__law_scan_2, lD, h1, ha, isLet_iff, q]
    | true =>
      have q1 : k = 12 := by simpa [q] using z
      subst q1
      simp [b__law_scan_2, lD, h1, ha, isLet_iff, q]
  · obtain ⟨q1, q2⟩ := not_or.mp z1
    have q : isLet c = true := by simpa using q1
    obtain ⟨q3, q4⟩ := z2
    subst q3
    by_cases q5 : c = 45
    · subst q5
      simp [b__law_scan_2, lD, h1, ha, isLet_iff, q, l_dash]
    · have q6 : ls.length = 6 := by simpa [q5] using q4
      simp [b__law_scan_2, lD, h1, ha, isLet_iff, q, q5, q6, l_dash]
  · obtain ⟨q1, q2⟩ := not_or.mp z1
    have q : isLet c = true := by simpa using q1
    by_cases q3 : k = 0
    · subst q3
      have q4 : ¬ c = 45 ∧ ¬ ls.length = 6 := by
        constructor
        · intro e; exact z2 ⟨rfl, .inl e⟩
        · intro e; exact z2 ⟨rfl, .inr e⟩
      simp [b__law_scan_2, lD, h1, ha, isLet_iff, q, q4, l_dash, i6]
    · simp [b__law_scan_2, lD, h1, ha, isLet_iff, q, q2, q3]
theorem law_part (hz : p.length ≤ 4096) : ∀ (r pre : List Nat) (k : Nat) (e8 : Option D), p = pre ++ r → pre.length = k →
    ∃ e8', forL (gtName 8) b__law_scan_2 none (rngD (k : Int) r.length) (ew t sd parts h s j p la e8) (h ++ [.lst (ls.map lD)]) = match fa ls.length k r with
      | some x => .rt (.fls [.bl false, .int (s + x)]) (h ++ [.lst (ls.map lD)])
      | none => .nx (ew t sd parts h s j p la e8') (h ++ [.lst (ls.map lD)])
  | [], pre, k, e8, _, _ => ⟨e8, by
    rw [List.length_nil, rngD_nil, forL_nil (gd := none) trivial]
    simp [fa]⟩
  | c :: r, pre, k, e8, hp, hk => by
    have ha : atI p ((k : Nat) : Int) = some c := at_mid (p := pre) (r := r) hp (by rw [hk])
    have t1 := law_turn (t := t) (sd := sd) (parts := parts) (h := h) (ls := ls) (s := s) (j := j) (la := la) hz ha
    have i12 : (((k : Nat) : Int) = 12) ↔ k = 12 := by omega
    have i0 : (((k : Nat) : Int) = 0) ↔ k = 0 := by omega
    rw [i12, i0] at t1
    obtain ⟨u1, u2, u3⟩ := t1
    rw [List.length_cons, rngD_succ]
    by_cases q1 : isLet c = false ∨ k = 12
    · refine ⟨none, ?_⟩
      rw [forL_rt (gd := none) trivial rfl (u1 q1)]
      simp only [fa, if_pos q1]
    · by_cases q2 : k = 0 ∧ (c = 45 ∨ ls.length = 6)
      · refine ⟨none, ?_⟩
        rw [forL_rt (gd := none) trivial rfl (u2 q1 q2)]
        simp only [fa, if_neg q1, if_pos q2]
        simp
      · obtain ⟨e8', ih⟩ := law_part hz r (pre ++ [c]) (k + 1) (some (.int (k : Int))) (by rw [hp]; simp) (by simp [hk])
        refine ⟨e8', ?_⟩
        rw [forL_nx (gd := none) trivial rfl (u3 q1 q2)]
        refine Eq.trans ?_ (ih.trans ?_)
        · rfl
        · simp only [fa, if_neg q1, if_neg q2]
/-- one part that is no star -/
theorem law_step {t : List Nat} {p : List Nat} {parts : List D} {star : Bool} {s : Int} {j n : Nat} {e6 e7 e8 : Option D} (hz : t.length ≤ 4090) (hpz : p.length ≤ 4096) (hn : parts.length = n) (hp : atI parts (j : Int) = some (lD p)) (hls : ls.length ≤ 4100)
    (hns : ¬ (j = 0 ∧ star = true ∧ p.take 1 = [42])) :
    ∃ e, (e = e) ∧ b__law_scan_1 [some (lD t), some (.bl star), some (.fls parts), some (.ref h.length), some (.int s), some (.int (j : Int)), e6, e7, e8] (h ++ [.lst (ls.map lD)]) =
      match fa ls.length 0 p with
      | some x => .rt (.fls [.bl false, .int (s + x)]) (h ++ [.lst (ls.map lD)])
      | none => if j + 1 = n then (if p ≠ [] ∨ t = [] then .rt (.fls [.bl false, .int (t.length : Int)]) (h ++ [.lst (ls.map lD)]) else .nx [some (lD t), some (.bl star), some (.fls parts), some (.ref h.length), some (.int s), some (.int (j : Int)), some (lD p), some (.bl true), e] (h ++ [.lst (ls.map lD)]))
        else if p = [] then .rt (.fls [.bl false, .int s]) (h ++ [.lst (ls.map lD)])
        else if p.getLast? = some 45 then .rt (.fls [.bl false, .int (s + p.length - 1)]) (h ++ [.lst (ls.map lD)])
        else .nx [some (lD t), some (.bl star), some (.fls parts), some (.ref h.length), some (.int (s + p.length + 1)), some (.int (j : Int)), some (lD p), some (.bl false), e] (h ++ [.lst ((ls ++ [p]).map lD)]) := by
  have h1 : t.length ≤ sizeLine := line4k (by omega)
  have h2 : p.length ≤ sizeLine := line4k (by omega)
  have h3 : ls.length < sizeLine := by rw [sizeLine_eq]; omega
  have hr : inR (p.length : Int) = true := inR_ok (by omega) (by omega)
  have ht1 : cutS (tx p) none (some 1) = tx (p.take 1) := cutS_to (by omega)
  have la1 : ((j : Int) = (n : Int) - 1) ↔ j + 1 = n := by omega
  have j0 : ((j : Int) = 0) ↔ j = 0 := by omega
  obtain ⟨e8', lp⟩ := law_part (t := t) (sd := some (.bl star)) (parts := parts) (h := h) (ls := ls) (s := s) (j := (j : Int)) (la := decide (j + 1 = n)) hpz p [] 0 e8 rfl rfl
  have z0 : ((0 : Nat) : Int) = 0 := rfl
  rw [z0] at lp
  refine ⟨e8', rfl, ?_⟩
  have pre : ∀ (rest : S), sSeq (sSet 6 (eB opIx (eV 2) (eV 5))) (sSeq (sSet 7 (eB opEq (eV 5) (eB opSub (eN opLen [(eV 2)]) (eC (.int 1))))) rest) [some (lD t), some (.bl star), some (.fls parts), some (.ref h.length), some (.int s), some (.int (j : Int)), e6, e7, e8] (h ++ [.lst (ls.map lD)]) = rest (ew t (some (.bl star)) parts h s j p (decide (j + 1 = n)) e8) (h ++ [.lst (ls.map lD)]) := by
    intro rest
    simp [hp, hn, la1]
  unfold b__law_scan_1
  rw [pre]
  have cond : (tAndM (tBl (eB opEq (eV 5) (eC (.int 0)))) (tAndM (tTru (eV 1)) (tBl (eB opEq (eSlF (eV 6) none (some (eC (.int 1)))) (eC (.str "*")))))) (ew t (some (.bl star)) parts h s j p (decide (j + 1 = n)) e8) (h ++ [.lst (ls.map lD)]) = .ok false (h ++ [.lst (ls.map lD)]) := by
    by_cases q1 : j = 0
    · subst q1
      cases star with
      | false => simp
      | true =>
        have q2 : p.take 1 ≠ [42] := fun e => hns ⟨rfl, rfl, e⟩
        simp [lD, h2, ht1, l_star, q2]
    · simp [j0, q1]
  have fr : (sFor (mRng1 (eN opLen [(eV 6)])) (gtName 8) b__law_scan_2) (ew t (some (.bl star)) parts h s j p (decide (j + 1 = n)) e8) (h ++ [.lst (ls.map lD)]) = forL (gtName 8) b__law_scan_2 none (rngD 0 p.length) (ew t (some (.bl star)) parts h s j p (decide (j + 1 = n)) e8) (h ++ [.lst (ls.map lD)]) := by
    simp [lD, h2, hr]
  rw [sSeq_eq, sIf_eq, cond, sIf1_f, sSeq_eq, fr, lp]
  cases q : fa ls.length 0 p with
  | some x => rfl
  | none =>
    dsimp only
    by_cases c1 : j + 1 = n
    · by_cases c2 : p = []
      · subst c2
        by_cases c3 : t = []
        · subst c3
          simp [c1, lD, l_nil]
        · simp [c1, lD, l_nil, c3]
      · simp [c1, c2, lD, l_nil, h1]
    · by_cases c2 : p = []
      · subst c2
        simp [c1, lD, l_nil]
      · obtain ⟨z, hz1⟩ : ∃ z, p.getLast? = some z := ⟨_, List.getLast?_eq_some_getLast c2⟩
        by_cases c3 : z = 45
        · subst c3
          simp [c1, c2, lD, l_nil, l_dash, h2, atI_m1, hz1]
        · simp [c1, c2, c3, lD, l_nil, l_dash, h2, h3, atI_m1, hz1]
def resL (t : List Nat) (star : Bool) (all : List (List Nat)) (h g : Hh) (x4 x5 x6 x7 x8 : Option D) : Nat ⊕ List (List Nat) → SR
  | .inl pl => .rt (.fls [.bl false, .int (pl : Int)]) (h ++ g)
  | .inr out => .nx [some (lD t), some (.bl star), some (.fls (all.map lD)), some (.ref h.length), x4, x5, x6, x7, x8] (h ++ [.lst (out.map lD)])
theorem law_parts {t : List Nat} {star : Bool} {all : List (List Nat)} (hz : t.length ≤ 4090) (hall : all.length ≤ 4092) (hpz : ∀ p ∈ all, p.length ≤ 4096) : ∀ (ps pre ls : List (List Nat)) (s j : Nat) (e5 e6 e7 e8 : Option D), ps ≠ [] → all = pre ++ ps → pre.length = j → ls.length ≤ j →
    (∀ p r, ps = p :: r → ¬ (j = 0 ∧ star = true ∧ p.take 1 = [42])) →
    ∃ g x4 x5 x6 x7 x8, forL (gtName 5) b__law_scan_1 none (rngD (j : Int) ps.length) [some (lD t), some (.bl star), some (.fls (all.map lD)), some (.ref h.length), some (.int (s : Int)), e5, e6, e7, e8] (h ++ [.lst (ls.map lD)]) =
      resL t star all h g x4 x5 x6 x7 x8 (sc t.length s ls ps)
  | [], _, _, _, _, _, _, _, _, h0, _, _, _, _ => absurd rfl h0
  | [p], pre, ls, s, j, e5, e6, e7, e8, _, ha, hj, hls, hns => by
    have hn : all.length = j + 1 := by rw [ha]; simp [hj]
    have hat : atI (all.map lD) (j : Int) = some (lD p) := by
      rw [atI_pos (by omega), ha]
      simp [← hj]
    obtain ⟨e, _, st⟩ := law_step (h := h) (ls := ls) (t := t) (p := p) (parts := all.map lD) (star := star) (s := (s : Int)) (j := j) (n := j + 1) (e6 := e6) (e7 := e7) (e8 := e8) hz (hpz p (by rw [ha]; simp)) (by simp [hn]) hat (by omega) (hns p [] rfl)
    rw [show [p].length = 0 + 1 from rfl, rngD_succ]
    cases q : fa ls.length 0 p with
    | some x =>
      rw [q] at st
      refine ⟨[.lst (ls.map lD)], none, none, none, none, none, ?_⟩
      rw [forL_rt (gd := none) trivial rfl st]
      simp [sc, q, resL]
    | none =>
      rw [q] at st
      dsimp only at st
      rw [if_pos rfl] at st
      by_cases c1 : p ≠ [] ∨ t = []
      · rw [if_pos c1] at st
        refine ⟨[.lst (ls.map lD)], none, none, none, none, none, ?_⟩
        rw [forL_rt (gd := none) trivial rfl st]
        have c1' : p ≠ [] ∨ t.length = 0 := by simpa using c1
        simp only [sc, q, if_pos c1', resL]
      · rw [if_neg c1] at st
        refine ⟨[], some (.int (s : Int)), some (.int (j : Int)), some (lD p), some (.bl true), e, ?_⟩
        rw [forL_nx (gd := none) trivial rfl st, rngD_nil, forL_nil (gd := none) trivial]
        have c1' : ¬ (p ≠ [] ∨ t.length = 0) := by simpa using c1
        simp only [sc, q, if_neg c1', resL]
  | p :: p2 :: ps, pre, ls, s, j, e5, e6, e7, e8, _, ha, hj, hls, hns => by
    have hn : all.length = j + 2 + ps.length := by rw [ha]; simp [hj]; omega
    have hat : atI (all.map lD) (j : Int) = some (lD p) := by
      rw [atI_pos (by omega), ha]
      simp [← hj]
    obtain ⟨e, _, st⟩ := law_step (h := h) (ls := ls) (t := t) (p := p) (parts := all.map lD) (star := star) (s := (s : Int)) (j := j) (n := all.length) (e6 := e6) (e7 := e7) (e8 := e8) hz (hpz p (by rw [ha]; simp)) (by simp) hat (by omega) (hns p _ rfl)
    rw [show (p :: p2 :: ps).length = (p2 :: ps).length + 1 from rfl, rngD_succ]
    cases q : fa ls.length 0 p with
    | some x =>
      rw [q] at st
      refine ⟨[.lst (ls.map lD)], none, none, none, none, none, ?_⟩
      rw [forL_rt (gd := none) trivial rfl st]
      simp [sc, q, resL]
    | none =>
      rw [q] at st
      dsimp only at st
      rw [if_neg (by omega)] at st
      by_cases c0 : p = []
      · rw [if_pos c0] at st
        refine ⟨[.lst (ls.map lD)], none, none, none, none, none, ?_⟩
        rw [forL_rt (gd := none) trivial rfl st]
        simp only [sc, q, if_pos c0, resL]
      · rw [if_neg c0] at st
        by_cases c1 : p.getLast? = some 45
        · rw [if_pos c1] at st
          refine ⟨[.lst (ls.map lD)], none, none, none, none, none, ?_⟩
          rw [forL_rt (gd := none) trivial rfl st]
          have c2 : 0 < p.length := List.length_pos_iff.mpr c0
          have c3 : (s : Int) + p.length - 1 = ((s + p.length - 1 : Nat) : Int) := by omega
          simp only [sc, q, if_neg c0, if_pos c1, resL, c3]
        · rw [if_neg c1] at st
          obtain ⟨g, x4, x5, x6, x7, x8, ih⟩ := law_parts hz hall hpz (p2 :: ps) (pre ++ [p]) (ls ++ [p]) (s + p.length + 1) (j + 1) (some (.int (j : Int))) (some (lD p)) (some (.bl false)) e (by simp) (by rw [ha]; simp) (by simp [hj]) (by simp; omega) (fun _ _ _ z => by omega)
          refine ⟨g, x4, x5, x6, x7, x8, ?_⟩
          rw [forL_nx (gd := none) trivial rfl st]
          simp only [sc, q, if_neg c0, if_neg c1]
          have c3 : (s : Int) + p.length + 1 = ((s + p.length + 1 : Nat) : Int) := by omega
          rw [c3]
          exact ih
theorem spl_len : ∀ u : List Nat, (spl 46 u).length ≤ u.length + 1 := by
  intro u
  induction u with
  | nil => simp [spl]
  | cons x u ih =>
    unfold spl
    split
    · simp; omega
    · split
      · simp
      · rename_i e; rw [e] at ih; simp at ih ⊢; omega
theorem spl_part : ∀ (u p : List Nat), p ∈ spl 46 u → p.length ≤ u.length := by
  intro u
  induction u with
  | nil => intro p hp; simp [spl] at hp; simp [hp]
  | cons x u ih =>
    intro p hp
    unfold spl at hp
    split at hp
    · rcases List.mem_cons.mp hp with rfl | hp
      · simp
      · have := ih p hp; simp; omega
    · cases q : spl 46 u with
      | nil => exact absurd q (spl_ne 46 u)
      | cons p0 ps =>
        rw [q] at hp ih
        rcases List.mem_cons.mp hp with rfl | hp
        · have := ih p0 (by simp); simp; omega
        · have := ih p (by simp [hp]); simp; omega
/-- what the law's reading answers -/
def resW (h : Hh) : Nat ⊕ List (List Nat) → R D
  | .inl pl => .ok (.fls [.bl false, .int (pl : Int)]) h
  | .inr out => .ok (.fls [.bl true, .tup (out.map lD)]) h
end
theorem law_scan_spec (t : List Nat) (star : Bool) (h : Hh) (hz : t.length ≤ 4090) : m__law_scan [lD t, .bl star] h = resW h (scan t star) := by
  have h1 : t.length ≤ sizeLine := line4k (by omega)
  have h2 : t.length + 2 ≤ sizeLine := by rw [sizeLine_eq]; omega
  by_cases c0 : t = [46]
  · subst c0
    simp [m__law_scan, b__law_scan, scan, lD, l_dot, trR_ok0, resW]
  · unfold scan
    rw [if_neg c0]
    have hsp : Txt.split (tx t) (tx [46]) = (spl 46 t).map tx := split_tx t 46
    have hmm : ((spl 46 t).map tx).map D.str = (spl 46 t).map lD := by rw [List.map_map]; rfl
    have hcm : ∀ l : List (List Nat), l.map (D.str ∘ tx) = l.map lD := fun l => rfl
    have hl : (spl 46 t).length ≤ 4091 := by have := spl_len t; omega
    have hlI : inR ((spl 46 t).length : Int) = true := inR_ok (by omega) (by omega)
    have hps : ∀ p ∈ spl 46 t, p.length ≤ 4096 := fun p hp => by have := spl_part t p hp; omega
    have fin : ∀ (o : Nat ⊕ List (List Nat)), (∃ g x4 x5 x6 x7 x8, forL (gtName 5) b__law_scan_1 none (rngD 0 (spl 46 t).length) [some (lD t), some (.bl star), some (.fls ((spl 46 t).map lD)), some (.ref h.length), some (.int 0), none, none, none, none] (h ++ [.lst []]) = resL t star (spl 46 t) h g x4 x5 x6 x7 x8 o) →
        m__law_scan [lD t, .bl star] h = resW h o := by
      rintro o ⟨g, x4, x5, x6, x7, x8, e⟩
      cases o with
      | inl pl =>
        simp [lD, resL] at e
        simp [m__law_scan, b__law_scan, lD, l_dot, c0, h2, hsp, hlI, hcm, e, trR_app, resW, los_lD]
      | inr out =>
        simp [lD, resL] at e
        simp [m__law_scan, b__law_scan, lD, l_dot, c0, h2, hsp, hlI, hcm, e, trR_app, resW, los_lD]
    by_cases c1 : star = true ∧ t.head? = some 42
    · rw [if_pos c1]
      obtain ⟨c1, c2⟩ := c1
      subst c1
      obtain ⟨u, rfl⟩ : ∃ u, t = 42 :: u := by
        cases t with
        | nil => simp at c2
        | cons x u => simp at c2; exact ⟨u, by rw [c2]⟩
      obtain ⟨p, ps, hp, hp1⟩ : ∃ p ps, spl 46 (42 :: u) = (42 :: p) :: ps ∧ spl 46 u = p :: ps := by
        cases q : spl 46 u with
        | nil => exact absurd q (spl_ne 46 u)
        | cons p ps => exact ⟨p, ps, by simp [spl, q], rfl⟩
      have hpl : (42 :: p).length ≤ sizeLine := line4k (by have := hps (42 :: p) (by rw [hp]; simp); omega)
      have hpl' : p.length + 1 ≤ sizeLine := hpl
      have ht1 : cutS (tx (42 :: p)) none (some 1) = tx [42] := by rw [cutS_to (by omega)]; rfl
      by_cases c3 : p = [] ∧ ps ≠ []
      · obtain ⟨c3, c4⟩ := c3
        subst c3
        obtain ⟨v, rfl⟩ : ∃ v, u = 46 :: v := by
          cases u with
          | nil => simp [spl] at hp1; exact absurd hp1 c4
          | cons x v =>
            by_cases hx : x = 46
            · exact ⟨v, by rw [hx]⟩
            · simp only [spl, if_neg hx] at hp1
              cases q : spl 46 v with
              | nil => exact absurd q (spl_ne 46 v)
              | cons a b => rw [q] at hp1; simp at hp1
        have hv : spl 46 v = ps := by simpa [spl] using hp1
        rw [if_pos (by rfl)]
        apply fin
        rw [hp, show (((42 :: []) :: ps) : List (List Nat)).length = ps.length + 1 from rfl, rngD_succ]
        obtain ⟨g, x4, x5, x6, x7, x8, e⟩ := law_parts (h := h) (t := 42 :: 46 :: v) (star := true) (all := [42] :: ps) hz (by rw [← hp]; omega) (by rw [← hp]; exact hps) ps [[42]] [[42]] 2 1 (some (.int 0)) (some (lD [42])) (some (.bl false)) none c4 rfl rfl (by simp) (fun _ _ _ z => by omega)
        refine ⟨g, x4, x5, x6, x7, x8, ?_⟩
        have hat : atI (([42] :: ps).map lD) (0 : Int) = some (lD [42]) := by rw [atI_pos (by omega)]; rfl
        have hat' : atI (lD [42] :: ps.map lD) (0 : Int) = some (lD [42]) := hat
        have hps0 : 0 < ps.length := List.length_pos_iff.mpr c4
        have hns : ¬ ((0 : Int) = (ps.length : Int) + 1 - 1) := by omega
        have hs0 : 0 < sizeLine := by rw [sizeLine_eq]; omega
        have hs1 : 1 ≤ sizeLine := by rw [sizeLine_eq]; omega
        have st : b__law_scan_1 [some (lD (42 :: 46 :: v)), some (.bl true), some (.fls (([42] :: ps).map lD)), some (.ref h.length), some (.int 0), some (.int 0), none, none, none] (h ++ [.lst []]) =
            .nx [some (lD (42 :: 46 :: v)), some (.bl true), some (.fls (([42] :: ps).map lD)), some (.ref h.length), some (.int 2), some (.int 0), some (lD [42]), some (.bl false), none] (h ++ [.lst ([[42]].map lD)]) := by
          have ht1' : cutS (tx [42]) none (some 1) = tx [42] := ht1
          have hne : ps ≠ [] := c4
          simp [b__law_scan_1, hat', lD] at *
          simp [b__law_scan_1, hat', lD, l_star, ht1', hns, hs0, hs1, hne]
        rw [forL_nx (gd := none) trivial rfl st]
        rw [show spl 46 (List.drop 2 (42 :: 46 :: v)) = ps from hv]
        exact e
      · rw [if_neg (by
          intro e
          apply c3
          cases u with
          | nil => simp at e
          | cons x v =>
            simp at e
            subst e
            simp [spl] at hp1
            exact ⟨hp1.1, by rw [← hp1.2]; exact spl_ne 46 v⟩)]
        apply fin
        rw [hp, show (((42 :: p) :: ps) : List (List Nat)).length = ps.length + 1 from rfl, rngD_succ]
        refine ⟨[.lst []], none, none, none, none, none, ?_⟩
        have hat' : atI (lD (42 :: p) :: ps.map lD) (0 : Int) = some (lD (42 :: p)) := by rw [atI_pos (by omega)]; rfl
        have st : b__law_scan_1 [some (lD (42 :: u)), some (.bl true), some (.fls (((42 :: p) :: ps).map lD)), some (.ref h.length), some (.int 0), some (.int 0), none, none, none] (h ++ [.lst []]) =
            .rt (.fls [.bl false, .int 1]) (h ++ [.lst []]) := by
          by_cases c5 : p = []
          · subst c5
            have c6 : ps = [] := by
              refine Classical.byContradiction fun z => c3 ⟨rfl, z⟩
            subst c6
            have hs1 : 1 ≤ sizeLine := by rw [sizeLine_eq]; omega
            simp [b__law_scan_1, lD, l_star, ht1, hs1] at hat' ⊢
            simp [hat', lD, l_star, ht1, hs1]
          · simp [b__law_scan_1, lD, l_star] at hat' ⊢
            simp [hat', lD, l_star, ht1, hpl', c5]
        rw [forL_rt (gd := none) trivial rfl st]
        rfl
    · rw [if_neg c1]
      apply fin
      obtain ⟨g, x4, x5, x6, x7, x8, e⟩ := law_parts (h := h) (t := t) (star := star) (all := spl 46 t) hz (by omega) hps (spl 46 t) [] [] 0 0 none none none none (spl_ne _ _) rfl rfl (by simp) (fun p r hp ⟨_, hs, hq⟩ => by
        apply c1
        refine ⟨hs, ?_⟩
        have := cat_spl 46 t
        rw [hp] at this
        cases p with
        | nil => simp at hq
        | cons x p =>
          simp at hq
          rw [← this, hq]
          cases r <;> rfl)
      exact ⟨g, x4, x5, x6, x7, x8, e⟩
end Lk02
/-! names written; what is read is written as the text again -/
namespace Lk02
open PySem L2 PyProof.Rows Sm SmPool
/-! ### _law_same of equal things -/
theorem same_refl : ∀ (k n : Nat) (d : D) (h : Hh), k ≤ n → tm k d = true → m__law_same n [d, d] h = .ok (.bl true) h
  | 0, _, _, _, _, e => by simp [tm] at e
  | k + 1, 0, _, _, l, _ => by omega
  | k + 1, n + 1, d, h, l, e => by
    have seq : ∀ ds : List D, (∀ d ∈ ds, ∀ h, m__law_same n [d, d] h = .ok (.bl true) h) → ds.length ≤ 4096 → (x : D) → (∀ env g, g = h → env = [some x, some x, none] → eN opLen [eV 0] env g = .ok (.int ds.length) g ∧ eN opLen [eV 1] env g = .ok (.int ds.length) g) → (∀ (i : Nat) (hi : i < ds.length) g, opIx x (.int i) g = some (ds[i], g)) →
        fz1 h (lcL (gtName 2) tYesM (eCall (m__law_same n) [(eB opIx (eV 0) (eV 2)), (eB opIx (eV 1) (eV 2))]) [2] h.length none [some x, some x, none] (rngD 0 ds.length) (h ++ [.lst []])) = .ok (.fls ((List.range ds.length).map fun _ => .bl true)) h := by
      intro ds hs hl x _ hx
      rw [rngD_range]
      refine fz_lcM (fun (k : Nat) => D.int (k : Int)) (fun _ => .bl true) (List.range ds.length) (fun i hi acc => ?_) (by rw [List.length_range]; exact line4k (by omega)) (by simp [los_all])
      have hi' : i < ds.length := by simpa using hi
      simp [hx i hi', hs ds[i] (by simp)]
    cases d with
    | non => simp [m__law_same, b__law_same, trR_ok0]
    | bl b => simp [m__law_same, b__law_same, trR_ok0]
    | int i => simp [m__law_same, b__law_same, trR_ok0]
    | str x => simp [m__law_same, b__law_same, trR_ok0]
    | ref r => exact absurd e tm_ref
    | tup ds =>
      obtain ⟨h1, h2⟩ := tm_tup e
      have hr : inR (ds.length : Int) = true := inR_ok (by omega) (by omega)
      have q := seq ds (fun d hd h => same_refl k n d h (by omega) (tms_mem h1 hd)) h2 (.tup ds) (fun env g hg he => by subst hg he; simp) (fun i hi g => by
        rw [opIx_t, atI_pos (by omega)]
        simp [hi])
      have hb := bools_map (fun _ : Nat => true) (List.range ds.length)
      simp [m__law_same, b__law_same, trR_ok0, hr, q, hb]
    | fls ds =>
      obtain ⟨h1, h2⟩ := tm_fls e
      have hr : inR (ds.length : Int) = true := inR_ok (by omega) (by omega)
      have q := seq ds (fun d hd h => same_refl k n d h (by omega) (tms_mem h1 hd)) h2 (.fls ds) (fun env g hg he => by subst hg he; simp) (fun i hi g => by
        rw [opIx_f, atI_pos (by omega)]
        simp [hi])
      have hb := bools_map (fun _ : Nat => true) (List.range ds.length)
      simp [m__law_same, b__law_same, trR_ok0, hr, q, hb]
theorem same_refl' (d : D) (h : Hh) (e : tm 5 d = true) : m__law_same 12 [d, d] h = .ok (.bl true) h := same_refl 5 12 d h (by omega) e
/-! ### owners as lists of labels -/
def labs (ls : List (List Nat)) : D := .tup (ls.map lD)
theorem labD_lD (l : List Nat) : labD (lD l) = labL l := by simp [labD, lD]
theorem namD_labs (ls : List (List Nat)) : namD (labs ls) = (decide (ls.length ≤ 6) && ls.all labL) := by
  have : (labD ∘ lD) = labL := by funext l; exact labD_lD l
  simp [namD, labs, List.all_map, this]
theorem namD_is {d : D} (h : namD d = true) : ∃ ls, d = labs ls ∧ ls.length ≤ 6 ∧ ∀ l ∈ ls, labL l = true := by
  cases d with
  | tup ds =>
    simp only [namD, Bool.and_eq_true, decide_eq_true_eq, List.all_eq_true] at h
    obtain ⟨h1, h2⟩ := h
    have : ∀ ds : List D, (∀ x ∈ ds, labD x = true) → ∃ ls : List (List Nat), ds = ls.map lD ∧ ∀ l ∈ ls, labL l = true := by
      intro ds
      induction ds with
      | nil => intro _; exact ⟨[], rfl, by simp⟩
      | cons d ds ih =>
        intro h
        obtain ⟨ls, rfl, h3⟩ := ih fun x hx => h x (by simp [hx])
        have hd := h d (by simp)
        cases d with
        | str x =>
          refine ⟨x.cps.toList :: ls, ?_, ?_⟩
          · simp only [List.map_cons, lD]
            rw [← tx_of x]
          · intro l hl
            rcases List.mem_cons.mp hl with rfl | hl
            · exact hd
            · exact h3 l hl
        | _ => simp [labD] at hd
    obtain ⟨ls, rfl, h3⟩ := this ds h2
    exact ⟨ls, rfl, by simpa using h1, h3⟩
  | _ => simp [namD] at h
theorem ownD_is {d : D} (h : ownD d = true) : ∃ ls, d = labs ls ∧ ls.length ≤ 6 ∧ ((∀ l ∈ ls, labL l = true) ∨ ∃ r, ls = [42] :: r ∧ ∀ l ∈ r, labL l = true) := by
  by_cases hs : ∃ r, d = .tup (.str "*" :: r)
  · obtain ⟨r, rfl⟩ := hs
    rw [ownD_star] at h
    simp only [Bool.and_eq_true, decide_eq_true_eq] at h
    obtain ⟨ls, e, h1, h2⟩ := namD_is (d := .tup r) (by simp only [namD, Bool.and_eq_true, decide_eq_true_eq]; exact ⟨by omega, h.2⟩)
    simp [labs] at e
    subst e
    refine ⟨[42] :: ls, by simp [labs, lD, l_star], by simpa using h.1, .inr ⟨ls, rfl, h2⟩⟩
  · have : ownD d = namD d := by
      cases d with
      | tup ds => exact ownD_of fun r e => hs ⟨r, by rw [e]⟩
      | _ => rfl
    rw [this] at h
    obtain ⟨ls, e, h1, h2⟩ := namD_is h
    exact ⟨ls, e, h1, .inl h2⟩
/-- the text of an owner -/
def fmt (ls : List (List Nat)) : List Nat := if ls = [] then [46] else (ls.map (· ++ [46])).flatten
theorem lab_len {l : List Nat} (h : labL l = true) : l.length ≤ 12 ∧ l ≠ [] := by
  simp [labL] at h
  exact ⟨h.1.1.1.2, h.1.1.1.1⟩
theorem join_spec (ls : List (List Nat)) (hl : ls.length ≤ 6) (hk : ∀ l ∈ ls, l.length ≤ 12) (env : Ev) (h : Hh) (i : Nat) (hi : i < env.length) :
    fz1 h (lcL (gtName i) tYesM (eB opAdd (eV i) (eC (.str "."))) [i] h.length none env (ls.map lD) (h ++ [.lst []])) = .ok (.fls (ls.map fun l => .str (tx (l ++ [46])))) h ∧
    opJoin (.str "") (.fls (ls.map fun l => .str (tx (l ++ [46])))) h = some (.str (tx (ls.map (· ++ [46])).flatten), h) := by
  constructor
  · refine fz_lcM lD (fun l => .str (tx (l ++ [46]))) ls (fun l hl' acc => ?_) (line4k (by omega)) (by simp [los_all])
    have h1 : l.length + 1 ≤ sizeLine := line4k (by have := hk l hl'; omega)
    simp [lD, hi, l_dot, h1]
  · have hj := join_flat (ls.map (· ++ [46]))
    rw [List.map_map] at hj
    have hj' : (ls.map fun l => tx (l ++ [46])) = ls.map (tx ∘ (· ++ [46])) := rfl
    have hj2 : (ls.map fun l => D.str (tx (l ++ [46]))) = (ls.map fun l => tx (l ++ [46])).map D.str := by rw [List.map_map]; rfl
    rw [hj2, opJoin_f, l_nil, hj', hj]
    have := sumLen (xs := ls.map fun l => tx (l ++ [46])) (B := 13) (fun y hy => by
      rw [List.mem_map] at hy
      obtain ⟨l, hl', rfl⟩ := hy
      have := hk l hl'
      simp
      omega)
    rw [List.length_map] at this
    have h0 : ("" : Str).length = 0 := rfl
    rw [h0, List.length_map]
    omega
theorem check_owner_spec {k : Nat} (d : D) (h : Hh) (hd : tm k d = true) (hk : k ≤ 50) : m_check_owner [d] h = if ownD d = true then .ok .non h else .exc 0 [d, .int 0] h := by
  have := is_owner_spec d h hd hk
  cases q : ownD d with
  | true => simp [m_check_owner, b_check_owner, this, q, trR_ok0]
  | false => simp [m_check_owner, b_check_owner, this, q, trR_exc0]
theorem format_bad {k : Nat} (d : D) (h : Hh) (hd : tm k d = true) (hk : k ≤ 50) (ho : ownD d = false) : m_format_owner [d] h = .exc 0 [d, .int 0] h := by
  have := check_owner_spec d h hd hk
  simp [m_format_owner, b_format_owner, this, ho, trR_exc0]
theorem tm_labs {ls : List (List Nat)} (hl : ls.length ≤ 6) (hk : ∀ l ∈ ls, l.length ≤ 12 ∧ ∀ c ∈ l, c < 128) : tm 2 (labs ls) = true := by
  refine tm_mkT (fun d hd => ?_) (by simp; omega)
  rw [List.mem_map] at hd
  obtain ⟨l, hl', rfl⟩ := hd
  exact tm_mkS (fun c hc => (hk l hl').2 c hc) (by have := (hk l hl').1; omega)
end Lk02
/-! what is read is written as the text again, and the other way round -/
namespace Lk02
open PySem L2 PyProof.Rows Sm SmPool
theorem let_small {c : Nat} (h : isLet c = true) : c < 128 := by
  have : LET.cps.toList.all (· < 128) = true := by decide +kernel
  unfold isLet inS at h
  have h1 := List.all_eq_true.mp this c (by simpa using h)
  simpa using h1
theorem lab_all {l : List Nat} (h : labL l = true) : ∀ c ∈ l, isLet c = true := by
  simp only [labL, Bool.and_eq_true] at h
  exact fun c hc => List.all_eq_true.mp h.1.1.2 c hc
theorem lab_head {l : List Nat} (h : labL l = true) : l.head? ≠ some 45 := by
  simp only [labL, Bool.and_eq_true, decide_eq_true_eq] at h
  exact h.1.2
theorem lab_last {l : List Nat} (h : labL l = true) : l.getLast? ≠ some 45 := by
  simp only [labL, Bool.and_eq_true, decide_eq_true_eq] at h
  exact h.2
theorem isLet42 : isLet 42 = false := by decide +kernel
/-- right: labels, a star ahead if it is allowed -/
def good (star : Bool) (ls : List (List Nat)) : Prop := ls.length ≤ 6 ∧ ((∀ l ∈ ls, labL l = true) ∨ (star = true ∧ ∃ r, ls = [42] :: r ∧ ∀ l ∈ r, labL l = true))
theorem good_tm {star : Bool} {ls : List (List Nat)} (h : good star ls) : tm 2 (labs ls) = true := by
  refine tm_labs h.1 fun l hl => ?_
  rcases h.2 with h2 | ⟨_, r, rfl, h2⟩
  · exact ⟨(lab_len (h2 l hl)).1, fun c hc => let_small (lab_all (h2 l hl) c hc)⟩
  · rcases List.mem_cons.mp hl with rfl | hl
    · exact ⟨by simp, fun c hc => by simp at hc; omega⟩
    · exact ⟨(lab_len (h2 l hl)).1, fun c hc => let_small (lab_all (h2 l hl) c hc)⟩
theorem good_own {star : Bool} {ls : List (List Nat)} (h : good star ls) : ownD (labs ls) = true := by
  obtain ⟨h1, h2⟩ := h
  rcases h2 with h2 | ⟨_, r, rfl, h2⟩
  · have : ownD (labs ls) = namD (labs ls) := ownD_of fun r e => by
      cases ls with
      | nil => simp at e
      | cons l ls =>
        simp [lD, l_star] at e
        have := lab_all (h2 l (by simp)) 42 (by rw [e.1]; simp)
        rw [isLet42] at this
        cases this
    rw [this, namD_labs]
    simp [h1]
    exact h2
  · have e : labs ([42] :: r) = .tup (.str "*" :: r.map lD) := by simp [labs, lD, l_star]
    rw [e, ownD_star]
    have e2 : (labD ∘ lD) = labL := by funext l; exact labD_lD l
    simp [List.all_map, e2]
    exact ⟨by simpa using h1, h2⟩
theorem own_good {d : D} (h : ownD d = true) : ∃ ls, d = labs ls ∧ good true ls := by
  obtain ⟨ls, e, h1, h2⟩ := ownD_is h
  exact ⟨ls, e, h1, h2.imp id fun z => ⟨rfl, z⟩⟩
theorem nam_good {d : D} (h : namD d = true) : ∃ ls, d = labs ls ∧ good false ls := by
  obtain ⟨ls, e, h1, h2⟩ := namD_is h
  exact ⟨ls, e, h1, .inl h2⟩
theorem format_good {star : Bool} {ls : List (List Nat)} (g : good star ls) (h : Hh) : m_format_owner [labs ls] h = .ok (.str (tx (fmt ls))) h := by
  have ht := good_tm g
  have ck := check_owner_spec (labs ls) h ht (by omega)
  rw [good_own g, if_pos rfl] at ck
  have okt : okD 60 (labs ls) = true := okD_mono (by omega) (tm_ok ht)
  have eq := opEq_ok (a := labs ls) (b := .tup []) h okt rfl
  have hk : ∀ l ∈ ls, l.length ≤ 12 := by
    intro l hl
    rcases g.2 with h2 | ⟨_, r, rfl, h2⟩
    · exact (lab_len (h2 l hl)).1
    · rcases List.mem_cons.mp hl with rfl | hl
      · simp
      · exact (lab_len (h2 l hl)).1
  by_cases h0 : ls = []
  · subst h0
    simp [labs, eqd, eqds] at ck eq
    simp [m_format_owner, b_format_owner, labs, ck, eq, fmt, l_dot, trR_ok0]
  · obtain ⟨j1, j2⟩ := join_spec ls g.1 hk [some (labs ls), none] h 1 (by simp)
    have e0 : eqd (labs ls) (.tup []) = false := by
      cases ls with
      | nil => exact absurd rfl h0
      | cons _ _ => simp [labs, eqd, eqds]
    rw [e0] at eq
    simp only [labs] at ck eq j1
    simp [m_format_owner, b_format_owner, labs, ck, eq, j1, j2, fmt, trR_ok0, h0]
/-! ### the parts of a text -/
theorem fa_some {nl : Nat} : ∀ (r : List Nat) (k : Nat), 1 ≤ k → k ≤ 12 → (fa nl k r = none ↔ (∀ c ∈ r, isLet c = true) ∧ k + r.length ≤ 12)
  | [], k, _, h => by simp [fa]; omega
  | c :: r, k, h1, h2 => by
    by_cases q : isLet c = false ∨ k = 12
    · simp only [fa, if_pos q]
      constructor
      · intro z; cases z
      · intro ⟨z1, z2⟩
        rcases q with q | q
        · have := z1 c (by simp); rw [q] at this; cases this
        · simp at z2; omega
    · obtain ⟨q1, q2⟩ := not_or.mp q
      have q1 : isLet c = true := by simpa using q1
      simp only [fa, if_neg q, if_neg (show ¬ (k = 0 ∧ (c = 45 ∨ nl = 6)) by omega)]
      rw [fa_some r (k + 1) (by omega) (by omega)]
      simp only [List.mem_cons, forall_eq_or_imp, q1, true_and, List.length_cons]
      constructor
      · rintro ⟨a, b⟩; exact ⟨a, by omega⟩
      · rintro ⟨a, b⟩; exact ⟨a, by omega⟩
theorem fa_none {nl : Nat} {p : List Nat} (h0 : p ≠ []) : fa nl 0 p = none ↔ (∀ c ∈ p, isLet c = true) ∧ p.length ≤ 12 ∧ p.head? ≠ some 45 ∧ nl ≠ 6 := by
  cases p with
  | nil => exact absurd rfl h0
  | cons c r =>
    by_cases q : isLet c = false ∨ (0 : Nat) = 12
    · have q1 : isLet c = false := q.resolve_right (by omega)
      simp only [fa, if_pos q]
      constructor
      · intro z; cases z
      · intro ⟨z1, _⟩
        have := z1 c (by simp); rw [q1] at this; cases this
    · have q1 : isLet c = true := by simpa using q
      by_cases q3 : c = 45 ∨ nl = 6
      · rw [fa, if_neg q, if_pos ⟨rfl, q3⟩]
        constructor
        · intro z; cases z
        · intro ⟨_, _, z3, z4⟩
          rcases q3 with q | q
          · exact absurd (by simp [q]) z3
          · exact absurd q z4
      · rw [fa, if_neg q, if_neg (fun z => q3 z.2), fa_some r (0 + 1) (by omega) (by omega)]
        simp only [List.mem_cons, forall_eq_or_imp, q1, true_and, List.length_cons, List.head?_cons]
        constructor
        · rintro ⟨a, b⟩
          exact ⟨a, by omega, fun e => q3 (.inl (by simpa using e)), fun e => q3 (.inr e)⟩
        · rintro ⟨a, b, _, _⟩; exact ⟨a, by omega⟩
theorem lab_iff {nl : Nat} {p : List Nat} (h0 : p ≠ []) : (fa nl 0 p = none ∧ p.getLast? ≠ some 45) ↔ labL p = true ∧ nl ≠ 6 := by
  rw [fa_none h0]
  simp only [labL, Bool.and_eq_true, decide_eq_true_eq, List.all_eq_true]
  have : (!p.isEmpty) = true := by cases p with | nil => exact absurd rfl h0 | cons _ _ => rfl
  constructor
  · rintro ⟨⟨a, b, c, d⟩, e⟩; exact ⟨⟨⟨⟨⟨this, b⟩, a⟩, c⟩, e⟩, d⟩
  · rintro ⟨⟨⟨⟨⟨_, b⟩, a⟩, c⟩, e⟩, d⟩; exact ⟨⟨a, b, c, d⟩, e⟩
theorem sc_back {n : Nat} (hn : n ≠ 0) : ∀ (qs ls : List (List Nat)) (s : Nat), (∀ q ∈ qs, labL q = true) → ls.length + qs.length ≤ 6 → sc n s ls (qs ++ [[]]) = .inr (ls ++ qs)
  | [], ls, s, _, _ => by simp [sc, fa, hn]
  | q :: qs, ls, s, h, hl => by
    have h0 := (lab_len (h q (by simp))).2
    obtain ⟨f1, f2⟩ := (lab_iff (nl := ls.length) h0).mpr ⟨h q (by simp), by simp at hl; omega⟩
    have ih := sc_back hn qs (ls ++ [q]) (s + q.length + 1) (fun x hx => h x (by simp [hx])) (by simp at hl ⊢; omega)
    have ne : ∃ a b, qs ++ [[]] = a :: b := by
      cases qs with
      | nil => exact ⟨_, _, rfl⟩
      | cons a b => exact ⟨_, _, rfl⟩
    obtain ⟨a, b, e⟩ := ne
    rw [List.cons_append, e] 
    simp only [sc, f1, if_neg h0, if_neg f2]
    rw [← e, ih]
    simp
theorem sc_ok {n : Nat} (hn : n ≠ 0) : ∀ (ps ls out : List (List Nat)) (s : Nat), ps ≠ [] → ls.length ≤ 6 → sc n s ls ps = .inr out → ∃ qs, out = ls ++ qs ∧ ps = qs ++ [[]] ∧ (∀ q ∈ qs, labL q = true) ∧ out.length ≤ 6
  | [], _, _, _, h0, _, _ => absurd rfl h0
  | [p], ls, out, s, _, hl, e => by
    cases q : fa ls.length 0 p with
    | some k => simp [sc, q] at e
    | none =>
      simp only [sc, q] at e
      by_cases c : p ≠ [] ∨ n = 0
      · rw [if_pos c] at e; cases e
      · rw [if_neg c] at e
        cases e
        obtain ⟨c1, _⟩ := not_or.mp c
        have c1 : p = [] := by simpa using c1
        subst c1
        exact ⟨[], by simp, rfl, by simp, hl⟩
  | p :: p2 :: ps, ls, out, s, _, hl, e => by
    cases q : fa ls.length 0 p with
    | some k => simp [sc, q] at e
    | none =>
      simp only [sc, q] at e
      by_cases c0 : p = []
      · rw [if_pos c0] at e; cases e
      · rw [if_neg c0] at e
        by_cases c1 : p.getLast? = some 45
        · rw [if_pos c1] at e; cases e
        · rw [if_neg c1] at e
          obtain ⟨g1, g2⟩ := (lab_iff (nl := ls.length) c0).mp ⟨q, c1⟩
          obtain ⟨qs, h1, h2, h3, h4⟩ := sc_ok hn (p2 :: ps) (ls ++ [p]) out _ (by simp) (by simp; omega) e
          refine ⟨p :: qs, by rw [h1]; simp, by rw [h2]; simp, fun x hx => ?_, h4⟩
          rcases List.mem_cons.mp hx with rfl | hx
          · exact g1
          · exact h3 x hx
theorem cat_fmt : ∀ qs : List (List Nat), cat 46 (qs ++ [[]]) = (qs.map (· ++ [46])).flatten
  | [] => rfl
  | q :: qs => by
    have ih := cat_fmt qs
    cases qs with
    | nil => simp [cat]
    | cons a b =>
      rw [List.cons_append] at ih
      rw [List.cons_append, List.cons_append, cat, ih]
      · simp
      · simp
/-- what is read is right, and it is the text -/
theorem scan_ok {t : List Nat} {star : Bool} {ls : List (List Nat)} (e : scan t star = .inr ls) : good star ls ∧ fmt ls = t := by
  unfold scan at e
  by_cases c0 : t = [46]
  · rw [if_pos c0] at e
    cases e
    exact ⟨⟨by simp, .inl (by simp)⟩, by simp [fmt, c0]⟩
  · rw [if_neg c0] at e
    by_cases c1 : star = true ∧ t.head? = some 42
    · rw [if_pos c1] at e
      by_cases c2 : t.take 2 = [42, 46]
      · rw [if_pos c2] at e
        have hn : t.length ≠ 0 := by intro z; simp at z; subst z; simp at c2
        obtain ⟨qs, h1, h2, h3, h4⟩ := sc_ok hn _ _ _ _ (spl_ne _ _) (by simp) e
        subst h1
        refine ⟨⟨h4, .inr ⟨c1.1, qs, rfl, h3⟩⟩, ?_⟩
        have h5 := cat_spl 46 (t.drop 2)
        rw [h2, cat_fmt] at h5
        have h6 := List.take_append_drop 2 t
        rw [c2, ← h5] at h6
        rw [← h6]
        simp [fmt]
      · rw [if_neg c2] at e; cases e
    · rw [if_neg c1] at e
      by_cases hn : t.length = 0
      · simp at hn
        subst hn
        simp [spl, sc, fa] at e
      · obtain ⟨qs, h1, h2, h3, h4⟩ := sc_ok hn _ _ _ _ (spl_ne _ _) (by simp) e
        simp at h1
        subst h1
        refine ⟨⟨h4, .inl h3⟩, ?_⟩
        have h5 := cat_spl 46 t
        rw [h2, cat_fmt] at h5
        unfold fmt
        by_cases z : ls = []
        · subst z
          simp at h5
          exact absurd (by rw [h5]; rfl) hn
        · rw [if_neg z]
          exact h5
/-- and back -/
theorem scan_back {star : Bool} {ls : List (List Nat)} (g : good star ls) (s2 : Bool) (hs : star = true → s2 = true) : scan (fmt ls) s2 = .inr ls := by
  by_cases h0 : ls = []
  · subst h0
    simp [fmt, scan]
  · have f1 : fmt ls = cat 46 (ls ++ [[]]) := by
      unfold fmt
      rw [if_neg h0, cat_fmt]
    have hf : ∀ p ∈ ls ++ [[]], 46 ∉ p := by
      intro p hp
      rw [List.mem_append] at hp
      rcases hp with hp | hp
      · rcases g.2 with h2 | ⟨_, r, rfl, h2⟩
        · intro z
          have := lab_all (h2 p hp) 46 z
          rw [isLet46] at this
          cases this
        · rcases List.mem_cons.mp hp with rfl | hp
          · simp
          · intro z
            have := lab_all (h2 p hp) 46 z
            rw [isLet46] at this
            cases this
      · simp at hp
        subst hp
        simp
    have f2 : spl 46 (fmt ls) = ls ++ [[]] := by rw [f1]; exact spl_cat 46 _ (by simp) hf
    have f3 : fmt ls ≠ [46] := by
      intro z
      rw [z] at f2
      cases ls with
      | nil => exact h0 rfl
      | cons l r =>
        simp [spl] at f2
        have : l ≠ [] := by
          rcases g.2 with h2 | ⟨_, r, e, h2⟩
          · exact (lab_len (h2 l (by simp))).2
          · cases e; simp
        exact this f2.1
    have f4 : (fmt ls).length ≠ 0 := by
      intro z
      simp at z
      rw [z] at f2
      cases ls with
      | nil => exact h0 rfl
      | cons l r => simp [spl] at f2
    unfold scan
    rw [if_neg f3]
    rcases g.2 with h2 | ⟨h1, r, rfl, h2⟩
    · have c1 : ¬ (s2 = true ∧ (fmt ls).head? = some 42) := by
        rintro ⟨_, z⟩
        cases ls with
        | nil => exact h0 rfl
        | cons l r =>
          have hl := (lab_len (h2 l (by simp))).2
          cases l with
          | nil => exact hl rfl
          | cons c l =>
            simp [fmt] at z
            subst z
            have := lab_all (h2 (42 :: l) (by simp)) 42 (by simp)
            rw [isLet42] at this
            cases this
      rw [if_neg c1, f2]
      exact sc_back f4 ls [] 0 h2 (by simpa using g.1)
    · have e1 : fmt ([42] :: r) = 42 :: 46 :: (r.map (· ++ [46])).flatten := by simp [fmt]
      have c1 : s2 = true ∧ (fmt ([42] :: r)).head? = some 42 := ⟨hs h1, by rw [e1]; rfl⟩
      rw [if_pos c1, if_pos (by rw [e1]; rfl)]
      have e2 : spl 46 ((fmt ([42] :: r)).drop 2) = r ++ [[]] := by
        rw [e1]
        show spl 46 (r.map (· ++ [46])).flatten = _
        rw [← cat_fmt]
        exact spl_cat 46 _ (by simp) fun p hp => hf p (by simp at hp ⊢; rcases hp with hp | hp <;> simp [hp])
      rw [e2]
      exact sc_back f4 r [[42]] 2 h2 (by have := g.1; simp at this ⊢; omega)
theorem fmt_len {star : Bool} {ls : List (List Nat)} (g : good star ls) : (fmt ls).length ≤ 100 := by
  unfold fmt
  split
  · simp
  · have hk : ∀ l ∈ ls, l.length ≤ 12 := by
      intro l hl
      rcases g.2 with h2 | ⟨_, r, rfl, h2⟩
      · exact (lab_len (h2 l hl)).1
      · rcases List.mem_cons.mp hl with rfl | hl
        · simp
        · exact (lab_len (h2 l hl)).1
    have : ∀ ls : List (List Nat), (∀ l ∈ ls, l.length ≤ 12) → ((ls.map (· ++ [46])).flatten).length ≤ 13 * ls.length := by
      intro ls
      induction ls with
      | nil => intro _; simp
      | cons l ls ih =>
        intro h
        have h1 := ih fun x hx => h x (by simp [hx])
        have h2 := h l (by simp)
        simp only [List.map_cons, List.flatten_cons, List.length_append, List.length_cons, List.length_nil] at h1 ⊢
        omega
    have h3 := this ls hk
    have h4 := g.1
    omega
theorem fmt_small {star : Bool} {ls : List (List Nat)} (g : good star ls) : ∀ c ∈ fmt ls, c < 128 := by
  intro c hc
  unfold fmt at hc
  split at hc
  · simp at hc; omega
  · rw [List.mem_flatten] at hc
    obtain ⟨q, hq, hc⟩ := hc
    rw [List.mem_map] at hq
    obtain ⟨l, hl, rfl⟩ := hq
    rw [List.mem_append] at hc
    rcases hc with hc | hc
    · rcases g.2 with h2 | ⟨_, r, rfl, h2⟩
      · exact let_small (lab_all (h2 l hl) c hc)
      · rcases List.mem_cons.mp hl with rfl | hl
        · simp at hc; omega
        · exact let_small (lab_all (h2 l hl) c hc)
    · simp at hc; omega
end Lk02
/-! outcomes; what the law asks of a text, of a value, of a label -/
namespace Lk02
open PySem L2 PyProof.Rows Sm SmPool
/-- what such a call's outcome says -/
theorem outcome_told {k : Nat} {w : Int} {v r : D} {h : Hh} (hr : tm k r = true) (e : (w = 0 ∧ m_parse_name [v] h = .ok r h) ∨ (w = 1 ∧ m_parse_owner [v] h = .ok r h) ∨ (w = 2 ∧ m_format_owner [v] h = .ok r h)) :
    m__law_outcome [.int w, v] h = .ok (.fls [.str "told", r]) h := by
  have hl : ∀ n, lo n r = true := fun n => tm_lo hr
  rcases e with ⟨rfl, e⟩ | ⟨rfl, e⟩ | ⟨rfl, e⟩ <;> simp [m__law_outcome, b__law_outcome, e, trR_ok0]
theorem outcome_refused {w : Int} {v a b : D} {h : Hh} (e : (w = 0 ∧ m_parse_name [v] h = .exc 0 [a, b] h) ∨ (w = 1 ∧ m_parse_owner [v] h = .exc 0 [a, b] h) ∨ (w = 2 ∧ m_format_owner [v] h = .exc 0 [a, b] h)) :
    m__law_outcome [.int w, v] h = .ok (.fls [.str "refused", .tup [a, b]]) h := by
  have m0 : mtab 0 0 = some true := rfl
  rcases e with ⟨rfl, e⟩ | ⟨rfl, e⟩ | ⟨rfl, e⟩ <;> simp [m__law_outcome, b__law_outcome, e, trR_ok0, m0]
/-- of reading with or without the star -/
def resO (t : List Nat) : Nat ⊕ List (List Nat) → D
  | .inl pl => .fls [.str "refused", .tup [lD t, .int (pl : Int)]]
  | .inr out => .fls [.str "told", labs out]
theorem parse_name_spec (t : List Nat) (h : Hh) (hz : t.length ≤ 4090) : m_parse_name [lD t] h = res t h (scan t false) := by
  have := scan_owner_spec t false h hz
  cases q : scan t false with
  | inl pl => rw [q] at this; simp only [res] at this ⊢; simp [m_parse_name, b_parse_name, this, trR_exc0]
  | inr out => rw [q] at this; simp only [res] at this ⊢; simp [m_parse_name, b_parse_name, this, trR_ok0]
theorem parse_owner_spec (t : List Nat) (h : Hh) (hz : t.length ≤ 4090) : m_parse_owner [lD t] h = res t h (scan t true) := by
  have := scan_owner_spec t true h hz
  cases q : scan t true with
  | inl pl => rw [q] at this; simp only [res] at this ⊢; simp [m_parse_owner, b_parse_owner, this, trR_exc0]
  | inr out => rw [q] at this; simp only [res] at this ⊢; simp [m_parse_owner, b_parse_owner, this, trR_ok0]
theorem outcome_parse (t : List Nat) (h : Hh) (hz : t.length ≤ 4090) : m__law_outcome [.int 0, lD t] h = .ok (resO t (scan t false)) h ∧ m__law_outcome [.int 1, lD t] h = .ok (resO t (scan t true)) h := by
  constructor
  · have := parse_name_spec t h hz
    cases q : scan t false with
    | inl pl => rw [q] at this; exact outcome_refused (.inl ⟨rfl, this⟩)
    | inr out => rw [q] at this; exact outcome_told (good_tm (scan_ok q).1) (.inl ⟨rfl, this⟩)
  · have := parse_owner_spec t h hz
    cases q : scan t true with
    | inl pl => rw [q] at this; exact outcome_refused (.inr (.inl ⟨rfl, this⟩))
    | inr out => rw [q] at this; exact outcome_told (good_tm (scan_ok q).1) (.inr (.inl ⟨rfl, this⟩))
theorem outcome_format {star : Bool} {ls : List (List Nat)} (g : good star ls) (h : Hh) : m__law_outcome [.int 2, labs ls] h = .ok (.fls [.str "told", lD (fmt ls)]) h :=
  outcome_told (k := 1) (tm_mkS (fmt_small g) (by have := fmt_len g; omega)) (.inr (.inr ⟨rfl, format_good g h⟩))
theorem tm_fls2 {k : Nat} {a b : D} (ha : tm k a = true) (hb : tm k b = true) : tm (k + 1) (.fls [a, b]) = true := tm_mkF (fun d hd => by
  simp at hd
  rcases hd with rfl | rfl
  · exact ha
  · exact hb) (by simp)
theorem tm_tup2 {k : Nat} {a b : D} (ha : tm k a = true) (hb : tm k b = true) : tm (k + 1) (.tup [a, b]) = true := tm_mkT (fun d hd => by
  simp at hd
  rcases hd with rfl | rfl
  · exact ha
  · exact hb) (by simp)
theorem tm_lD {k : Nat} {t : List Nat} (hz : t.length ≤ 4090) (hc : ∀ c ∈ t, c < 128) : tm (k + 1) (lD t) = true := tm_mkS hc (by omega)
theorem tm_told (k : Nat) : tm (k + 1) (.str "told") = true := by
  have : tm 1 (.str "told") = true := by decide +kernel
  exact tm_mono (by omega) this
theorem tm_refused (k : Nat) : tm (k + 1) (.str "refused") = true := by
  have : tm 1 (.str "refused") = true := by decide +kernel
  exact tm_mono (by omega) this
theorem resO_tm {t : List Nat} {star : Bool} (hz : t.length ≤ 4090) (hc : ∀ c ∈ t, c < 128) : tm 5 (resO t (scan t star)) = true := by
  cases q : scan t star with
  | inl pl => exact tm_fls2 (tm_refused 3) (tm_mono (by omega) (tm_tup2 (k := 1) (tm_lD hz hc) rfl))
  | inr out => exact tm_fls2 (tm_told 3) (tm_mono (by omega) (good_tm (scan_ok q).1))
/-- one turn of the law's first question -/
theorem is_read_turn (t : List Nat) (h : Hh) (w : Int) (b : Bool) (hw : (w = 0 ∧ b = false) ∨ (w = 1 ∧ b = true)) (hz : t.length ≤ 4090) (hc : ∀ c ∈ t, c < 128) (e2 e3 : Option D) :
    ∃ e2' e3', b__law_is_read_1 [some (lD t), some (.int w), e2, e3] h = .nx [some (lD t), some (.int w), e2', e3'] h := by
  have hs := law_scan_spec t b h hz
  have ho : m__law_outcome [.int w, lD t] h = .ok (resO t (scan t b)) h := by
    rcases hw with ⟨rfl, rfl⟩ | ⟨rfl, rfl⟩
    · exact (outcome_parse t h hz).1
    · exact (outcome_parse t h hz).2
  have hw1 : decide (w = 1) = b := by
    rcases hw with ⟨rfl, rfl⟩ | ⟨rfl, rfl⟩ <;> rfl
  have hsame := same_refl' (resO t (scan t b)) h (resO_tm hz hc)
  cases q : scan t b with
  | inl pl =>
    rw [q] at hs ho hsame
    simp only [resW, resO] at hs ho hsame
    have a0 : atI [D.bl false, .int (pl : Int)] 0 = some (.bl false) := by rw [atI_pos (by omega)]; rfl
    have a1 : atI [D.bl false, .int (pl : Int)] 1 = some (.int (pl : Int)) := by rw [atI_pos (by omega)]; rfl
    refine ⟨some (.fls [.bl false, .int (pl : Int)]), some (.fls [.str "refused", .tup [lD t, .int (pl : Int)]]), ?_⟩
    simp only [b__law_is_read_1, lD] at *
    simp [hw1, hs, a0, a1, ho, hsame]
  | inr out =>
    rw [q] at hs ho hsame
    simp only [resW, resO] at hs ho hsame
    obtain ⟨g, ft⟩ := scan_ok q
    have hf := outcome_format g h
    rw [ft] at hf
    have hsame2 := same_refl' (.fls [.str "told", lD t]) h (tm_fls2 (tm_told 3) (tm_lD hz hc))
    have a0 : atI [D.bl true, labs out] 0 = some (.bl true) := by rw [atI_pos (by omega)]; rfl
    have a1 : atI [D.bl true, labs out] 1 = some (labs out) := by rw [atI_pos (by omega)]; rfl
    refine ⟨some (.fls [.bl true, labs out]), some (.fls [.str "told", labs out]), ?_⟩
    simp only [b__law_is_read_1, lD, labs] at *
    simp [hw1, hs, a0, a1, ho, hf, hsame, hsame2]
theorem is_read_spec (t : List Nat) (h : Hh) (hz : t.length ≤ 4090) (hc : ∀ c ∈ t, c < 128) : m__law_is_read [lD t] h = .ok (.bl true) h := by
  obtain ⟨a, b, t0⟩ := is_read_turn t h 0 false (.inl ⟨rfl, rfl⟩) hz hc none none
  obtain ⟨a', b', t1⟩ := is_read_turn t h 1 true (.inr ⟨rfl, rfl⟩) hz hc a b
  have e : forL (gtName 1) b__law_is_read_1 none (rngD 0 2) [some (lD t), none, none, none] h = .nx [some (lD t), some (.int 1), a', b'] h := by
    rw [rngD_succ, rngD_succ, rngD_nil, forL_nx (gd := none) trivial rfl t0, forL_nx (gd := none) trivial rfl t1, forL_nil (gd := none) trivial]
  have i2 : Sm.inR 2 = true := rfl
  simp [m__law_is_read, b__law_is_read, i2, e, trR_ok0]
/-! ### a value -/
theorem same_bl (b : Bool) (h : Hh) : m__law_same 12 [.bl b, .bl b] h = .ok (.bl true) h := same_refl' _ h rfl
theorem is_judged_spec (d : D) (h : Hh) (hd : tm 3 d = true) : m__law_is_judged [d] h = .ok (.bl true) h := by
  have n1 := is_name_spec d h hd
  have n2 := law_is_name_spec d h hd
  have o1 := is_owner_spec d h hd (by omega)
  have o2 := law_is_owner_spec d h hd
  have s1 := same_bl (namD d) h
  have s2 := same_bl (ownD d) h
  cases q : ownD d with
  | false =>
    have f := outcome_refused (w := 2) (.inr (.inr ⟨rfl, format_bad d h hd (by omega) q⟩))
    have s3 := same_refl' (.fls [.str "refused", .tup [d, .int 0]]) h (tm_fls2 (tm_refused 3) (tm_tup2 hd rfl))
    have hl : ∀ n, lo n d = true := fun n => tm_lo hd
    rw [q] at o1 o2 s2
    simp [m__law_is_judged, b__law_is_judged, n1, n2, o1, o2, s1, s2, f, s3, trR_ok0]
  | true =>
    obtain ⟨ls, rfl, g⟩ := own_good q
    have f := outcome_format g h
    have hz := fmt_len g
    have hc := fmt_small g
    have b1 := scan_back g true (fun _ => rfl)
    have p1 := (outcome_parse (fmt ls) h (by omega)).2
    rw [b1] at p1
    simp only [resO] at p1
    have s3 := same_refl' (.fls [.str "told", lD (fmt ls)]) h (tm_fls2 (tm_told 3) (tm_lD (by omega) hc))
    have s4 := same_refl' (.fls [.str "told", labs ls]) h (tm_fls2 (tm_told 3) (tm_mono (by omega) hd))
    have okt : okD 60 (labs ls) = true := okD_mono (by omega) (tm_ok hd)
    have ne := opNe_ok (a := labs ls) (b := .tup []) h okt rfl
    have nm : namD (labs ls) = true → m__law_outcome [.int 0, lD (fmt ls)] h = .ok (.fls [.str "told", labs ls]) h := fun z => by
      have g2 : good false ls := by
        obtain ⟨l2, e2, g2⟩ := nam_good z
        have : ls = l2 := by
          simp only [labs, D.tup.injEq] at e2
          have inj : ∀ a b : List (List Nat), a.map lD = b.map lD → a = b := by
            intro a
            induction a with
            | nil => intro b e; cases b with | nil => rfl | cons _ _ => cases e
            | cons x a ih =>
              intro b e
              cases b with
              | nil => cases e
              | cons y b =>
                simp [lD] at e
                rw [e.1, ih b e.2]
          exact inj _ _ e2
        subst this
        exact g2
      have b0 := scan_back g2 false (fun z => by cases z)
      have p0 := (outcome_parse (fmt ls) h (by omega)).1
      rw [b0] at p0
      exact p0
    rw [q] at o1 o2 s2
    have hk : ∀ l ∈ ls, l.length ≤ 12 := by
      intro l hl
      rcases g.2 with h2 | ⟨_, r, rfl, h2⟩
      · exact (lab_len (h2 l hl)).1
      · rcases List.mem_cons.mp hl with rfl | hl
        · simp
        · exact (lab_len (h2 l hl)).1
    have fin : ∀ (b : Bool), namD (labs ls) = b → m__law_is_judged [labs ls] h = .ok (.bl true) h := by
      intro b qn
      rw [qn] at n1 n2 s1
      have p0 : b = true → m__law_outcome [.int 0, lD (fmt ls)] h = .ok (.fls [.str "told", labs ls]) h := fun z => nm (by rw [qn, z])
      by_cases h0 : ls = []
      · subst h0
        have hb : b = true := by rw [← qn]; rfl
        subst hb
        have p0 := p0 rfl
        simp [labs, eqd, eqds, fmt, lD] at ne n1 n2 o1 o2 f p0 p1 s3 s4
        simp [m__law_is_judged, b__law_is_judged, labs, n1, n2, o1, o2, s1, s2, ne, f, p0, p1, s3, s4, l_dot, trR_ok0]
      · obtain ⟨j1, j2⟩ := join_spec ls g.1 hk [some (labs ls), some (.str (tx [46])), none] h 2 (by simp)
        have e0 : eqd (labs ls) (.tup []) = false := by
          cases ls with
          | nil => exact absurd rfl h0
          | cons _ _ => simp [labs, eqd, eqds]
        rw [e0] at ne
        have ft : fmt ls = (ls.map (· ++ [46])).flatten := by unfold fmt; rw [if_neg h0]
        rw [← ft] at j2
        simp only [labs, lD, l_dot] at ne n1 n2 o1 o2 f p0 p1 s3 s4 j1 j2
        cases b with
        | false => simp [m__law_is_judged, b__law_is_judged, labs, n1, n2, o1, o2, s1, s2, ne, f, p1, s3, s4, j1, j2, l_dot, trR_ok0]
        | true =>
          have p0 := p0 rfl
          simp [m__law_is_judged, b__law_is_judged, labs, n1, n2, o1, o2, s1, s2, ne, f, p0, p1, s3, s4, j1, j2, l_dot, trR_ok0]
    exact fin _ rfl
theorem label_judged (d : D) (h : Hh) (hd : tm 2 d = true) : m__law_same 12 [.bl (labD d), .bl (namD (.tup [d]))] h = .ok (.bl true) h := by
  have : namD (.tup [d]) = labD d := by simp [namD]
  rw [this]
  exact same_bl _ h
/-! ### what is no text -/
theorem scan_bad (d : D) (b : Bool) (h : Hh) (hd : tm 2 d = true) (hn : ∀ x, d ≠ .str x) : m_scan_owner [d, .bl b] h = .exc 0 [d, .int 0] h := by
  have hl : ∀ n, lo n d = true := fun n => tm_lo hd
  cases d with
  | str x => exact absurd rfl (hn x)
  | ref n => exact absurd hd tm_ref
  | _ => simp [m_scan_owner, b_scan_owner, trR_exc0]
theorem other_spec (d : D) (h : Hh) (hd : tm 2 d = true) (hn : ∀ x, d ≠ .str x) : m__law_outcome [.int 0, d] h = .ok (.fls [.str "refused", .tup [d, .int 0]]) h ∧ m__law_outcome [.int 1, d] h = .ok (.fls [.str "refused", .tup [d, .int 0]]) h := by
  constructor
  · refine outcome_refused (.inl ⟨rfl, ?_⟩)
    have := scan_bad d false h hd hn
    simp [m_parse_name, b_parse_name, this, trR_exc0]
  · refine outcome_refused (.inr (.inl ⟨rfl, ?_⟩))
    have := scan_bad d true h hd hn
    simp [m_parse_owner, b_parse_owner, this, trR_exc0]
end Lk02
/-! what is drawn -/
namespace Lk02
open PySem L2 PyProof.Rows Sm SmPool
theorem draw_k {o : O} (t : Hh) {m : Int} (a : SrO o) (hm : 0 < m) (hm2 : m < 1073741824) : ∃ r o', 0 ≤ r ∧ r < m ∧ SrO o' ∧ m__law_draw [.ref 0, .int m] (o :: t) = .ok (.int r) (o' :: t) := draw_s a hm hm2
theorem pick_k {o : O} (t : Hh) {xs : List D} (a : SrO o) (h0 : xs ≠ []) (hl : xs.length ≤ 4096) {k : Nat} (hx : ∀ x ∈ xs, tm k x = true) : ∃ x o', x ∈ xs ∧ SrO o' ∧ m__law_pick [.ref 0, .fls xs] (o :: t) = .ok x (o' :: t) := by
  have hp : 0 < xs.length := List.length_pos_iff.mpr h0
  obtain ⟨r, o', r0, r1, so, e⟩ := draw_k t a (m := (xs.length : Int)) (by omega) (by omega)
  have hr : r.toNat < xs.length := by omega
  have ha : atI xs r = some xs[r.toNat] := by rw [atI_pos r0, List.getElem?_eq_getElem hr]
  refine ⟨xs[r.toNat], o', by simp, so, ?_⟩
  have hlo : lo (t.length + 1) xs[r.toNat] = true := tm_lo (hx _ (by simp))
  simp [m__law_pick, b__law_pick, e, ha, trR_s0 so]
theorem pick_s {o : O} (t : Hh) {l : List Nat} (a : SrO o) (h0 : l ≠ []) (hl : l.length ≤ 4096) : ∃ c o', c ∈ l ∧ SrO o' ∧ m__law_pick [.ref 0, lD l] (o :: t) = .ok (lD [c]) (o' :: t) := by
  have hp : 0 < l.length := List.length_pos_iff.mpr h0
  obtain ⟨r, o', r0, r1, so, e⟩ := draw_k t a (m := (l.length : Int)) (by omega) (by omega)
  have hr : r.toNat < l.length := by omega
  have ha : atI l r = some l[r.toNat] := by rw [atI_pos r0, List.getElem?_eq_getElem hr]
  have hz : l.length ≤ sizeLine := line4k (by omega)
  refine ⟨l[r.toNat], o', by simp, so, ?_⟩
  simp [m__law_pick, b__law_pick, lD, e, ha, hz, trR_s0 so]
/-! ### a label -/
theorem sig_len : ("abcdefghijklmnopqrstuvwxyz0123456789-" : Str).length = 37 := by decide +kernel
theorem sig_at {i : Nat} (h : i < 37) : ∃ c, ("abcdefghijklmnopqrstuvwxyz0123456789-" : Str).cps.toList[i]? = some c ∧ isLet c = true ∧ (i < 36 → c ≠ 45) := by
  have h1 : LET.cps.toList.length = 37 := by decide +kernel
  have h2 : ∀ i, i < 36 → LET.cps.toList[i]? ≠ some 45 := by
    intro i hi hc
    have h3 : (LET.cps.toList.take 36).all (· ≠ 45) = true := by decide +kernel
    have h4 : (LET.cps.toList.take 36)[i]? = some 45 := by rw [List.getElem?_take, if_pos hi]; exact hc
    have := List.all_eq_true.mp h3 45 (List.mem_of_getElem? h4)
    simp at this
  have hi : i < LET.cps.toList.length := by omega
  refine ⟨LET.cps.toList[i], List.getElem?_eq_getElem hi, ?_, fun z e => h2 i z (by rw [List.getElem?_eq_getElem hi, e])⟩
  unfold isLet inS
  simp
theorem label_turn {o : O} {t : Hh} {l : List Nat} {k size : Int} {e2 : Option D} (a : SrO o) (hl : l.length ≤ 100) : ∃ c o', isLet c = true ∧ ((k = 0 ∨ k = size - 1) → c ≠ 45) ∧ SrO o' ∧
    b__law_label_1 [some (.ref 0), some (.str "abcdefghijklmnopqrstuvwxyz0123456789-"), e2, some (.int size), some (lD l), some (.int k)] (o :: t) = .nx [some (.ref 0), some (.str "abcdefghijklmnopqrstuvwxyz0123456789-"), e2, some (.int size), some (lD (l ++ [c])), some (.int k)] (o' :: t) := by
  have hz : (37 : Nat) ≤ sizeLine := by rw [sizeLine_eq]; omega
  have hl1 : l.length + 1 ≤ sizeLine := line4k (by omega)
  have key : ∀ m : Int, (m = 36 ∨ m = 37) → ((k = 0 ∨ k = size - 1) → m = 36) → ∃ c r o', isLet c = true ∧ ((k = 0 ∨ k = size - 1) → c ≠ 45) ∧ SrO o' ∧ atI ("abcdefghijklmnopqrstuvwxyz0123456789-" : Str).cps.toList r = some c ∧ m__law_draw [.ref 0, .int m] (o :: t) = .ok (.int r) (o' :: t) := by
    intro m hm hk
    obtain ⟨r, o', r0, r1, so, e⟩ := draw_k t a (m := m) (by omega) (by omega)
    obtain ⟨c, h1, h2, h3⟩ := sig_at (i := r.toNat) (by omega)
    exact ⟨c, r, o', h2, fun z => h3 (by have := hk z; omega), so, by rw [atI_pos r0]; exact h1, e⟩
  by_cases q1 : k = 0
  · obtain ⟨c, r, o', h1, h2, so, ha, e⟩ := key 36 (.inl rfl) (fun _ => rfl)
    refine ⟨c, o', h1, h2, so, ?_⟩
    simp [b__law_label_1, lD, q1, sig_len, hz, e, ha, hl1]
  · by_cases q2 : k = size - 1
    · obtain ⟨c, r, o', h1, h2, so, ha, e⟩ := key 36 (.inl rfl) (fun _ => rfl)
      refine ⟨c, o', h1, h2, so, ?_⟩
      subst q2
      simp [b__law_label_1, lD, q1, sig_len, hz, e, ha, hl1]
    · obtain ⟨c, r, o', h1, h2, so, ha, e⟩ := key 37 (.inr rfl) (fun z => by omega)
      refine ⟨c, o', h1, h2, so, ?_⟩
      simp [b__law_label_1, lD, q1, q2, sig_len, hz, e, ha, hl1]
theorem label_loop {t : Hh} {size : Nat} {e2 : Option D} (hs : size ≤ 12) : ∀ (n k : Nat) (l : List Nat) (o : O) (e5 : Option D), k + n = size → l.length = k → SrO o → (∀ c ∈ l, isLet c = true) → l.head? ≠ some 45 → (k = size → l.getLast? ≠ some 45) →
    ∃ l' o' e5', l'.length = size ∧ (∀ c ∈ l', isLet c = true) ∧ l'.head? ≠ some 45 ∧ l'.getLast? ≠ some 45 ∧ SrO o' ∧
      forL (gtName 5) b__law_label_1 none (rngD (k : Int) n) [some (.ref 0), some (.str "abcdefghijklmnopqrstuvwxyz0123456789-"), e2, some (.int (size : Int)), some (lD l), e5] (o :: t) = .nx [some (.ref 0), some (.str "abcdefghijklmnopqrstuvwxyz0123456789-"), e2, some (.int (size : Int)), some (lD l'), e5'] (o' :: t)
  | 0, k, l, o, e5, hk, hl, so, h1, h2, h3 => ⟨l, o, e5, by omega, h1, h2, h3 (by omega), so, by rw [rngD_nil, forL_nil (gd := none) trivial]⟩
  | n + 1, k, l, o, e5, hk, hl, so, h1, h2, h3 => by
    obtain ⟨c, o1, c1, c2, s1, e⟩ := label_turn (t := t) (l := l) (k := (k : Int)) (size := (size : Int)) (e2 := e2) so (by omega)
    obtain ⟨l', o', e5', r1, r2, r3, r4, r5, r6⟩ := label_loop hs n (k + 1) (l ++ [c]) o1 (some (.int (k : Int))) (by omega) (by simp [hl]) s1 (fun x hx => by
      rw [List.mem_append] at hx
      rcases hx with hx | hx
      · exact h1 x hx
      · simp at hx; subst hx; exact c1) (by
      cases l with
      | nil =>
        simp at hl
        have := c2 (.inl (by omega))
        simpa using this
      | cons x l => simpa using h2) (fun z => by
      have := c2 (.inr (by omega))
      simpa using this)
    refine ⟨l', o', e5', r1, r2, r3, r4, r5, ?_⟩
    rw [rngD_succ, forL_nx (gd := none) trivial rfl e]
    exact r6
theorem label_k {o : O} (t : Hh) (a : SrO o) : ∃ l o', labL l = true ∧ SrO o' ∧ m__law_label [.ref 0] (o :: t) = .ok (lD l) (o' :: t) := by
  obtain ⟨p, o1, p0, p1, s1, e1⟩ := draw_k t a (m := 9) (by omega) (by omega)
  by_cases q : p < 6
  · have hc : p = 0 ∨ p = 1 ∨ p = 2 ∨ p = 3 ∨ p = 4 ∨ p = 5 := by omega
    have fin : ∀ x : Str, labL x.cps.toList = true → m__law_label [.ref 0] (o :: t) = .ok (.str x) (o1 :: t) → ∃ l o', labL l = true ∧ SrO o' ∧ m__law_label [.ref 0] (o :: t) = .ok (lD l) (o' :: t) := by
      intro x hx e
      exact ⟨x.cps.toList, o1, hx, s1, by rw [e, lD, ← tx_of x]⟩
    rcases hc with rfl | rfl | rfl | rfl | rfl | rfl
    · exact fin "a" (by decide +kernel) (by simp [m__law_label, b__law_label, e1, trR_s0 s1, atI, ixN])
    · exact fin "b" (by decide +kernel) (by simp [m__law_label, b__law_label, e1, trR_s0 s1, atI, ixN])
    · exact fin "ns" (by decide +kernel) (by simp [m__law_label, b__law_label, e1, trR_s0 s1, atI, ixN])
    · exact fin "a-b" (by decide +kernel) (by simp [m__law_label, b__law_label, e1, trR_s0 s1, atI, ixN])
    · exact fin "9" (by decide +kernel) (by simp [m__law_label, b__law_label, e1, trR_s0 s1, atI, ixN])
    · exact fin "abcdefghijkl" (by decide +kernel) (by simp [m__law_label, b__law_label, e1, trR_s0 s1, atI, ixN])
  · obtain ⟨w, hw, hw1⟩ : ∃ w : Int, atI [D.int 1, .int 3, .int 12] (p - 6) = some (.int w) ∧ 0 < w ∧ w ≤ 12 := by
      have hc : p = 6 ∨ p = 7 ∨ p = 8 := by omega
      rcases hc with rfl | rfl | rfl
      · exact ⟨1, rfl, by omega, by omega⟩
      · exact ⟨3, rfl, by omega, by omega⟩
      · exact ⟨12, rfl, by omega, by omega⟩
    obtain ⟨r, o2, r0, r1, s2, e2⟩ := draw_k t s1 (m := w) hw1.1 (by omega)
    obtain ⟨size, hsz⟩ : ∃ size : Nat, (size : Int) = 1 + r := ⟨(1 + r).toNat, by omega⟩
    obtain ⟨l', o', e5', h1, h2, h3, h4, so, e3⟩ := label_loop (t := t) (size := size) (e2 := some (.int p)) (by omega) size 0 [] o2 none (by omega) rfl s2 (by simp) (by simp) (by simp)
    refine ⟨l', o', ?_, so, ?_⟩
    · simp only [labL, Bool.and_eq_true, decide_eq_true_eq, List.all_eq_true]
      refine ⟨⟨⟨⟨?_, by omega⟩, h2⟩, h3⟩, h4⟩
      cases l' with
      | nil => simp at h1; omega
      | cons _ _ => rfl
    · have hin : Sm.inR (1 + r) = true := inR_ok (by omega) (by omega)
      have hn : (1 + r).toNat = size := by omega
      have z0 : ((0 : Nat) : Int) = 0 := rfl
      rw [hsz, z0] at e3
      simp only [lD] at e3
      simp [m__law_label, b__law_label, e1, e2, q, hw, hin, hn, l_nil, e3, trR_s0 so, lD]
end Lk02
/-! names, owners, texts drawn; the law -/
namespace Lk02
open PySem L2 PyProof.Rows Sm SmPool
theorem name_loop {t : Hh} {e1 e2 : Option D} : ∀ (n : Nat) (k : Int) (ls : List (List Nat)) (o : O) (e4 : Option D), good false ls → SrO o →
    ∃ ls' o' e4', good false ls' ∧ SrO o' ∧ forL (gtName 4) b__law_name_1 none (rngD k n) [some (.ref 0), e1, e2, some (labs ls), e4] (o :: t) = .nx [some (.ref 0), e1, e2, some (labs ls'), e4'] (o' :: t)
  | 0, k, ls, o, e4, g, so => ⟨ls, o, e4, g, so, by rw [rngD_nil, forL_nil (gd := none) trivial]⟩
  | n + 1, k, ls, o, e4, g, so => by
    by_cases q : ls.length < 6
    · obtain ⟨l, o1, hl, s1, e⟩ := label_k t so
      have q' : (ls.length : Int) < 6 := by omega
      have hz : 1 + ls.length ≤ sizeLine := line4k (by omega)
      have tu : b__law_name_1 [some (.ref 0), e1, e2, some (labs ls), some (.int k)] (o :: t) = .nx [some (.ref 0), e1, e2, some (labs (l :: ls)), some (.int k)] (o1 :: t) := by
        simp [b__law_name_1, labs, q', e, hz]
      have g1 : good false (l :: ls) := by
        refine ⟨by simp; omega, .inl fun x hx => ?_⟩
        rcases List.mem_cons.mp hx with rfl | hx
        · exact hl
        · rcases g.2 with h2 | ⟨h1, _⟩
          · exact h2 x hx
          · cases h1
      obtain ⟨ls', o', e4', g', so', r⟩ := name_loop n (k + 1) (l :: ls) o1 (some (.int k)) g1 s1
      refine ⟨ls', o', e4', g', so', ?_⟩
      rw [rngD_succ, forL_nx (gd := none) trivial rfl tu]
      exact r
    · have q' : ¬ (ls.length : Int) < 6 := by omega
      have tu : b__law_name_1 [some (.ref 0), e1, e2, some (labs ls), some (.int k)] (o :: t) = .nx [some (.ref 0), e1, e2, some (labs ls), some (.int k)] (o :: t) := by
        simp [b__law_name_1, labs, q']
      obtain ⟨ls', o', e4', g', so', r⟩ := name_loop n (k + 1) ls o (some (.int k)) g so
      refine ⟨ls', o', e4', g', so', ?_⟩
      rw [rngD_succ, forL_nx (gd := none) trivial rfl tu]
      exact r
theorem name_k {o : O} (t : Hh) {ls : List (List Nat)} {m : Int} (a : SrO o) (g : good false ls) (h0 : 0 ≤ m) (h1 : m ≤ 100) : ∃ ls' o', good false ls' ∧ SrO o' ∧ m__law_name [.ref 0, labs ls, .int m] (o :: t) = .ok (labs ls') (o' :: t) := by
  obtain ⟨r, o1, r0, r1, s1, e1⟩ := draw_k t a (m := m + 1) (by omega) (by omega)
  obtain ⟨ls', o', e4', g', so', e2⟩ := name_loop (t := t) (e1 := some (labs ls)) (e2 := some (.int m)) r.toNat 0 ls o1 none g s1
  refine ⟨ls', o', g', so', ?_⟩
  have hin : Sm.inR r = true := inR_ok (by omega) (by omega)
  have hlo := good_tm g'
  have hlo' : lo (t.length + 1) (labs ls') = true := tm_lo hlo
  simp [m__law_name, b__law_name, e1, hin, e2, trR_s0 so']
theorem owner_k {o : O} (t : Hh) {ls : List (List Nat)} (a : SrO o) (g : good false ls) : ∃ ls' o', good true ls' ∧ SrO o' ∧ m__law_owner [.ref 0, labs ls] (o :: t) = .ok (labs ls') (o' :: t) := by
  obtain ⟨l1, o1, g1, s1, e1⟩ := name_k t (m := 2) a g (by omega) (by omega)
  have gg : good true l1 := ⟨g1.1, .inl (by rcases g1.2 with h | ⟨h, _⟩; exact h; cases h)⟩
  have hx := g1.1
  by_cases q : l1.length < 6
  · have q' : (l1.length : Int) < 6 := by omega
    obtain ⟨r, o2, r0, r1, s2, e2⟩ := draw_k t s1 (m := 5) (by omega) (by omega)
    by_cases q2 : r = 4
    · refine ⟨[42] :: l1, o2, ⟨by simp; omega, .inr ⟨rfl, l1, rfl, ?_⟩⟩, s2, ?_⟩
      · rcases g1.2 with h | ⟨h, _⟩
        · exact h
        · cases h
      · have hz : 1 + l1.length ≤ sizeLine := line4k (by omega)
        subst q2
        simp only [labs] at e1 ⊢
        simp [m__law_owner, b__law_owner, e1, e2, q', hz, lD, l_star, trR_s0 s2]
    · refine ⟨l1, o2, gg, s2, ?_⟩
      simp only [labs] at e1 ⊢
      simp [m__law_owner, b__law_owner, e1, e2, q', q2, trR_s0 s2]
  · have q' : ¬ (l1.length : Int) < 6 := by omega
    refine ⟨l1, o1, gg, s1, ?_⟩
    simp only [labs] at e1 ⊢
    simp [m__law_owner, b__law_owner, e1, q', trR_s0 s1]
/-! ### texts -/
theorem sign_k {o : O} (t : Hh) (a : SrO o) : ∃ c o', c < 128 ∧ SrO o' ∧ m__law_sign [.ref 0] (o :: t) = .ok (lD [c]) (o' :: t) := by
  obtain ⟨r, o1, r0, r1, s1, e1⟩ := draw_k t a (m := 3) (by omega) (by omega)
  have fin : ∀ x : Str, x.cps.toList.all (· < 128) = true → x.cps.toList ≠ [] → x.cps.toList.length ≤ 4096 → ∃ c o', c < 128 ∧ SrO o' ∧ m__law_pick [.ref 0, .str x] (o1 :: t) = .ok (lD [c]) (o' :: t) := by
    intro x h1 h2 h3
    obtain ⟨c, o2, hc, s2, e⟩ := pick_s t s1 h2 h3
    refine ⟨c, o2, ?_, s2, ?_⟩
    · have := List.all_eq_true.mp h1 c hc
      simpa using this
    · rw [lD, ← tx_of x] at e
      exact e
  by_cases q : r < 2
  · obtain ⟨c, o2, hc, s2, e⟩ := fin "a0-.-.*. \"" (by decide +kernel) (by decide +kernel) (by decide +kernel)
    refine ⟨c, o2, hc, s2, ?_⟩
    simp [m__law_sign, b__law_sign, e1, q, e, trR_s0 s2, lD]
  · obtain ⟨c, o2, hc, s2, e⟩ := fin " !\"#$&'()*+,-./0123456789:;<=>?@ABCDEFGHIJKLMNOPQRSTUVWXYZ[\\]^_`abcdefghijklmnopqrstuvwxyz{|}~\n\t" (by decide +kernel) (by decide +kernel) (by decide +kernel)
    refine ⟨c, o2, hc, s2, ?_⟩
    simp [m__law_sign, b__law_sign, e1, q, e, trR_s0 s2, lD]
theorem foldl_cps : ∀ (xs : List (Array Nat)) (acc : Array Nat), (xs.foldl (· ++ ·) acc).toList = acc.toList ++ (xs.map Array.toList).flatten
  | [], acc => by simp
  | x :: xs, acc => by
    rw [List.foldl_cons, foldl_cps xs (acc ++ x)]
    simp
theorem mul_tx (l : List Nat) (n : Int) : Txt.mul (tx l) n = tx (List.replicate n.toNat l).flatten := by
  unfold Txt.mul
  by_cases h1 : n < 1
  · rw [if_pos h1]
    have : n.toNat = 0 := by omega
    rw [this]
    rfl
  · rw [if_neg h1]
    by_cases h2 : (n == 1 || (tx l).length == 0) = true
    · rw [if_pos h2]
      simp at h2
      rcases h2 with h2 | h2
      · subst h2
        simp
      · subst h2
        simp
    · rw [if_neg h2]
      have := foldl_cps (List.replicate n.toNat (tx l).cps) #[]
      have e : ∀ a : Array Nat, (⟨a⟩ : Str) = tx a.toList := fun a => by simp [tx]
      rw [e, this]
      simp [tx]
theorem rep_len (l : List Nat) : ∀ n : Nat, ((List.replicate n l).flatten).length = n * l.length
  | 0 => by simp
  | n + 1 => by
    rw [List.replicate_succ, List.flatten_cons, List.length_append, rep_len l n, Nat.succ_mul]
    omega
theorem edit_k {o : O} (t : Hh) {u : List Nat} {B : Nat} (a : SrO o) (hu : u.length ≤ B) (hB : B ≤ 3000) (hc : ∀ c ∈ u, c < 128) : ∃ u' o', u'.length ≤ B + 12 ∧ (∀ c ∈ u', c < 128) ∧ SrO o' ∧ m__law_edit [.ref 0, lD u] (o :: t) = .ok (lD u') (o' :: t) := by
  have hz : u.length ≤ sizeLine := line4k (by omega)
  obtain ⟨p, o1, p0, p1, s1, e1⟩ := draw_k t a (m := (u.length : Int) + 1) (by omega) (by omega)
  obtain ⟨w, o2, w0, w1, s2, e2⟩ := draw_k t s1 (m := 4) (by omega) (by omega)
  have c1 : cutS (tx u) none (some p) = tx (u.take p.toNat) := cutS_to p0
  have c2 : cutS (tx u) (some (p + 1)) none = tx (u.drop (p + 1).toNat) := cutS_from (by omega)
  have c3 : cutS (tx u) (some p) none = tx (u.drop p.toNat) := cutS_from p0
  have mt : ∀ c, c ∈ u.take p.toNat → c < 128 := fun c h => hc c (List.mem_of_mem_take h)
  have md : ∀ k c, c ∈ u.drop k → c < 128 := fun k c h => hc c (List.mem_of_mem_drop h)
  have lt : (u.take p.toNat).length ≤ B := by simp; omega
  have z1 : ∀ n : Nat, n ≤ 100000 → n ≤ sizeLine := fun n => line4k
  by_cases q0 : w = 0
  · refine ⟨u.take p.toNat ++ u.drop (p + 1).toNat, o2, by simp; omega, fun c h => ?_, s2, ?_⟩
    · rw [List.mem_append] at h
      exact h.elim (mt c) (md _ c)
    · have y1 : min p.toNat u.length + (u.length - (p + 1).toNat) ≤ sizeLine := z1 _ (by omega)
      simp [m__law_edit, b__law_edit, lD, hz, e1, e2, q0, c1, c2, y1, trR_s0 s2]
  · obtain ⟨c, o3, k1, s3, e3⟩ := sign_k t s2
    simp only [lD] at e3
    by_cases q1 : w = 1
    · refine ⟨u.take p.toNat ++ [c] ++ u.drop p.toNat, o3, by simp; omega, fun x h => ?_, s3, ?_⟩
      · rw [List.mem_append, List.mem_append] at h
        rcases h with (h | h) | h
        · exact mt x h
        · simp at h; omega
        · exact md _ x h
      · have y1 : min p.toNat u.length + 1 ≤ sizeLine := z1 _ (by omega)
        have y2 : min p.toNat u.length + (u.length - p.toNat + 1) ≤ sizeLine := z1 _ (by omega)
        have y3 : min p.toNat u.length + 1 + (u.length - p.toNat) ≤ sizeLine := z1 _ (by omega)
        simp [m__law_edit, b__law_edit, lD, hz, e1, e2, q1, c1, c3, e3, y1, y2, y3, trR_s0 s3]
    · by_cases q2 : w = 2
      · obtain ⟨r, o4, r0, r1, s4, e4⟩ := draw_k t s2 (m := 12) (by omega) (by omega)
        have c4 : cutS (tx (u.drop p.toNat)) none (some 1) = tx ((u.drop p.toNat).take 1) := cutS_to (by omega)
        have hrep : ((List.replicate (1 + r).toNat ((u.drop p.toNat).take 1)).flatten).length ≤ 12 := by
          have h1 : ((u.drop p.toNat).take 1).length ≤ 1 := by simp; omega
          rw [rep_len]
          have h2 : (1 + r).toNat ≤ 12 := by omega
          have h3 := Nat.mul_le_mul h2 h1
          omega
        refine ⟨u.take p.toNat ++ (List.replicate (1 + r).toNat ((u.drop p.toNat).take 1)).flatten ++ u.drop p.toNat, o4, by simp only [List.length_append, List.length_take, List.length_drop]; omega, fun x h => ?_, s4, ?_⟩
        · rw [List.mem_append, List.mem_append] at h
          rcases h with (h | h) | h
          · exact mt x h
          · rw [List.mem_flatten] at h
            obtain ⟨l, hl, h⟩ := h
            rw [List.mem_replicate] at hl
            rw [hl.2] at h
            exact md _ x (List.mem_of_mem_take h)
          · exact md _ x h
        · have h16 : ((u.drop p.toNat).take 1).length ≤ 16 := by simp; omega
          have mu := mul_tx ((u.drop p.toNat).take 1) (1 + r)
          generalize hR : (List.replicate (1 + r).toNat ((u.drop p.toNat).take 1)).flatten = R at hrep mu
          have y0 : u.length - p.toNat ≤ sizeLine := z1 _ (by omega)
          have y1 : min p.toNat u.length + R.length ≤ sizeLine := z1 _ (by omega)
          have y2 : min p.toNat u.length + R.length + (u.length - p.toNat) ≤ sizeLine := z1 _ (by omega)
          have y3 : min p.toNat u.length + (R.length + (u.length - p.toNat)) ≤ sizeLine := z1 _ (by omega)
          have hr1 : 0 ≤ 1 + r ∧ 1 + r ≤ 1048576 := by omega
          have h16' : min 1 (u.length - p.toNat) ≤ 16 := by omega
          simp [m__law_edit, b__law_edit, lD, hz, e1, e2, q2, c1, c3, c4, e4, mu, y0, y1, y2, y3, hr1, h16', trR_s0 s4]
      · refine ⟨u.take p.toNat ++ [c] ++ u.drop (p + 1).toNat, o3, by simp; omega, fun x h => ?_, s3, ?_⟩
        · rw [List.mem_append, List.mem_append] at h
          rcases h with (h | h) | h
          · exact mt x h
          · simp at h; omega
          · exact md _ x h
        · have y1 : min p.toNat u.length + 1 ≤ sizeLine := z1 _ (by omega)
          have y2 : min p.toNat u.length + (u.length - (p + 1).toNat + 1) ≤ sizeLine := z1 _ (by omega)
          have y3 : min p.toNat u.length + 1 + (u.length - (p + 1).toNat) ≤ sizeLine := z1 _ (by omega)
          simp [m__law_edit, b__law_edit, lD, hz, e1, e2, q0, q1, q2, c1, c2, e3, y1, y2, y3, trR_s0 s3]
end Lk02
/-! the text drawn; the law -/
namespace Lk02
open PySem L2 PyProof.Rows Sm SmPool
theorem labs_lc {t : Hh} {e1 e2 : Option D} : ∀ (n : Nat) (k : Int) (acc : List (List Nat)) (o : O), SrO o → (∀ l ∈ acc, l.length ≤ 13 ∧ ∀ c ∈ l, c < 128) → acc.length + n ≤ 4000 →
    ∃ (out : List (List Nat)) (o' : O), SrO o' ∧ out.length = acc.length + n ∧ (∀ l ∈ out, l.length ≤ 13 ∧ ∀ c ∈ l, c < 128) ∧
      lcL (gtName 2) tYesM (eB opAdd (eCall m__law_label [(eV 0)]) (eC (.str "."))) [2] (t.length + 1) none [some (.ref 0), e1, e2] (rngD k n) (o :: (t ++ [.lst (acc.map lD)])) = .ok (.ref (t.length + 1)) (o' :: (t ++ [.lst (out.map lD)]))
  | 0, k, acc, o, so, ha, hl => ⟨acc, o, so, rfl, ha, by
    unfold lcL
    rw [rngD_nil]
    simp [gdOk]⟩
  | n + 1, k, acc, o, so, ha, hl => by
    obtain ⟨l, o1, h1, s1, e⟩ := label_k (t ++ [.lst (acc.map lD)]) so
    have hl1 : l.length + 1 ≤ sizeLine := line4k (by have := (lab_len h1).1; omega)
    have hl2 : acc.length < sizeLine := by rw [sizeLine_eq]; omega
    obtain ⟨out, o', s', k1, k2, r⟩ := labs_lc (t := t) (e1 := e1) (e2 := e2) n (k + 1) (acc ++ [l ++ [46]]) o1 s1 (fun x hx => by
      rw [List.mem_append] at hx
      rcases hx with hx | hx
      · exact ha x hx
      · simp at hx
        subst hx
        refine ⟨by have := (lab_len h1).1; simp; omega, fun c hc => ?_⟩
        rw [List.mem_append] at hc
        rcases hc with hc | hc
        · exact let_small (lab_all h1 c hc)
        · simp at hc; omega) (by simp; omega)
    refine ⟨out, o', s', by rw [k1]; simp; omega, k2, ?_⟩
    rw [rngD_succ]
    unfold lcL
    rw [if_pos (show gdOk none (o :: (t ++ [.lst (acc.map lD)])) from trivial)]
    simp only [gtName_eq, tYesM_eq, wipeE]
    have ev : (eB opAdd (eCall m__law_label [(eV 0)]) (eC (.str "."))) (List.set (List.set [some (.ref 0), e1, e2] 2 none) 2 (some (.int k))) (o :: (t ++ [.lst (acc.map lD)])) = .ok (lD (l ++ [46])) (o1 :: (t ++ [.lst (acc.map lD)])) := by
      simp [e, lD, l_dot, hl1]
    rw [ev]
    have g1 : (o1 :: (t ++ [O.lst (acc.map lD)]))[t.length + 1]? = some (.lst (acc.map lD)) := by simp
    have g2 : (o1 :: (t ++ [O.lst (acc.map lD)])).set (t.length + 1) (.lst (acc.map lD ++ [lD (l ++ [46])])) = o1 :: (t ++ [.lst ((acc ++ [l ++ [46]]).map lD)]) := by simp
    simp only [g1, List.length_map]
    rw [if_pos hl2, g2]
    exact r
theorem flat_len : ∀ ls : List (List Nat), (∀ l ∈ ls, l.length ≤ 13) → ls.flatten.length ≤ 13 * ls.length
  | [], _ => by simp
  | l :: ls, h => by
    have h1 := flat_len ls fun x hx => h x (by simp [hx])
    have h2 := h l (by simp)
    rw [List.flatten_cons, List.length_append, List.length_cons]
    omega
theorem edits {t : Hh} : ∀ (n : Nat) (k : Int) (u : List Nat) (o : O) (B : Nat) (e2 : Option D), SrO o → u.length ≤ B → B + 12 * n ≤ 3000 → (∀ c ∈ u, c < 128) →
    ∃ u' o' e2', SrO o' ∧ u'.length ≤ B + 12 * n ∧ (∀ c ∈ u', c < 128) ∧ forL (gtName 2) b__law_text_1 none (rngD k n) [some (.ref 0), some (lD u), e2] (o :: t) = .nx [some (.ref 0), some (lD u'), e2'] (o' :: t)
  | 0, k, u, o, B, e2, so, hu, hB, hc => ⟨u, o, e2, so, by omega, hc, by rw [rngD_nil, forL_nil (gd := none) trivial]⟩
  | n + 1, k, u, o, B, e2, so, hu, hB, hc => by
    obtain ⟨u1, o1, h1, h2, s1, e⟩ := edit_k t so hu (by omega) hc
    obtain ⟨u', o', e2', s', k1, k2, r⟩ := edits n (k + 1) u1 o1 (B + 12) (some (.int k)) s1 h1 (by omega) h2
    refine ⟨u', o', e2', s', by omega, k2, ?_⟩
    have tu : b__law_text_1 [some (.ref 0), some (lD u), some (.int k)] (o :: t) = .nx [some (.ref 0), some (lD u1), some (.int k)] (o1 :: t) := by
      simp [b__law_text_1, e]
    rw [rngD_succ, forL_nx (gd := none) trivial rfl tu]
    exact r
theorem text_k {o : O} (t : Hh) (a : SrO o) : ∃ u o', u.length ≤ 4000 ∧ (∀ c ∈ u, c < 128) ∧ SrO o' ∧ m__law_text [.ref 0] (o :: t) = .ok (lD u) (o' :: t) := by
  obtain ⟨w, o1, w0, w1, s1, e1⟩ := draw_k t a (m := 12) (by omega) (by omega)
  by_cases q : w = 11
  · obtain ⟨x, o2, hx, s2, e2⟩ := pick_k t (xs := [D.str "", .str ".", .str "*", .str "*.", .str "..", .str "-.", .str "a-", .str "*a.", .str ".a.", .str "*.*."]) (k := 1) s1 (by simp) (by simp) (fun x hx => by
      have h : ([D.str "", .str ".", .str "*", .str "*.", .str "..", .str "-.", .str "a-", .str "*a.", .str ".a.", .str "*.*."].all (tm 1)) = true := by decide +kernel
      exact List.all_eq_true.mp h x hx)
    have h : ([D.str "", .str ".", .str "*", .str "*.", .str "..", .str "-.", .str "a-", .str "*a.", .str ".a.", .str "*.*."].all fun d => match d with
      | .str x => decide (x.cps.toList.length ≤ 10) && x.cps.toList.all (· < 128)
      | _ => false) = true := by decide +kernel
    have h := List.all_eq_true.mp h x hx
    cases x with
    | str x =>
      simp only [Bool.and_eq_true, decide_eq_true_eq, List.all_eq_true] at h
      refine ⟨x.cps.toList, o2, by omega, fun c hc => h.2 c hc, s2, ?_⟩
      rw [lD, ← tx_of x]
      simp [m__law_text, b__law_text, e1, q, e2, trR_s0 s2]
    | _ => cases h
  · obtain ⟨r, o2, r0, r1, s2, e2⟩ := draw_k t s1 (m := 8) (by omega) (by omega)
    obtain ⟨out, o3, s3, k1, k2, e3⟩ := labs_lc (t := t) (e1 := none) (e2 := none) r.toNat 0 [] o2 s2 (by simp) (by simp; omega)
    have hin : Sm.inR r = true := inR_ok (by omega) (by omega)
    have fz := fz1_s (o := o1) (o' := o3) (t := t) (ds := out.map lD) s3
    rw [if_pos (los_lD _ _)] at fz
    have jn : opJoin (.str "") (.fls (out.map lD)) (o3 :: t) = some (.str (tx out.flatten), o3 :: t) := by
      have e : out.map lD = (out.map tx).map D.str := by rw [List.map_map]; rfl
      have hs := sumLen (xs := out.map tx) (B := 13) (fun y hy => by
        rw [List.mem_map] at hy
        obtain ⟨l, hl, rfl⟩ := hy
        simpa using (k2 l hl).1)
      have h0 : ("" : Str).length = 0 := rfl
      rw [List.length_map] at hs
      have k1' : out.length ≤ 7 := by simp at k1; omega
      rw [e, opJoin_f (by rw [h0, List.length_map]; omega), l_nil, join_flat]
    have hfl : out.flatten.length ≤ 91 := by
      have := flat_len out fun l hl => (k2 l hl).1
      simp at k1
      omega
    have hfc : ∀ c ∈ out.flatten, c < 128 := fun c hc => by
      rw [List.mem_flatten] at hc
      obtain ⟨l, hl, hc⟩ := hc
      exact (k2 l hl).2 c hc
    obtain ⟨w3, o4, _, _, s4, e4⟩ := draw_k t s3 (m := 3) (by omega) (by omega)
    obtain ⟨u1, h1, h1c, f1⟩ : ∃ u1 : List Nat, u1.length ≤ 93 ∧ (∀ c ∈ u1, c < 128) ∧ (sIf (tBl (eB opEq (eCall m__law_draw [(eV 0), (eC (.int 3))]) (eC (.int 2)))) (sSet 1 (eB opAdd (eC (.str "*.")) (eV 1))) sSkip) [some (.ref 0), some (.str (tx out.flatten)), none] (o3 :: t) = .nx [some (.ref 0), some (lD u1), none] (o4 :: t) := by
      by_cases q : w3 = 2
      · have hs : ("*." : Str) = tx [42, 46] := by decide +kernel
        have hz : 2 + out.flatten.length ≤ sizeLine := line4k (by omega)
        refine ⟨[42, 46] ++ out.flatten, by simp only [List.length_append]; simp only [List.length_cons, List.length_nil]; omega, fun c hc => ?_, ?_⟩
        · rw [List.mem_append] at hc
          rcases hc with hc | hc
          · simp at hc; omega
          · exact hfc c hc
        · generalize out.flatten = F at *
          simp [e4, q, hs, hz, lD]
      · refine ⟨out.flatten, by omega, hfc, ?_⟩
        generalize out.flatten = F at *
        simp [e4, q, lD]
    obtain ⟨w5, o5, _, _, s5, e5⟩ := draw_k t s4 (m := 8) (by omega) (by omega)
    obtain ⟨u2, h2, h2c, f2⟩ : ∃ u2 : List Nat, u2.length ≤ 93 ∧ (∀ c ∈ u2, c < 128) ∧ (sIf (tBl (eB opEq (eCall m__law_draw [(eV 0), (eC (.int 8))]) (eC (.int 7)))) (sSet 1 (eSlF (eV 1) none (some (eU opNeg (eC (.int 1)))))) sSkip) [some (.ref 0), some (lD u1), none] (o4 :: t) = .nx [some (.ref 0), some (lD u2), none] (o5 :: t) := by
      have hz : u1.length ≤ sizeLine := line4k (by omega)
      by_cases q : w5 = 7
      · refine ⟨u1.dropLast, by simp; omega, fun c hc => h1c c ((List.dropLast_sublist u1).subset hc), ?_⟩
        simp [e5, q, hz, lD, cutS_m1]
      · exact ⟨u1, h1, h1c, by simp [e5, q, lD]⟩
    obtain ⟨w6, o6, w60, w61, s6, e6⟩ := draw_k t s5 (m := 4) (by omega) (by omega)
    have hin6 : Sm.inR w6 = true := inR_ok (by omega) (by omega)
    obtain ⟨u', o7, e2', s7, h7, h7c, e7⟩ := edits (t := t) w6.toNat 0 u2 o6 93 none s6 h2 (by omega) h2c
    refine ⟨u', o7, by omega, h7c, s7, ?_⟩
    have b1 : ∀ rest : S, sSeq (sSet 1 (eM1 opJoin (eC (.str "")) (eFz (eLc (mRng1 (eCall m__law_draw [(eV 0), (eC (.int 8))])) (gtName 2) tYesM (eB opAdd (eCall m__law_label [(eV 0)]) (eC (.str "."))) [2])))) rest [some (.ref 0), none, none] (o1 :: t) = rest [some (.ref 0), some (.str (tx out.flatten)), none] (o3 :: t) := by
      intro rest
      simp only [List.map_nil] at e3
      simp [e2, hin, e3, fz, jn]
    have b2 : ∀ rest : S, sSeq (sFor (mRng1 (eCall m__law_draw [(eV 0), (eC (.int 4))])) (gtName 2) b__law_text_1) rest [some (.ref 0), some (lD u2), none] (o5 :: t) = rest [some (.ref 0), some (lD u'), e2'] (o7 :: t) := by
      intro rest
      simp [e6, hin6, e7]
    have b0 : ∀ rest : S, sSeq (sIf (tBl (eB opEq (eCall m__law_draw [(eV 0), (eC (.int 12))]) (eC (.int 11)))) (sRet (eCall m__law_pick [(eV 0), (eLstF [(eC (.str "")), (eC (.str ".")), (eC (.str "*")), (eC (.str "*.")), (eC (.str "..")), (eC (.str "-.")), (eC (.str "a-")), (eC (.str "*a.")), (eC (.str ".a.")), (eC (.str "*.*."))])])) sSkip) rest [some (.ref 0), none, none] (o :: t) = rest [some (.ref 0), none, none] (o1 :: t) := by
      intro rest
      simp [e1, q]
    show trR (o :: t) (fnM 3 b__law_text [.ref 0] (o :: t)) = _
    rw [fnM_eq]
    show trR (o :: t) (fnEnd (b__law_text [some (.ref 0), none, none] (o :: t))) = _
    unfold b__law_text
    rw [b0, b1, sSeq_eq, f1, sSeq1_nx, sSeq_eq, f2, sSeq1_nx, b2]
    simp [lD, trR_s0 s7]
end Lk02
/-! the law -/
namespace Lk02
open PySem L2 PyProof.Rows Sm SmPool
def wl : List D := [.tup [.str "a", .str "b", .str "c", .str "d", .str "e", .str "f", .str "g"], .tup [.str "b", .str "c", .str "d", .str "e", .str "f", .str "g"], .tup [.str "*", .str "b", .str "c", .str "d", .str "e", .str "f", .str "g"], .tup [.str "*", .str "c", .str "d", .str "e", .str "f", .str "g"],
  .tup [.str "abcdefghijklm"], .tup [.str "a", .str ""], .tup [.str "-a"], .tup [.str "b", .str "a-"], .tup [.str "A"], .tup [.str "a.b"], .tup [.str "a b"], .tup [.str "a", .int 1], .tup [.str "*"], .tup [.str "*", .str "a"], .tup [.str "a", .str "*"], .tup [.str "*", .str "*"], .tup [.str "**"], .fls [.str "a"], .fls [],
  .non, .str "a", .str "", .str ".", .str "*", .int 7, .bl true, .tup [.str "a", .non], .tup [.tup [.str "a"]], .tup [.str "b\n"], .tup [.str "-"], .tup [.bl true], .tup [.non, .str "a"]]
theorem wl_tm : ∀ x ∈ wl, tm 3 x = true := fun x hx => by
  have h : wl.all (tm 3) = true := by decide +kernel
  exact List.all_eq_true.mp h x hx
theorem wrong_k {o : O} (t : Hh) (a : SrO o) : ∃ d o', tm 3 d = true ∧ SrO o' ∧ m__law_wrong_name [.ref 0] (o :: t) = .ok d (o' :: t) := by
  obtain ⟨x, o1, hx, s1, e⟩ := pick_k t a (xs := wl) (by simp [wl]) (by simp [wl]) wl_tm
  have hlo : lo (t.length + 1) x = true := tm_lo (wl_tm x hx)
  refine ⟨x, o1, wl_tm x hx, s1, ?_⟩
  have c1 : cutD [D.str "a", .str "b", .str "c", .str "d", .str "e", .str "f", .str "g"] (some 1) none = [.str "b", .str "c", .str "d", .str "e", .str "f", .str "g"] := by rw [cutD_from (by omega)]; rfl
  have c2 : cutD [D.str "a", .str "b", .str "c", .str "d", .str "e", .str "f", .str "g"] (some 2) none = [.str "c", .str "d", .str "e", .str "f", .str "g"] := by rw [cutD_from (by omega)]; rfl
  have z : ∀ n : Nat, n ≤ 100 → n ≤ sizeLine := fun n h => line4k (by omega)
  have z1 := z 7 (by omega)
  have z2 := z 6 (by omega)
  have z3 := z 19 (by omega)
  have z4 := z 32 (by omega)
  simp only [wl] at e
  simp [m__law_wrong_name, b__law_wrong_name, c1, c2, z1, z2, z3, z4, e, trR_s0 s1]
def sl : List D := [.str "", .str "-", .str "-a", .str "a-", .str "A", .str "a.", .str "*", .str "a b", .str "b\n", .int 7, .bl true, .non, .tup [.str "a"], .fls [.str "a"], .str "a--b", .str "0", .tup []]
theorem sl_tm : ∀ x ∈ sl, tm 2 x = true := fun x hx => by
  have h : sl.all (tm 2) = true := by decide +kernel
  exact List.all_eq_true.mp h x hx
theorem some_k {o : O} (t : Hh) (a : SrO o) : ∃ d o', tm 2 d = true ∧ SrO o' ∧ m__law_some_label [.ref 0] (o :: t) = .ok d (o' :: t) := by
  obtain ⟨l, o1, hl, s1, e1⟩ := label_k t a
  obtain ⟨w, o2, w0, w1, s2, e2⟩ := draw_k t s1 (m := 3) (by omega) (by omega)
  have h12 := (lab_len hl).1
  have hc : ∀ c ∈ l, c < 128 := fun c h => let_small (lab_all hl c h)
  simp only [lD] at e1
  by_cases q0 : w = 0
  · refine ⟨lD l, o2, tm_lD (by omega) hc, s2, ?_⟩
    simp [m__law_some_label, b__law_some_label, e1, e2, q0, lD, trR_s0 s2]
  · by_cases q1 : w = 1
    · obtain ⟨r, o3, r0, r1, s3, e3⟩ := draw_k t s2 (m := 2) (by omega) (by omega)
      have mu := mul_tx l 13
      have c1 : cutS (tx (List.replicate (13 : Int).toNat l).flatten) none (some (12 + r)) = tx ((List.replicate (13 : Int).toNat l).flatten.take (12 + r).toNat) := cutS_to (by omega)
      have hR := rep_len l (13 : Int).toNat
      have hRc : ∀ c ∈ (List.replicate (13 : Int).toNat l).flatten, c < 128 := fun c h => by
        rw [List.mem_flatten] at h
        obtain ⟨x, hx, h⟩ := h
        rw [List.mem_replicate] at hx
        rw [hx.2] at h
        exact hc c h
      have t13 : (13 : Int).toNat = 13 := rfl
      rw [t13] at mu c1 hR hRc
      generalize (List.replicate 13 l).flatten = R at mu c1 hR hRc
      have hz : R.length ≤ sizeLine := line4k (by omega)
      have h16 : l.length ≤ 16 := by omega
      refine ⟨lD (R.take (12 + r).toNat), o3, tm_lD (by simp; omega) (fun c h => hRc c (List.mem_of_mem_take h)), s3, ?_⟩
      simp [m__law_some_label, b__law_some_label, e1, e2, q1, mu, h16, hz, e3, c1, lD, trR_s0 s3]
    · obtain ⟨x, o3, hx, s3, e3⟩ := pick_k t s2 (xs := sl) (by simp [sl]) (by simp [sl]) sl_tm
      have hlo : lo (t.length + 1) x = true := tm_lo (sl_tm x hx)
      refine ⟨x, o3, sl_tm x hx, s3, ?_⟩
      simp only [sl] at e3
      simp [m__law_some_label, b__law_some_label, e1, e2, q0, q1, e3, trR_s0 s3]
def ol : List D := [.non, .int 7, .bl true, .tup [.str "a"], .fls [.str "a."], .tup [], .int 0]
theorem ol_tm : ∀ x ∈ ol, tm 2 x = true := fun x hx => by
  have h : ol.all (tm 2) = true := by decide +kernel
  exact List.all_eq_true.mp h x hx
theorem ol_ns : ∀ x ∈ ol, ∀ z, x ≠ .str z := fun x hx z e => by
  have h : (ol.all fun d => match d with
    | .str _ => false
    | _ => true) = true := rfl
  have := List.all_eq_true.mp h x hx
  rw [e] at this
  cases this
theorem trR_nil (d : D) (g : Hh) (hd : lo 0 d = true) : trR [] (.ok d g) = .ok d [] := by
  unfold trR
  simp [hd]
theorem main (ns : List Int) (hl : ns.length ≤ 63) : ∃ h', m_law [.fls (ns.map D.int)] [] = .ok (.bl true) h' := by
  have s0 := SrO.start ns hl
  obtain ⟨u, o1, hu, huc, s1, e1⟩ := text_k [] s0
  have rd := is_read_spec u [o1] (by omega) huc
  obtain ⟨l1, o2, g1, s2, e2⟩ := name_k [] (ls := []) (m := 4) s1 ⟨by simp, .inl (by simp)⟩ (by omega) (by omega)
  obtain ⟨l2, o3, g2, s3, e3⟩ := owner_k [] s2 g1
  obtain ⟨w, o4, w0, w1, s4, e4⟩ := draw_k [] s3 (m := 2) (by omega) (by omega)
  obtain ⟨v, o5, hv, s5, f5⟩ : ∃ v o5, tm 3 v = true ∧ SrO o5 ∧ ∀ env2 env4 env5 env6 env7 : Option D, (sIf (tBl (eB opEq (eCall m__law_draw [(eV 1), (eC (.int 2))]) (eC (.int 1)))) (sSet 3 (eCall m__law_wrong_name [(eV 1)])) sSkip) [env7, some (.ref 0), env2, some (labs l2), env4, env5, env6] [o3] = .nx [env7, some (.ref 0), env2, some v, env4, env5, env6] [o5] := by
    by_cases q : w = 1
    · obtain ⟨d, o5, hd, s5, e5⟩ := wrong_k [] s4
      exact ⟨d, o5, hd, s5, fun _ _ _ _ _ => by simp [e4, q, e5]⟩
    · exact ⟨labs l2, o4, tm_mono (by omega) (good_tm g2), s4, fun _ _ _ _ _ => by simp [e4, q]⟩
  have jd := is_judged_spec v [o5] hv
  obtain ⟨lb, o6, hlb, s6, e6⟩ := some_k [] s5
  have il := is_label_spec lb [o6] hlb
  have inm := law_is_name_spec (.tup [lb]) [o6] (tm_mkT (k := 2) (fun d hd => by simp at hd; subst hd; exact hlb) (by simp))
  have lj := label_judged lb [o6] hlb
  obtain ⟨x, o7, hx, s7, e7⟩ := pick_k [] s6 (xs := ol) (by simp [ol]) (by simp [ol]) ol_tm
  obtain ⟨p0, p1⟩ := other_spec x [o7] (ol_tm x hx) (ol_ns x hx)
  have sm := same_refl' (.fls [.str "refused", .tup [x, .int 0]]) [o7] (tm_fls2 (tm_refused 3) (tm_tup2 (tm_mono (by omega) (ol_tm x hx)) rfl))
  have e2 : m__law_name [.ref 0, .tup [], .int 4] [o1] = .ok (labs l1) [o2] := e2
  simp only [ol] at e7
  refine ⟨[], ?_⟩
  show trR [] (fnM 7 b_law [.fls (ns.map D.int)] []) = _
  rw [fnM_eq]
  show trR [] (fnEnd (b_law [some (.fls (ns.map D.int)), none, none, none, none, none, none] [])) = _
  have b1 : ∀ rest : S, sSeq (sSet 1 (eLst [(eV 0), (eC (.int 0)), (eC (.int 0)), (eC (.int 1))])) (sSeq (sSet 2 (eCall m__law_text [(eV 1)])) (sSeq (sIf (tNotM (tTru (eCall m__law_is_read [(eV 2)]))) (sRet (eC (.bl false))) sSkip)
      (sSeq (sSet 3 (eCall m__law_owner [(eV 1), (eCall m__law_name [(eV 1), (eTup []), (eC (.int 4))])])) rest))) [some (.fls (ns.map D.int)), none, none, none, none, none, none] [] = rest [some (.fls (ns.map D.int)), some (.ref 0), some (lD u), some (labs l2), none, none, none] [o3] := by
    intro rest
    simp [e1, rd, e2, e3]
  unfold b_law
  rw [b1, sSeq_eq, f5, sSeq1_nx]
  simp [jd, e6, il, inm, lj, e7, p0, p1, sm]
  exact trR_nil _ _ rfl
end Lk02
namespace Lk02
open PySem L2 PyProof.Rows Sm
open NdefX
def mth (st : Stmt) (i : Nat) : Stmt := (match st with
  | .ClassDef (body := b) .. => b
  | _ => []).getD i (.Pass ⟨0, 0, 0, 0⟩)
abbrev si_BadName : Stmt := mth (top 2) 0
abbrev nf_BadName (cc cda : Addr) : NF := ⟨"__init__", "BadName.__init__", defArgs si_BadName, defBody si_BadName, defScope si_BadName, [("__class__", cc)], cda⟩
theorem err_mk_BadName {l : PySem.W.OpenLaw} {w : World} {K : PySem.W.Frag} {h : Heap} {mg : Str → Option Value} {base : Heap} {G : Cl} (X : K.In h) (Gm : h.Ns mainGlobals mg)
  {C_BadName fI_BadName cc_BadName cda_BadName N_BadName : Addr} {nm_BadName q_BadName : Str} {bs_BadName bm_BadName : List Value} {sn_BadName : List Str} {sub_BadName : List Value} {ab_BadName : Bool} {col_BadName : Option Bool} {dd_BadName od2_BadName an2_BadName cld_BadName cdd_BadName : Option Addr} {m0_BadName m1_BadName m2_BadName m3_BadName m5_BadName : Option Value} {kV2_BadName doc2_BadName pm2_BadName ct2_BadName oc2_BadName cl_BadName ccl_BadName : Value} {osl_BadName csl_BadName ccs_BadName : Array (Option Value)} {vs_BadName : Array Value} {file_BadName : Str} {tf_BadName : Tok} {cdD_BadName : ClassData}
  (aC_BadName : PySem.W.nsIn K mainGlobals "BadName" = some (some (.ref C_BadName)))
  (xC_BadName : K.lookup C_BadName = some (PySem.excClassObj nm_BadName q_BadName C_BadName N_BadName bs_BadName bm_BadName true sn_BadName sub_BadName ab_BadName col_BadName dd_BadName m0_BadName m1_BadName m2_BadName m3_BadName m5_BadName "ValueError.__new__"))
  (sa_BadName : PySem.W.findIn K (.ref C_BadName) "__setattr__" = some (some (.builtin "object.__setattr__")))
  (eC_BadName : PySem.W.subIn K (.ref C_BadName) (.type "BaseException") = some true)
  (tC_BadName : PySem.W.typeIn K (.ref C_BadName) = some (.type "type"))
  (kC_BadName : PySem.W.keepIn K (.ref C_BadName) = true)
  (iC_BadName : PySem.W.findIn K (.ref C_BadName) "__init__" = some (some (.ref fI_BadName)))
  (tI_BadName : PySem.W.typeIn K (.ref fI_BadName) = some (.type "function"))
  (lI_BadName : K.lookup fI_BadName = some ⟨oc2_BadName, od2_BadName, .func (fdx (nf_BadName cc_BadName cda_BadName) .none kV2_BadName doc2_BadName pm2_BadName an2_BadName ct2_BadName), osl_BadName⟩)
  (cI_BadName : PySem.W.codeIn K (.ref cda_BadName) "BadName.__init__" = true)
  (cd_BadName : K.lookup cda_BadName = some ⟨ccl_BadName, cdd_BadName, .fields vs_BadName, ccs_BadName⟩)
  (ce_BadName : K.lookup cc_BadName = some ⟨cl_BadName, cld_BadName, .cell (some (.ref C_BadName)), csl_BadName⟩)
  (cs_BadName : PySem.W.clsIn K C_BadName = some cdD_BadName)
  (mr_BadName : PySem.W.mroIn K C_BadName (.ref C_BadName) = some true)
  (su_BadName : PySem.W.ks_superIn K C_BadName C_BadName "__init__" = some (some (.builtin "ValueError.__init__")))
  (va_BadName : PySem.W.subIn K (.ref C_BadName) (.type "ValueError") = some true)
  (ga_BadName : PySem.W.findIn K (.ref C_BadName) "__getattribute__" = some (some (.builtin "BaseException.__getattribute__")))
  (gg_BadName : PySem.W.findIn K (.ref C_BadName) "__getattr__" = some none)
  (hd_BadName : PySem.W.hasDictIn K C_BadName = true)
  (rC_BadName : PySem.HandSPX.refsVE bm_BadName = true)
  (hv_BadName : vs_BadName[2]? = some (.str file_BadName tf_BadName))
  (hf_BadName : ((l.prog.main.file : Str) == file_BadName) = true)
  (n_BadName_value : PySem.W.findIn K (.ref C_BadName) "value" = some none)
  (n_BadName_place : PySem.W.findIn K (.ref C_BadName) "place" = some none)
  (sup_ : PySem.W.nsIn K mainGlobals "super" = some none)
  (thi_ : PySem.W.nsIn K PySem.cStatics "thirdparty.any" = some none)
  (htop_ : (l.prog.main.scope.names.lookup ("super" : Str)).isSome = false)
  (hG : G.at_ 0 = C_BadName) (hN : G.nm 0 = (["value", "place"] : List Str)) : ErrOk l.prog w K mg base G 1 "BadName" 0 := by
  have ox : OexC K C_BadName := ⟨⟨nm_BadName, q_BadName, N_BadName, bs_BadName, bm_BadName, sn_BadName, sub_BadName, ab_BadName, col_BadName, dd_BadName, m0_BadName, m1_BadName, m2_BadName, m3_BadName, m5_BadName, xC_BadName, rC_BadName⟩, sa_BadName, eC_BadName, tC_BadName, kC_BadName⟩
  subst hG
  refine ⟨fI_BadName, fdx (nf_BadName cc_BadName cda_BadName) .none kV2_BadName doc2_BadName pm2_BadName an2_BadName ct2_BadName, ["self", "value", "place"], PySem.W.mg_of X Gm aC_BadName, ox, iC_BadName, tI_BadName, ?_, ?_, by rw [hN]; decide, by rw [hN]; decide⟩
  · rw [hN]
    exact init_ok (F := nf_BadName cc_BadName cda_BadName) (fis := [("value", 1), ("place", 2)]) ⟨ox, mr_BadName, su_BadName, va_BadName⟩ lI_BadName cI_BadName (show NScope ["self", "value", "place", "__class__"] ["self", "value", "place"] ["__class__"] (defScope si_BadName) from nscope_by (by decide +kernel)) rfl rfl ⟨_, rfl, rfl⟩ rfl (show (defScope si_BadName).names.lookup ("super" : Str) = some .globalImplicit from by decide +kernel) ⟨_, _, _, _, cd_BadName, rfl, hv_BadName, hf_BadName⟩ htop_ ⟨_, _, _, ce_BadName⟩ ⟨_, cs_BadName⟩ (PySem.W.mg_none_of X Gm sup_) thi_
      (fun L => rfl) rfl (by simp) (by decide) (fun k p e => by
        match k, e with
        | 0, e => cases e; rfl
        | 1, e => cases e; rfl
        | k + 2, e => simp at e) (fun p hp => by simp at hp; rcases hp with rfl | rfl <;> assumption)
      (fun A outer s H E => (pss_cons (ps_ost (pe_var (i := 0) rfl (Or.inl rfl)) (pe_var (i := 1) rfl (Or.inl rfl))) (pss_cons (ps_ost (pe_var (i := 0) rfl (Or.inl rfl)) (pe_var (i := 2) rfl (Or.inl rfl))) pss_nil)))
  · exact fun s us _ hl => match us, hl with | [_, _, _], _ => .of_eq rfl
theorem all_mk {l : PySem.W.OpenLaw} {w : World} {K : PySem.W.Frag} {h : Heap} {mg : Str → Option Value} {fa : Addr} (X : K.In h) (G : h.Ns mainGlobals mg) (hfa : mg "law" = some (.ref fa))
    {f_is_label f_is_name f_is_owner f_check_owner f_scan_owner f_parse_name f_parse_owner f_format_owner f__law_draw f__law_pick f__law_same f__law_label f__law_name f__law_owner f__law_is_name f__law_is_owner f__law_scan f__law_sign f__law_edit f__law_wrong_name f__law_text f__law_outcome f__law_is_read f__law_is_judged f__law_some_label f_law : Addr} {od_is_label an_is_label od_is_name an_is_name od_is_owner an_is_owner od_check_owner an_check_owner od_scan_owner an_scan_owner od_parse_name an_parse_name od_parse_owner an_parse_owner od_format_owner an_format_owner od__law_draw an__law_draw od__law_pick an__law_pick od__law_same an__law_same od__law_label an__law_label od__law_name an__law_name od__law_owner an__law_owner od__law_is_name an__law_is_name od__law_is_owner an__law_is_owner od__law_scan an__law_scan od__law_sign an__law_sign od__law_edit an__law_edit od__law_wrong_name an__law_wrong_name od__law_text an__law_text od__law_outcome an__law_outcome od__law_is_read an__law_is_read od__law_is_judged an__law_is_judged od__law_some_label an__law_some_label od_law an_law : Option Addr} {sl_is_label sl_is_name sl_is_owner sl_check_owner sl_scan_owner sl_parse_name sl_parse_owner sl_format_owner sl__law_draw sl__law_pick sl__law_same sl__law_label sl__law_name sl__law_owner sl__law_is_name sl__law_is_owner sl__law_scan sl__law_sign sl__law_edit sl__law_wrong_name sl__law_text sl__law_outcome sl__law_is_read sl__law_is_judged sl__law_some_label sl_law : Array (Option Value)} {oc_is_label kV_is_label dc_is_label pm_is_label cd_is_label ct_is_label oc_is_name kV_is_name dc_is_name pm_is_name cd_is_name ct_is_name oc_is_owner kV_is_owner dc_is_owner pm_is_owner cd_is_owner ct_is_owner oc_check_owner kV_check_owner dc_check_owner pm_check_owner cd_check_owner ct_check_owner oc_scan_owner kV_scan_owner dc_scan_owner pm_scan_owner cd_scan_owner ct_scan_owner oc_parse_name kV_parse_name dc_parse_name pm_parse_name cd_parse_name ct_parse_name oc_parse_owner kV_parse_owner dc_parse_owner pm_parse_owner cd_parse_owner ct_parse_owner oc_format_owner kV_format_owner dc_format_owner pm_format_owner cd_format_owner ct_format_owner oc__law_draw kV__law_draw dc__law_draw pm__law_draw cd__law_draw ct__law_draw oc__law_pick kV__law_pick dc__law_pick pm__law_pick cd__law_pick ct__law_pick oc__law_same kV__law_same dc__law_same pm__law_same cd__law_same ct__law_same oc__law_label kV__law_label dc__law_label pm__law_label cd__law_label ct__law_label oc__law_name kV__law_name dc__law_name pm__law_name cd__law_name ct__law_name oc__law_owner kV__law_owner dc__law_owner pm__law_owner cd__law_owner ct__law_owner oc__law_is_name kV__law_is_name dc__law_is_name pm__law_is_name cd__law_is_name ct__law_is_name oc__law_is_owner kV__law_is_owner dc__law_is_owner pm__law_is_owner cd__law_is_owner ct__law_is_owner oc__law_scan kV__law_scan dc__law_scan pm__law_scan cd__law_scan ct__law_scan oc__law_sign kV__law_sign dc__law_sign pm__law_sign cd__law_sign ct__law_sign oc__law_edit kV__law_edit dc__law_edit pm__law_edit cd__law_edit ct__law_edit oc__law_wrong_name kV__law_wrong_name dc__law_wrong_name pm__law_wrong_name cd__law_wrong_name ct__law_wrong_name oc__law_text kV__law_text dc__law_text pm__law_text cd__law_text ct__law_text oc__law_outcome kV__law_outcome dc__law_outcome pm__law_outcome cd__law_outcome ct__law_outcome oc__law_is_read kV__law_is_read dc__law_is_read pm__law_is_read cd__law_is_read ct__law_is_read oc__law_is_judged kV__law_is_judged dc__law_is_judged pm__law_is_judged cd__law_is_judged ct__law_is_judged oc__law_some_label kV__law_some_label dc__law_some_label pm__law_some_label cd__law_some_label ct__law_some_label oc_law kV_law dc_law pm_law cd_law ct_law : Value} {u_LETTERS u_MOST_LABEL u_MOST_LABELS : Tok}
    {C_BadName fI_BadName cc_BadName cda_BadName N_BadName : Addr} {nm_BadName q_BadName : Str} {bs_BadName bm_BadName : List Value} {sn_BadName : List Str} {sub_BadName : List Value} {ab_BadName : Bool} {col_BadName : Option Bool} {dd_BadName od2_BadName an2_BadName cld_BadName cdd_BadName : Option Addr} {m0_BadName m1_BadName m2_BadName m3_BadName m5_BadName : Option Value} {kV2_BadName doc2_BadName pm2_BadName ct2_BadName oc2_BadName cl_BadName ccl_BadName : Value} {osl_BadName csl_BadName ccs_BadName : Array (Option Value)} {vs_BadName : Array Value} {file_BadName : Str} {tf_BadName : Tok} {cdD_BadName : ClassData}
    (a_is_label : PySem.W.nsIn K mainGlobals "is_label" = some (some (.ref f_is_label))) (l_is_label : K.lookup f_is_label = some ⟨oc_is_label, od_is_label, .func (PySem.W.fnOf "is_label" "is_label" (defArgs s_is_label) (defBody s_is_label) (defScope s_is_label) .none kV_is_label dc_is_label pm_is_label an_is_label cd_is_label ct_is_label), sl_is_label⟩) (c_is_label : PySem.W.codeIn K cd_is_label "is_label" = true) (k_is_label : PySem.W.keepIn K (.ref f_is_label) = true)
    (a_is_name : PySem.W.nsIn K mainGlobals "is_name" = some (some (.ref f_is_name))) (l_is_name : K.lookup f_is_name = some ⟨oc_is_name, od_is_name, .func (PySem.W.fnOf "is_name" "is_name" (defArgs s_is_name) (defBody s_is_name) (defScope s_is_name) .none kV_is_name dc_is_name pm_is_name an_is_name cd_is_name ct_is_name), sl_is_name⟩) (c_is_name : PySem.W.codeIn K cd_is_name "is_name" = true) (k_is_name : PySem.W.keepIn K (.ref f_is_name) = true)
    (a_is_owner : PySem.W.nsIn K mainGlobals "is_owner" = some (some (.ref f_is_owner))) (l_is_owner : K.lookup f_is_owner = some ⟨oc_is_owner, od_is_owner, .func (PySem.W.fnOf "is_owner" "is_owner" (defArgs s_is_owner) (defBody s_is_owner) (defScope s_is_owner) .none kV_is_owner dc_is_owner pm_is_owner an_is_owner cd_is_owner ct_is_owner), sl_is_owner⟩) (c_is_owner : PySem.W.codeIn K cd_is_owner "is_owner" = true) (k_is_owner : PySem.W.keepIn K (.ref f_is_owner) = true)
    (a_check_owner : PySem.W.nsIn K mainGlobals "check_owner" = some (some (.ref f_check_owner))) (l_check_owner : K.lookup f_check_owner = some ⟨oc_check_owner, od_check_owner, .func (PySem.W.fnOf "check_owner" "check_owner" (defArgs s_check_owner) (defBody s_check_owner) (defScope s_check_owner) .none kV_check_owner dc_check_owner pm_check_owner an_check_owner cd_check_owner ct_check_owner), sl_check_owner⟩) (c_check_owner : PySem.W.codeIn K cd_check_owner "check_owner" = true) (k_check_owner : PySem.W.keepIn K (.ref f_check_owner) = true)
    (a_scan_owner : PySem.W.nsIn K mainGlobals "scan_owner" = some (some (.ref f_scan_owner))) (l_scan_owner : K.lookup f_scan_owner = some ⟨oc_scan_owner, od_scan_owner, .func (PySem.W.fnOf "scan_owner" "scan_owner" (defArgs s_scan_owner) (defBody s_scan_owner) (defScope s_scan_owner) .none kV_scan_owner dc_scan_owner pm_scan_owner an_scan_owner cd_scan_owner ct_scan_owner), sl_scan_owner⟩) (c_scan_owner : PySem.W.codeIn K cd_scan_owner "scan_owner" = true) (k_scan_owner : PySem.W.keepIn K (.ref f_scan_owner) = true)
    (a_parse_name : PySem.W.nsIn K mainGlobals "parse_name" = some (some (.ref f_parse_name))) (l_parse_name : K.lookup f_parse_name = some ⟨oc_parse_name, od_parse_name, .func (PySem.W.fnOf "parse_name" "parse_name" (defArgs s_parse_name) (defBody s_parse_name) (defScope s_parse_name) .none kV_parse_name dc_parse_name pm_parse_name an_parse_name cd_parse_name ct_parse_name), sl_parse_name⟩) (c_parse_name : PySem.W.codeIn K cd_parse_name "parse_name" = true) (k_parse_name : PySem.W.keepIn K (.ref f_parse_name) = true)
    (a_parse_owner : PySem.W.nsIn K mainGlobals "parse_owner" = some (some (.ref f_parse_owner))) (l_parse_owner : K.lookup f_parse_owner = some ⟨oc_parse_owner, od_parse_owner, .func (PySem.W.fnOf "parse_owner" "parse_owner" (defArgs s_parse_owner) (defBody s_parse_owner) (defScope s_parse_owner) .none kV_parse_owner dc_parse_owner pm_parse_owner an_parse_owner cd_parse_owner ct_parse_owner), sl_parse_owner⟩) (c_parse_owner : PySem.W.codeIn K cd_parse_owner "parse_owner" = true) (k_parse_owner : PySem.W.keepIn K (.ref f_parse_owner) = true)
    (a_format_owner : PySem.W.nsIn K mainGlobals "format_owner" = some (some (.ref f_format_owner))) (l_format_owner : K.lookup f_format_owner = some ⟨oc_format_owner, od_format_owner, .func (PySem.W.fnOf "format_owner" "format_owner" (defArgs s_format_owner) (defBody s_format_owner) (defScope s_format_owner) .none kV_format_owner dc_format_owner pm_format_owner an_format_owner cd_format_owner ct_format_owner), sl_format_owner⟩) (c_format_owner : PySem.W.codeIn K cd_format_owner "format_owner" = true) (k_format_owner : PySem.W.keepIn K (.ref f_format_owner) = true)
    (a__law_draw : PySem.W.nsIn K mainGlobals "_law_draw" = some (some (.ref f__law_draw))) (l__law_draw : K.lookup f__law_draw = some ⟨oc__law_draw, od__law_draw, .func (PySem.W.fnOf "_law_draw" "_law_draw" (defArgs s__law_draw) (defBody s__law_draw) (defScope s__law_draw) .none kV__law_draw dc__law_draw pm__law_draw an__law_draw cd__law_draw ct__law_draw), sl__law_draw⟩) (c__law_draw : PySem.W.codeIn K cd__law_draw "_law_draw" = true) (k__law_draw : PySem.W.keepIn K (.ref f__law_draw) = true)
    (a__law_pick : PySem.W.nsIn K mainGlobals "_law_pick" = some (some (.ref f__law_pick))) (l__law_pick : K.lookup f__law_pick = some ⟨oc__law_pick, od__law_pick, .func (PySem.W.fnOf "_law_pick" "_law_pick" (defArgs s__law_pick) (defBody s__law_pick) (defScope s__law_pick) .none kV__law_pick dc__law_pick pm__law_pick an__law_pick cd__law_pick ct__law_pick), sl__law_pick⟩) (c__law_pick : PySem.W.codeIn K cd__law_pick "_law_pick" = true) (k__law_pick : PySem.W.keepIn K (.ref f__law_pick) = true)
    (a__law_same : PySem.W.nsIn K mainGlobals "_law_same" = some (some (.ref f__law_same))) (l__law_same : K.lookup f__law_same = some ⟨oc__law_same, od__law_same, .func (PySem.W.fnOf "_law_same" "_law_same" (defArgs s__law_same) (defBody s__law_same) (defScope s__law_same) .none kV__law_same dc__law_same pm__law_same an__law_same cd__law_same ct__law_same), sl__law_same⟩) (c__law_same : PySem.W.codeIn K cd__law_same "_law_same" = true) (k__law_same : PySem.W.keepIn K (.ref f__law_same) = true)
    (a__law_label : PySem.W.nsIn K mainGlobals "_law_label" = some (some (.ref f__law_label))) (l__law_label : K.lookup f__law_label = some ⟨oc__law_label, od__law_label, .func (PySem.W.fnOf "_law_label" "_law_label" (defArgs s__law_label) (defBody s__law_label) (defScope s__law_label) .none kV__law_label dc__law_label pm__law_label an__law_label cd__law_label ct__law_label), sl__law_label⟩) (c__law_label : PySem.W.codeIn K cd__law_label "_law_label" = true) (k__law_label : PySem.W.keepIn K (.ref f__law_label) = true)
    (a__law_name : PySem.W.nsIn K mainGlobals "_law_name" = some (some (.ref f__law_name))) (l__law_name : K.lookup f__law_name = some ⟨oc__law_name, od__law_name, .func (PySem.W.fnOf "_law_name" "_law_name" (defArgs s__law_name) (defBody s__law_name) (defScope s__law_name) .none kV__law_name dc__law_name pm__law_name an__law_name cd__law_name ct__law_name), sl__law_name⟩) (c__law_name : PySem.W.codeIn K cd__law_name "_law_name" = true) (k__law_name : PySem.W.keepIn K (.ref f__law_name) = true)
    (a__law_owner : PySem.W.nsIn K mainGlobals "_law_owner" = some (some (.ref f__law_owner))) (l__law_owner : K.lookup f__law_owner = some ⟨oc__law_owner, od__law_owner, .func (PySem.W.fnOf "_law_owner" "_law_owner" (defArgs s__law_owner) (defBody s__law_owner) (defScope s__law_owner) .none kV__law_owner dc__law_owner pm__law_owner an__law_owner cd__law_owner ct__law_owner), sl__law_owner⟩) (c__law_owner : PySem.W.codeIn K cd__law_owner "_law_owner" = true) (k__law_owner : PySem.W.keepIn K (.ref f__law_owner) = true)
    (a__law_is_name : PySem.W.nsIn K mainGlobals "_law_is_name" = some (some (.ref f__law_is_name))) (l__law_is_name : K.lookup f__law_is_name = some ⟨oc__law_is_name, od__law_is_name, .func (PySem.W.fnOf "_law_is_name" "_law_is_name" (defArgs s__law_is_name) (defBody s__law_is_name) (defScope s__law_is_name) .none kV__law_is_name dc__law_is_name pm__law_is_name an__law_is_name cd__law_is_name ct__law_is_name), sl__law_is_name⟩) (c__law_is_name : PySem.W.codeIn K cd__law_is_name "_law_is_name" = true) (k__law_is_name : PySem.W.keepIn K (.ref f__law_is_name) = true)
    (a__law_is_owner : PySem.W.nsIn K mainGlobals "_law_is_owner" = some (some (.ref f__law_is_owner))) (l__law_is_owner : K.lookup f__law_is_owner = some ⟨oc__law_is_owner, od__law_is_owner, .func (PySem.W.fnOf "_law_is_owner" "_law_is_owner" (defArgs s__law_is_owner) (defBody s__law_is_owner) (defScope s__law_is_owner) .none kV__law_is_owner dc__law_is_owner pm__law_is_owner an__law_is_owner cd__law_is_owner ct__law_is_owner), sl__law_is_owner⟩) (c__law_is_owner : PySem.W.codeIn K cd__law_is_owner "_law_is_owner" = true) (k__law_is_owner : PySem.W.keepIn K (.ref f__law_is_owner) = true)
    (a__law_scan : PySem.W.nsIn K mainGlobals "_law_scan" = some (some (.ref f__law_scan))) (l__law_scan : K.lookup f__law_scan = some ⟨oc__law_scan, od__law_scan, .func (PySem.W.fnOf "_law_scan" "_law_scan" (defArgs s__law_scan) (defBody s__law_scan) (defScope s__law_scan) .none kV__law_scan dc__law_scan pm__law_scan an__law_scan cd__law_scan ct__law_scan), sl__law_scan⟩) (c__law_scan : PySem.W.codeIn K cd__law_scan "_law_scan" = true) (k__law_scan : PySem.W.keepIn K (.ref f__law_scan) = true)
    (a__law_sign : PySem.W.nsIn K mainGlobals "_law_sign" = some (some (.ref f__law_sign))) (l__law_sign : K.lookup f__law_sign = some ⟨oc__law_sign, od__law_sign, .func (PySem.W.fnOf "_law_sign" "_law_sign" (defArgs s__law_sign) (defBody s__law_sign) (defScope s__law_sign) .none kV__law_sign dc__law_sign pm__law_sign an__law_sign cd__law_sign ct__law_sign), sl__law_sign⟩) (c__law_sign : PySem.W.codeIn K cd__law_sign "_law_sign" = true) (k__law_sign : PySem.W.keepIn K (.ref f__law_sign) = true)
    (a__law_edit : PySem.W.nsIn K mainGlobals "_law_edit" = some (some (.ref f__law_edit))) (l__law_edit : K.lookup f__law_edit = some ⟨oc__law_edit, od__law_edit, .func (PySem.W.fnOf "_law_edit" "_law_edit" (defArgs s__law_edit) (defBody s__law_edit) (defScope s__law_edit) .none kV__law_edit dc__law_edit pm__law_edit an__law_edit cd__law_edit ct__law_edit), sl__law_edit⟩) (c__law_edit : PySem.W.codeIn K cd__law_edit "_law_edit" = true) (k__law_edit : PySem.W.keepIn K (.ref f__law_edit) = true)
    (a__law_wrong_name : PySem.W.nsIn K mainGlobals "_law_wrong_name" = some (some (.ref f__law_wrong_name))) (l__law_wrong_name : K.lookup f__law_wrong_name = some ⟨oc__law_wrong_name, od__law_wrong_name, .func (PySem.W.fnOf "_law_wrong_name" "_law_wrong_name" (defArgs s__law_wrong_name) (defBody s__law_wrong_name) (defScope s__law_wrong_name) .none kV__law_wrong_name dc__law_wrong_name pm__law_wrong_name an__law_wrong_name cd__law_wrong_name ct__law_wrong_name), sl__law_wrong_name⟩) (c__law_wrong_name : PySem.W.codeIn K cd__law_wrong_name "_law_wrong_name" = true) (k__law_wrong_name : PySem.W.keepIn K (.ref f__law_wrong_name) = true)
    (a__law_text : PySem.W.nsIn K mainGlobals "_law_text" = some (some (.ref f__law_text))) (l__law_text : K.lookup f__law_text = some ⟨oc__law_text, od__law_text, .func (PySem.W.fnOf "_law_text" "_law_text" (defArgs s__law_text) (defBody s__law_text) (defScope s__law_text) .none kV__law_text dc__law_text pm__law_text an__law_text cd__law_text ct__law_text), sl__law_text⟩) (c__law_text : PySem.W.codeIn K cd__law_text "_law_text" = true) (k__law_text : PySem.W.keepIn K (.ref f__law_text) = true)
    (a__law_outcome : PySem.W.nsIn K mainGlobals "_law_outcome" = some (some (.ref f__law_outcome))) (l__law_outcome : K.lookup f__law_outcome = some ⟨oc__law_outcome, od__law_outcome, .func (PySem.W.fnOf "_law_outcome" "_law_outcome" (defArgs s__law_outcome) (defBody s__law_outcome) (defScope s__law_outcome) .none kV__law_outcome dc__law_outcome pm__law_outcome an__law_outcome cd__law_outcome ct__law_outcome), sl__law_outcome⟩) (c__law_outcome : PySem.W.codeIn K cd__law_outcome "_law_outcome" = true) (k__law_outcome : PySem.W.keepIn K (.ref f__law_outcome) = true)
    (a__law_is_read : PySem.W.nsIn K mainGlobals "_law_is_read" = some (some (.ref f__law_is_read))) (l__law_is_read : K.lookup f__law_is_read = some ⟨oc__law_is_read, od__law_is_read, .func (PySem.W.fnOf "_law_is_read" "_law_is_read" (defArgs s__law_is_read) (defBody s__law_is_read) (defScope s__law_is_read) .none kV__law_is_read dc__law_is_read pm__law_is_read an__law_is_read cd__law_is_read ct__law_is_read), sl__law_is_read⟩) (c__law_is_read : PySem.W.codeIn K cd__law_is_read "_law_is_read" = true) (k__law_is_read : PySem.W.keepIn K (.ref f__law_is_read) = true)
    (a__law_is_judged : PySem.W.nsIn K mainGlobals "_law_is_judged" = some (some (.ref f__law_is_judged))) (l__law_is_judged : K.lookup f__law_is_judged = some ⟨oc__law_is_judged, od__law_is_judged, .func (PySem.W.fnOf "_law_is_judged" "_law_is_judged" (defArgs s__law_is_judged) (defBody s__law_is_judged) (defScope s__law_is_judged) .none kV__law_is_judged dc__law_is_judged pm__law_is_judged an__law_is_judged cd__law_is_judged ct__law_is_judged), sl__law_is_judged⟩) (c__law_is_judged : PySem.W.codeIn K cd__law_is_judged "_law_is_judged" = true) (k__law_is_judged : PySem.W.keepIn K (.ref f__law_is_judged) = true)
    (a__law_some_label : PySem.W.nsIn K mainGlobals "_law_some_label" = some (some (.ref f__law_some_label))) (l__law_some_label : K.lookup f__law_some_label = some ⟨oc__law_some_label, od__law_some_label, .func (PySem.W.fnOf "_law_some_label" "_law_some_label" (defArgs s__law_some_label) (defBody s__law_some_label) (defScope s__law_some_label) .none kV__law_some_label dc__law_some_label pm__law_some_label an__law_some_label cd__law_some_label ct__law_some_label), sl__law_some_label⟩) (c__law_some_label : PySem.W.codeIn K cd__law_some_label "_law_some_label" = true) (k__law_some_label : PySem.W.keepIn K (.ref f__law_some_label) = true)
    (a_law : PySem.W.nsIn K mainGlobals "law" = some (some (.ref f_law))) (l_law : K.lookup f_law = some ⟨oc_law, od_law, .func (PySem.W.fnOf "law" "law" (defArgs s_law) (defBody s_law) (defScope s_law) .none kV_law dc_law pm_law an_law cd_law ct_law), sl_law⟩) (c_law : PySem.W.codeIn K cd_law "law" = true) (k_law : PySem.W.keepIn K (.ref f_law) = true)
    (z_abs : PySem.W.nsIn K mainGlobals "abs" = some none)
    (z_all : PySem.W.nsIn K mainGlobals "all" = some none)
    (z_bool : PySem.W.nsIn K mainGlobals "bool" = some none)
    (z_int : PySem.W.nsIn K mainGlobals "int" = some none)
    (z_isinstance : PySem.W.nsIn K mainGlobals "isinstance" = some none)
    (z_len : PySem.W.nsIn K mainGlobals "len" = some none)
    (z_list : PySem.W.nsIn K mainGlobals "list" = some none)
    (z_range : PySem.W.nsIn K mainGlobals "range" = some none)
    (z_str : PySem.W.nsIn K mainGlobals "str" = some none)
    (z_tuple : PySem.W.nsIn K mainGlobals "tuple" = some none)
    (g_LETTERS : PySem.W.nsIn K mainGlobals "LETTERS" = some (some (.str "abcdefghijklmnopqrstuvwxyz0123456789-" u_LETTERS)))
    (g_MOST_LABEL : PySem.W.nsIn K mainGlobals "MOST_LABEL" = some (some (.int 12 u_MOST_LABEL)))
    (g_MOST_LABELS : PySem.W.nsIn K mainGlobals "MOST_LABELS" = some (some (.int 6 u_MOST_LABELS)))
    (aC_BadName : PySem.W.nsIn K mainGlobals "BadName" = some (some (.ref C_BadName)))
    (xC_BadName : K.lookup C_BadName = some (PySem.excClassObj nm_BadName q_BadName C_BadName N_BadName bs_BadName bm_BadName true sn_BadName sub_BadName ab_BadName col_BadName dd_BadName m0_BadName m1_BadName m2_BadName m3_BadName m5_BadName "ValueError.__new__"))
    (sa_BadName : PySem.W.findIn K (.ref C_BadName) "__setattr__" = some (some (.builtin "object.__setattr__")))
    (eC_BadName : PySem.W.subIn K (.ref C_BadName) (.type "BaseException") = some true)
    (tC_BadName : PySem.W.typeIn K (.ref C_BadName) = some (.type "type"))
    (kC_BadName : PySem.W.keepIn K (.ref C_BadName) = true)
    (iC_BadName : PySem.W.findIn K (.ref C_BadName) "__init__" = some (some (.ref fI_BadName)))
    (tI_BadName : PySem.W.typeIn K (.ref fI_BadName) = some (.type "function"))
    (lI_BadName : K.lookup fI_BadName = some ⟨oc2_BadName, od2_BadName, .func (fdx (nf_BadName cc_BadName cda_BadName) .none kV2_BadName doc2_BadName pm2_BadName an2_BadName ct2_BadName), osl_BadName⟩)
    (cI_BadName : PySem.W.codeIn K (.ref cda_BadName) "BadName.__init__" = true)
    (cd_BadName : K.lookup cda_BadName = some ⟨ccl_BadName, cdd_BadName, .fields vs_BadName, ccs_BadName⟩)
    (ce_BadName : K.lookup cc_BadName = some ⟨cl_BadName, cld_BadName, .cell (some (.ref C_BadName)), csl_BadName⟩)
    (cs_BadName : PySem.W.clsIn K C_BadName = some cdD_BadName)
    (mr_BadName : PySem.W.mroIn K C_BadName (.ref C_BadName) = some true)
    (su_BadName : PySem.W.ks_superIn K C_BadName C_BadName "__init__" = some (some (.builtin "ValueError.__init__")))
    (va_BadName : PySem.W.subIn K (.ref C_BadName) (.type "ValueError") = some true)
    (ga_BadName : PySem.W.findIn K (.ref C_BadName) "__getattribute__" = some (some (.builtin "BaseException.__getattribute__")))
    (gg_BadName : PySem.W.findIn K (.ref C_BadName) "__getattr__" = some none)
    (hd_BadName : PySem.W.hasDictIn K C_BadName = true)
    (rC_BadName : PySem.HandSPX.refsVE bm_BadName = true)
    (hv_BadName : vs_BadName[2]? = some (.str file_BadName tf_BadName))
    (hf_BadName : ((l.prog.main.file : Str) == file_BadName) = true)
    (n_BadName_value : PySem.W.findIn K (.ref C_BadName) "value" = some none)
    (n_BadName_place : PySem.W.findIn K (.ref C_BadName) "place" = some none)
    (sup_ : PySem.W.nsIn K mainGlobals "super" = some none)
    (thi_ : PySem.W.nsIn K PySem.cStatics "thirdparty.any" = some none)
    (htop_ : (l.prog.main.scope.names.lookup ("super" : Str)).isSome = false)
    (sb_BadName_BadName : PySem.W.subIn K (.ref C_BadName) (.ref C_BadName) = some true) :
    ∃ (G : Cl) (fd : FuncData), (∀ (s : Shared) (v : Value), BindsTo s fd ⟨[v], []⟩ [("script", v)]) ∧ ∀ base : Heap, K.In base → base.Ns mainGlobals mg → FnOk l.prog w K mg base (L2.CX l.prog w) 15 fa fd ["script"] (spM K G 1 m_law) := by
  have e := hfa.symm.trans (PySem.W.mg_of X G a_law)
  cases e
  have T : Tx mg := ⟨PySem.W.mg_none_of X G z_abs, PySem.W.mg_none_of X G z_all, PySem.W.mg_none_of X G z_bool, PySem.W.mg_none_of X G z_int, PySem.W.mg_none_of X G z_isinstance, PySem.W.mg_none_of X G z_len, PySem.W.mg_none_of X G z_list, PySem.W.mg_none_of X G z_range, PySem.W.mg_none_of X G z_str, PySem.W.mg_none_of X G z_tuple, ⟨_, PySem.W.mg_of X G g_LETTERS⟩, ⟨_, PySem.W.mg_of X G g_MOST_LABEL⟩, ⟨_, PySem.W.mg_of X G g_MOST_LABELS⟩⟩
  have F_is_label := fun_mk (st := s_is_label) l_is_label c_is_label k_is_label
  have b_is_label := F_is_label.binds (ps := ["value"]) fun _ _ _ _ _ _ us hl => match us, hl with | [_], _ => rfl
  have F_is_name := fun_mk (st := s_is_name) l_is_name c_is_name k_is_name
  have b_is_name := F_is_name.binds (ps := ["value"]) fun _ _ _ _ _ _ us hl => match us, hl with | [_], _ => rfl
  have F_is_owner := fun_mk (st := s_is_owner) l_is_owner c_is_owner k_is_owner
  have b_is_owner := F_is_owner.binds (ps := ["value"]) fun _ _ _ _ _ _ us hl => match us, hl with | [_], _ => rfl
  have F_check_owner := fun_mk (st := s_check_owner) l_check_owner c_check_owner k_check_owner
  have b_check_owner := F_check_owner.binds (ps := ["owner"]) fun _ _ _ _ _ _ us hl => match us, hl with | [_], _ => rfl
  have F_scan_owner := fun_mk (st := s_scan_owner) l_scan_owner c_scan_owner k_scan_owner
  have b_scan_owner := F_scan_owner.binds (ps := ["text", "star"]) fun _ _ _ _ _ _ us hl => match us, hl with | [_, _], _ => rfl
  have F_parse_name := fun_mk (st := s_parse_name) l_parse_name c_parse_name k_parse_name
  have b_parse_name := F_parse_name.binds (ps := ["text"]) fun _ _ _ _ _ _ us hl => match us, hl with | [_], _ => rfl
  have F_parse_owner := fun_mk (st := s_parse_owner) l_parse_owner c_parse_owner k_parse_owner
  have b_parse_owner := F_parse_owner.binds (ps := ["text"]) fun _ _ _ _ _ _ us hl => match us, hl with | [_], _ => rfl
  have F_format_owner := fun_mk (st := s_format_owner) l_format_owner c_format_owner k_format_owner
  have b_format_owner := F_format_owner.binds (ps := ["owner"]) fun _ _ _ _ _ _ us hl => match us, hl with | [_], _ => rfl
  have F__law_draw := fun_mk (st := s__law_draw) l__law_draw c__law_draw k__law_draw
  have b__law_draw := F__law_draw.binds (ps := ["src", "most"]) fun _ _ _ _ _ _ us hl => match us, hl with | [_, _], _ => rfl
  have F__law_pick := fun_mk (st := s__law_pick) l__law_pick c__law_pick k__law_pick
  have b__law_pick := F__law_pick.binds (ps := ["src", "some"]) fun _ _ _ _ _ _ us hl => match us, hl with | [_, _], _ => rfl
  have F__law_same := fun_mk (st := s__law_same) l__law_same c__law_same k__law_same
  have b__law_same := F__law_same.binds (ps := ["told", "due"]) fun _ _ _ _ _ _ us hl => match us, hl with | [_, _], _ => rfl
  have F__law_label := fun_mk (st := s__law_label) l__law_label c__law_label k__law_label
  have b__law_label := F__law_label.binds (ps := ["src"]) fun _ _ _ _ _ _ us hl => match us, hl with | [_], _ => rfl
  have F__law_name := fun_mk (st := s__law_name) l__law_name c__law_name k__law_name
  have b__law_name := F__law_name.binds (ps := ["src", "base", "most"]) fun _ _ _ _ _ _ us hl => match us, hl with | [_, _, _], _ => rfl
  have F__law_owner := fun_mk (st := s__law_owner) l__law_owner c__law_owner k__law_owner
  have b__law_owner := F__law_owner.binds (ps := ["src", "base"]) fun _ _ _ _ _ _ us hl => match us, hl with | [_, _], _ => rfl
  have F__law_is_name := fun_mk (st := s__law_is_name) l__law_is_name c__law_is_name k__law_is_name
  have b__law_is_name := F__law_is_name.binds (ps := ["value"]) fun _ _ _ _ _ _ us hl => match us, hl with | [_], _ => rfl
  have F__law_is_owner := fun_mk (st := s__law_is_owner) l__law_is_owner c__law_is_owner k__law_is_owner
  have b__law_is_owner := F__law_is_owner.binds (ps := ["value"]) fun _ _ _ _ _ _ us hl => match us, hl with | [_], _ => rfl
  have F__law_scan := fun_mk (st := s__law_scan) l__law_scan c__law_scan k__law_scan
  have b__law_scan := F__law_scan.binds (ps := ["text", "star"]) fun _ _ _ _ _ _ us hl => match us, hl with | [_, _], _ => rfl
  have F__law_sign := fun_mk (st := s__law_sign) l__law_sign c__law_sign k__law_sign
  have b__law_sign := F__law_sign.binds (ps := ["src"]) fun _ _ _ _ _ _ us hl => match us, hl with | [_], _ => rfl
  have F__law_edit := fun_mk (st := s__law_edit) l__law_edit c__law_edit k__law_edit
  have b__law_edit := F__law_edit.binds (ps := ["src", "text"]) fun _ _ _ _ _ _ us hl => match us, hl with | [_, _], _ => rfl
  have F__law_wrong_name := fun_mk (st := s__law_wrong_name) l__law_wrong_name c__law_wrong_name k__law_wrong_name
  have b__law_wrong_name := F__law_wrong_name.binds (ps := ["src"]) fun _ _ _ _ _ _ us hl => match us, hl with | [_], _ => rfl
  have F__law_text := fun_mk (st := s__law_text) l__law_text c__law_text k__law_text
  have b__law_text := F__law_text.binds (ps := ["src"]) fun _ _ _ _ _ _ us hl => match us, hl with | [_], _ => rfl
  have F__law_outcome := fun_mk (st := s__law_outcome) l__law_outcome c__law_outcome k__law_outcome
  have b__law_outcome := F__law_outcome.binds (ps := ["which", "value"]) fun _ _ _ _ _ _ us hl => match us, hl with | [_, _], _ => rfl
  have F__law_is_read := fun_mk (st := s__law_is_read) l__law_is_read c__law_is_read k__law_is_read
  have b__law_is_read := F__law_is_read.binds (ps := ["text"]) fun _ _ _ _ _ _ us hl => match us, hl with | [_], _ => rfl
  have F__law_is_judged := fun_mk (st := s__law_is_judged) l__law_is_judged c__law_is_judged k__law_is_judged
  have b__law_is_judged := F__law_is_judged.binds (ps := ["value"]) fun _ _ _ _ _ _ us hl => match us, hl with | [_], _ => rfl
  have F__law_some_label := fun_mk (st := s__law_some_label) l__law_some_label c__law_some_label k__law_some_label
  have b__law_some_label := F__law_some_label.binds (ps := ["src"]) fun _ _ _ _ _ _ us hl => match us, hl with | [_], _ => rfl
  have F_law := fun_mk (st := s_law) l_law c_law k_law
  have b_law := F_law.binds (ps := ["script"]) fun _ _ _ _ _ _ us hl => match us, hl with | [_], _ => rfl
  refine ⟨(⟨fun c => match c with | 0 => C_BadName | _ => 0, fun c => match c with | 0 => ["value", "place"] | _ => []⟩ : Cl), PySem.W.fnOf "law" "law" (defArgs s_law) (defBody s_law) (defScope s_law) .none kV_law dc_law pm_law an_law cd_law ct_law, fun s v => .of_eq rfl, fun base _ _ => ?_⟩
  have Z : Errs l.prog w K mg base (⟨fun c => match c with | 0 => C_BadName | _ => 0, fun c => match c with | 0 => ["value", "place"] | _ => []⟩ : Cl) := ⟨PySem.W.mg_of X G aC_BadName, err_mk_BadName X G aC_BadName xC_BadName sa_BadName eC_BadName tC_BadName kC_BadName iC_BadName tI_BadName lI_BadName cI_BadName cd_BadName ce_BadName cs_BadName mr_BadName su_BadName va_BadName ga_BadName gg_BadName hd_BadName rC_BadName hv_BadName hf_BadName n_BadName_value n_BadName_place sup_ thi_ htop_ rfl rfl, rfl, ⟨ga_BadName, gg_BadName, eC_BadName, hd_BadName⟩, n_BadName_value, n_BadName_place, fun c c2 b h => by
    unfold mtab at h
    split at h
    · rename_i hlt
      obtain ⟨h1, h2⟩ := hlt
      have hc : c = 0 := by omega
      have hc2 : c2 = 0 := by omega
      rcases hc with rfl <;> rcases hc2 with rfl
      · simp at h; subst h; exact exm_mk eC_BadName cs_BadName tC_BadName sb_BadName_BadName
    · cases h⟩
  have O_is_label : Ok l.prog w K mg base (⟨fun c => match c with | 0 => C_BadName | _ => 0, fun c => match c with | 0 => ["value", "place"] | _ => []⟩ : Cl) 1 "is_label" ["value"] m_is_label := ⟨_, _, PySem.W.mg_of X G a_is_label, F_is_label.kp, b_is_label, d_is_label F_is_label T Z ⟩
  have O_is_name : Ok l.prog w K mg base (⟨fun c => match c with | 0 => C_BadName | _ => 0, fun c => match c with | 0 => ["value", "place"] | _ => []⟩ : Cl) 2 "is_name" ["value"] m_is_name := ⟨_, _, PySem.W.mg_of X G a_is_name, F_is_name.kp, b_is_name, d_is_name F_is_name T Z O_is_label⟩
  have O_is_owner : Ok l.prog w K mg base (⟨fun c => match c with | 0 => C_BadName | _ => 0, fun c => match c with | 0 => ["value", "place"] | _ => []⟩ : Cl) 3 "is_owner" ["value"] m_is_owner := ⟨_, _, PySem.W.mg_of X G a_is_owner, F_is_owner.kp, b_is_owner, d_is_owner F_is_owner T Z O_is_name⟩
  have O_check_owner : Ok l.prog w K mg base (⟨fun c => match c with | 0 => C_BadName | _ => 0, fun c => match c with | 0 => ["value", "place"] | _ => []⟩ : Cl) 4 "check_owner" ["owner"] m_check_owner := ⟨_, _, PySem.W.mg_of X G a_check_owner, F_check_owner.kp, b_check_owner, d_check_owner F_check_owner T Z O_is_owner⟩
  have O_scan_owner : Ok l.prog w K mg base (⟨fun c => match c with | 0 => C_BadName | _ => 0, fun c => match c with | 0 => ["value", "place"] | _ => []⟩ : Cl) 3 "scan_owner" ["text", "star"] m_scan_owner := ⟨_, _, PySem.W.mg_of X G a_scan_owner, F_scan_owner.kp, b_scan_owner, d_scan_owner F_scan_owner T Z ⟩
  have O_parse_name : Ok l.prog w K mg base (⟨fun c => match c with | 0 => C_BadName | _ => 0, fun c => match c with | 0 => ["value", "place"] | _ => []⟩ : Cl) 4 "parse_name" ["text"] m_parse_name := ⟨_, _, PySem.W.mg_of X G a_parse_name, F_parse_name.kp, b_parse_name, d_parse_name F_parse_name T Z O_scan_owner⟩
  have O_parse_owner : Ok l.prog w K mg base (⟨fun c => match c with | 0 => C_BadName | _ => 0, fun c => match c with | 0 => ["value", "place"] | _ => []⟩ : Cl) 4 "parse_owner" ["text"] m_parse_owner := ⟨_, _, PySem.W.mg_of X G a_parse_owner, F_parse_owner.kp, b_parse_owner, d_parse_owner F_parse_owner T Z O_scan_owner⟩
  have O_format_owner : Ok l.prog w K mg base (⟨fun c => match c with | 0 => C_BadName | _ => 0, fun c => match c with | 0 => ["value", "place"] | _ => []⟩ : Cl) 5 "format_owner" ["owner"] m_format_owner := ⟨_, _, PySem.W.mg_of X G a_format_owner, F_format_owner.kp, b_format_owner, d_format_owner F_format_owner T Z O_check_owner⟩
  have O__law_draw : Ok l.prog w K mg base (⟨fun c => match c with | 0 => C_BadName | _ => 0, fun c => match c with | 0 => ["value", "place"] | _ => []⟩ : Cl) 1 "_law_draw" ["src", "most"] m__law_draw := ⟨_, _, PySem.W.mg_of X G a__law_draw, F__law_draw.kp, b__law_draw, d__law_draw F__law_draw T Z ⟩
  have O__law_pick : Ok l.prog w K mg base (⟨fun c => match c with | 0 => C_BadName | _ => 0, fun c => match c with | 0 => ["value", "place"] | _ => []⟩ : Cl) 2 "_law_pick" ["src", "some"] m__law_pick := ⟨_, _, PySem.W.mg_of X G a__law_pick, F__law_pick.kp, b__law_pick, d__law_pick F__law_pick T Z O__law_draw⟩
  have O__law_same : Ok l.prog w K mg base (⟨fun c => match c with | 0 => C_BadName | _ => 0, fun c => match c with | 0 => ["value", "place"] | _ => []⟩ : Cl) 13 "_law_same" ["told", "due"] (m__law_same 12) := ⟨_, _, PySem.W.mg_of X G a__law_same, F__law_same.kp, b__law_same, d__law_same F__law_same T Z  (PySem.W.mg_of X G a__law_same) b__law_same 12⟩
  have O__law_label : Ok l.prog w K mg base (⟨fun c => match c with | 0 => C_BadName | _ => 0, fun c => match c with | 0 => ["value", "place"] | _ => []⟩ : Cl) 2 "_law_label" ["src"] m__law_label := ⟨_, _, PySem.W.mg_of X G a__law_label, F__law_label.kp, b__law_label, d__law_label F__law_label T Z O__law_draw⟩
  have O__law_name : Ok l.prog w K mg base (⟨fun c => match c with | 0 => C_BadName | _ => 0, fun c => match c with | 0 => ["value", "place"] | _ => []⟩ : Cl) 3 "_law_name" ["src", "base", "most"] m__law_name := ⟨_, _, PySem.W.mg_of X G a__law_name, F__law_name.kp, b__law_name, d__law_name F__law_name T Z O__law_draw O__law_label⟩
  have O__law_owner : Ok l.prog w K mg base (⟨fun c => match c with | 0 => C_BadName | _ => 0, fun c => match c with | 0 => ["value", "place"] | _ => []⟩ : Cl) 4 "_law_owner" ["src", "base"] m__law_owner := ⟨_, _, PySem.W.mg_of X G a__law_owner, F__law_owner.kp, b__law_owner, d__law_owner F__law_owner T Z O__law_draw O__law_name⟩
  have O__law_is_name : Ok l.prog w K mg base (⟨fun c => match c with | 0 => C_BadName | _ => 0, fun c => match c with | 0 => ["value", "place"] | _ => []⟩ : Cl) 1 "_law_is_name" ["value"] m__law_is_name := ⟨_, _, PySem.W.mg_of X G a__law_is_name, F__law_is_name.kp, b__law_is_name, d__law_is_name F__law_is_name T Z ⟩
  have O__law_is_owner : Ok l.prog w K mg base (⟨fun c => match c with | 0 => C_BadName | _ => 0, fun c => match c with | 0 => ["value", "place"] | _ => []⟩ : Cl) 2 "_law_is_owner" ["value"] m__law_is_owner := ⟨_, _, PySem.W.mg_of X G a__law_is_owner, F__law_is_owner.kp, b__law_is_owner, d__law_is_owner F__law_is_owner T Z O__law_is_name⟩
  have O__law_scan : Ok l.prog w K mg base (⟨fun c => match c with | 0 => C_BadName | _ => 0, fun c => match c with | 0 => ["value", "place"] | _ => []⟩ : Cl) 1 "_law_scan" ["text", "star"] m__law_scan := ⟨_, _, PySem.W.mg_of X G a__law_scan, F__law_scan.kp, b__law_scan, d__law_scan F__law_scan T Z ⟩
  have O__law_sign : Ok l.prog w K mg base (⟨fun c => match c with | 0 => C_BadName | _ => 0, fun c => match c with | 0 => ["value", "place"] | _ => []⟩ : Cl) 3 "_law_sign" ["src"] m__law_sign := ⟨_, _, PySem.W.mg_of X G a__law_sign, F__law_sign.kp, b__law_sign, d__law_sign F__law_sign T Z O__law_draw O__law_pick⟩
  have O__law_edit : Ok l.prog w K mg base (⟨fun c => match c with | 0 => C_BadName | _ => 0, fun c => match c with | 0 => ["value", "place"] | _ => []⟩ : Cl) 4 "_law_edit" ["src", "text"] m__law_edit := ⟨_, _, PySem.W.mg_of X G a__law_edit, F__law_edit.kp, b__law_edit, d__law_edit F__law_edit T Z O__law_draw O__law_sign⟩
  have O__law_wrong_name : Ok l.prog w K mg base (⟨fun c => match c with | 0 => C_BadName | _ => 0, fun c => match c with | 0 => ["value", "place"] | _ => []⟩ : Cl) 3 "_law_wrong_name" ["src"] m__law_wrong_name := ⟨_, _, PySem.W.mg_of X G a__law_wrong_name, F__law_wrong_name.kp, b__law_wrong_name, d__law_wrong_name F__law_wrong_name T Z O__law_pick⟩
  have O__law_text : Ok l.prog w K mg base (⟨fun c => match c with | 0 => C_BadName | _ => 0, fun c => match c with | 0 => ["value", "place"] | _ => []⟩ : Cl) 5 "_law_text" ["src"] m__law_text := ⟨_, _, PySem.W.mg_of X G a__law_text, F__law_text.kp, b__law_text, d__law_text F__law_text T Z O__law_draw O__law_pick O__law_label O__law_edit⟩
  have O__law_outcome : Ok l.prog w K mg base (⟨fun c => match c with | 0 => C_BadName | _ => 0, fun c => match c with | 0 => ["value", "place"] | _ => []⟩ : Cl) 6 "_law_outcome" ["which", "value"] m__law_outcome := ⟨_, _, PySem.W.mg_of X G a__law_outcome, F__law_outcome.kp, b__law_outcome, d__law_outcome F__law_outcome T Z O_parse_name O_parse_owner O_format_owner⟩
  have O__law_is_read : Ok l.prog w K mg base (⟨fun c => match c with | 0 => C_BadName | _ => 0, fun c => match c with | 0 => ["value", "place"] | _ => []⟩ : Cl) 14 "_law_is_read" ["text"] m__law_is_read := ⟨_, _, PySem.W.mg_of X G a__law_is_read, F__law_is_read.kp, b__law_is_read, d__law_is_read F__law_is_read T Z O__law_same O__law_scan O__law_outcome⟩
  have O__law_is_judged : Ok l.prog w K mg base (⟨fun c => match c with | 0 => C_BadName | _ => 0, fun c => match c with | 0 => ["value", "place"] | _ => []⟩ : Cl) 14 "_law_is_judged" ["value"] m__law_is_judged := ⟨_, _, PySem.W.mg_of X G a__law_is_judged, F__law_is_judged.kp, b__law_is_judged, d__law_is_judged F__law_is_judged T Z O_is_name O_is_owner O__law_same O__law_is_name O__law_is_owner O__law_outcome⟩
  have O__law_some_label : Ok l.prog w K mg base (⟨fun c => match c with | 0 => C_BadName | _ => 0, fun c => match c with | 0 => ["value", "place"] | _ => []⟩ : Cl) 3 "_law_some_label" ["src"] m__law_some_label := ⟨_, _, PySem.W.mg_of X G a__law_some_label, F__law_some_label.kp, b__law_some_label, d__law_some_label F__law_some_label T Z O__law_draw O__law_pick O__law_label⟩
  exact d_law (P := l.prog) (w := w) (base := base) F_law T Z O_is_label O__law_draw O__law_pick O__law_same O__law_name O__law_owner O__law_is_name O__law_wrong_name O__law_text O__law_outcome O__law_is_read O__law_is_judged O__law_some_label
end Lk02
open PySem PySem.W PyProof.Rows
set_option maxRecDepth 100000 in
set_option maxHeartbeats 0 in
theorem PySem.Challenge.cw_surely_k02_names_read_and_written_holds : PySem.Challenge.rw_surely_k02_names_read_and_written.Holds := by
  w_on; o_law; k_head; (case hw => w_witness2)
  k_fill
  refine Sm.walk_lawG (l := PySem.Challenge.rw_surely_k02_names_read_and_written) (f := Lk02.m_law) (k := 15) rfl rfl (by exact ⟨rfl, by decide, by decide⟩) (fun w h Y => PySem.W.kIn_of Y) Lk02.main ?F
  case F =>
    intro w mg fa h KX G hmg
    refine' Lk02.all_mk KX G hmg ?a_is_label ?l_is_label ?c_is_label ?k_is_label ?a_is_name ?l_is_name ?c_is_name ?k_is_name ?a_is_owner ?l_is_owner ?c_is_owner ?k_is_owner ?a_check_owner ?l_check_owner ?c_check_owner ?k_check_owner ?a_scan_owner ?l_scan_owner ?c_scan_owner ?k_scan_owner ?a_parse_name ?l_parse_name ?c_parse_name ?k_parse_name ?a_parse_owner ?l_parse_owner ?c_parse_owner ?k_parse_owner ?a_format_owner ?l_format_owner ?c_format_owner ?k_format_owner ?a__law_draw ?l__law_draw ?c__law_draw ?k__law_draw ?a__law_pick ?l__law_pick ?c__law_pick ?k__law_pick ?a__law_same ?l__law_same ?c__law_same ?k__law_same ?a__law_label ?l__law_label ?c__law_label ?k__law_label ?a__law_name ?l__law_name ?c__law_name ?k__law_name ?a__law_owner ?l__law_owner ?c__law_owner ?k__law_owner ?a__law_is_name ?l__law_is_name ?c__law_is_name ?k__law_is_name ?a__law_is_owner ?l__law_is_owner ?c__law_is_owner ?k__law_is_owner ?a__law_scan ?l__law_scan ?c__law_scan ?k__law_scan ?a__law_sign ?l__law_sign ?c__law_sign ?k__law_sign ?a__law_edit ?l__law_edit ?c__law_edit ?k__law_edit ?a__law_wrong_name ?l__law_wrong_name ?c__law_wrong_name ?k__law_wrong_name ?a__law_text ?l__law_text ?c__law_text ?k__law_text ?a__law_outcome ?l__law_outcome ?c__law_outcome ?k__law_outcome ?a__law_is_read ?l__law_is_read ?c__law_is_read ?k__law_is_read ?a__law_is_judged ?l__law_is_judged ?c__law_is_judged ?k__law_is_judged ?a__law_some_label ?l__law_some_label ?c__law_some_label ?k__law_some_label ?a_law ?l_law ?c_law ?k_law ?z_abs ?z_all ?z_bool ?z_int ?z_isinstance ?z_len ?z_list ?z_range ?z_str ?z_tuple ?g_LETTERS ?g_MOST_LABEL ?g_MOST_LABELS ?aC_BadName ?xC_BadName ?sa_BadName ?eC_BadName ?tC_BadName ?kC_BadName ?iC_BadName ?tI_BadName ?lI_BadName ?cI_BadName ?cd_BadName ?ce_BadName ?cs_BadName ?mr_BadName ?su_BadName ?va_BadName ?ga_BadName ?gg_BadName ?hd_BadName ?rC_BadName ?hv_BadName ?hf_BadName ?n_BadName_value ?n_BadName_place ?sup_ ?thi_ ?htop_ ?sb_BadName_BadName
    (case a_is_label => first | k_is | ks_is); (case l_is_label => first | k_is | ks_is); (case c_is_label => first | k_is | ks_is); (case k_is_label => first | k_is | ks_is); (case a_is_name => first | k_is | ks_is); (case l_is_name => first | k_is | ks_is); (case c_is_name => first | k_is | ks_is); (case k_is_name => first | k_is | ks_is); (case a_is_owner => first | k_is | ks_is); (case l_is_owner => first | k_is | ks_is); (case c_is_owner => first | k_is | ks_is); (case k_is_owner => first | k_is | ks_is); (case a_check_owner => first | k_is | ks_is); (case l_check_owner => first | k_is | ks_is); (case c_check_owner => first | k_is | ks_is); (case k_check_owner => first | k_is | ks_is); (case a_scan_owner => first | k_is | ks_is); (case l_scan_owner => first | k_is | ks_is); (case c_scan_owner => first | k_is | ks_is); (case k_scan_owner => first | k_is | ks_is); (case a_parse_name => first | k_is | ks_is); (case l_parse_name => first | k_is | ks_is); (case c_parse_name => first | k_is | ks_is); (case k_parse_name => first | k_is | ks_is); (case a_parse_owner => first | k_is | ks_is); (case l_parse_owner => first | k_is | ks_is); (case c_parse_owner => first | k_is | ks_is); (case k_parse_owner => first | k_is | ks_is); (case a_format_owner => first | k_is | ks_is); (case l_format_owner => first | k_is | ks_is); (case c_format_owner => first | k_is | ks_is); (case k_format_owner => first | k_is | ks_is); (case a__law_draw => first | k_is | ks_is); (case l__law_draw => first | k_is | ks_is); (case c__law_draw => first | k_is | ks_is); (case k__law_draw => first | k_is | ks_is); (case a__law_pick => first | k_is | ks_is); (case l__law_pick => first | k_is | ks_is); (case c__law_pick => first | k_is | ks_is); (case k__law_pick => first | k_is | ks_is); (case a__law_same => first | k_is | ks_is); (case l__law_same => first | k_is | ks_is); (case c__law_same => first | k_is | ks_is); (case k__law_same => first | k_is | ks_is); (case a__law_label => first | k_is | ks_is); (case l__law_label => first | k_is | ks_is); (case c__law_label => first | k_is | ks_is); (case k__law_label => first | k_is | ks_is); (case a__law_name => first | k_is | ks_is); (case l__law_name => first | k_is | ks_is); (case c__law_name => first | k_is | ks_is); (case k__law_name => first | k_is | ks_is); (case a__law_owner => first | k_is | ks_is); (case l__law_owner => first | k_is | ks_is); (case c__law_owner => first | k_is | ks_is); (case k__law_owner => first | k_is | ks_is); (case a__law_is_name => first | k_is | ks_is); (case l__law_is_name => first | k_is | ks_is); (case c__law_is_name => first | k_is | ks_is); (case k__law_is_name => first | k_is | ks_is); (case a__law_is_owner => first | k_is | ks_is); (case l__law_is_owner => first | k_is | ks_is); (case c__law_is_owner => first | k_is | ks_is); (case k__law_is_owner => first | k_is | ks_is); (case a__law_scan => first | k_is | ks_is); (case l__law_scan => first | k_is | ks_is); (case c__law_scan => first | k_is | ks_is); (case k__law_scan => first | k_is | ks_is); (case a__law_sign => first | k_is | ks_is); (case l__law_sign => first | k_is | ks_is); (case c__law_sign => first | k_is | ks_is); (case k__law_sign => first | k_is | ks_is); (case a__law_edit => first | k_is | ks_is); (case l__law_edit => first | k_is | ks_is); (case c__law_edit => first | k_is | ks_is); (case k__law_edit => first | k_is | ks_is); (case a__law_wrong_name => first | k_is | ks_is); (case l__law_wrong_name => first | k_is | ks_is); (case c__law_wrong_name => first | k_is | ks_is); (case k__law_wrong_name => first | k_is | ks_is); (case a__law_text => first | k_is | ks_is); (case l__law_text => first | k_is | ks_is); (case c__law_text => first | k_is | ks_is); (case k__law_text => first | k_is | ks_is); (case a__law_outcome => first | k_is | ks_is); (case l__law_outcome => first | k_is | ks_is); (case c__law_outcome => first | k_is | ks_is); (case k__law_outcome => first | k_is | ks_is); (case a__law_is_read => first | k_is | ks_is); (case l__law_is_read => first | k_is | ks_is); (case c__law_is_read => first | k_is | ks_is); (case k__law_is_read => first | k_is | ks_is); (case a__law_is_judged => first | k_is | ks_is); (case l__law_is_judged => first | k_is | ks_is); (case c__law_is_judged => first | k_is | ks_is); (case k__law_is_judged => first | k_is | ks_is); (case a__law_some_label => first | k_is | ks_is); (case l__law_some_label => first | k_is | ks_is); (case c__law_some_label => first | k_is | ks_is); (case k__law_some_label => first | k_is | ks_is); (case a_law => first | k_is | ks_is); (case l_law => first | k_is | ks_is); (case c_law => first | k_is | ks_is); (case k_law => first | k_is | ks_is); (case z_abs => first | k_is | ks_is); (case z_all => first | k_is | ks_is); (case z_bool => first | k_is | ks_is); (case z_int => first | k_is | ks_is); (case z_isinstance => first | k_is | ks_is); (case z_len => first | k_is | ks_is); (case z_list => first | k_is | ks_is); (case z_range => first | k_is | ks_is); (case z_str => first | k_is | ks_is); (case z_tuple => first | k_is | ks_is); (case g_LETTERS => first | k_is | ks_is); (case g_MOST_LABEL => first | k_is | ks_is); (case g_MOST_LABELS => first | k_is | ks_is); (case aC_BadName => first | k_is | ks_is); (case xC_BadName => first | k_is | ks_is); (case sa_BadName => first | k_is | ks_is); (case eC_BadName => first | k_is | ks_is); (case tC_BadName => first | k_is | ks_is); (case kC_BadName => first | k_is | ks_is); (case iC_BadName => first | k_is | ks_is); (case tI_BadName => first | k_is | ks_is); (case lI_BadName => first | k_is | ks_is); (case cI_BadName => first | k_is | ks_is); (case cd_BadName => first | k_is | ks_is); (case ce_BadName => first | k_is | ks_is); (case cs_BadName => first | k_is | ks_is); (case mr_BadName => first | k_is | ks_is); (case su_BadName => first | k_is | ks_is); (case va_BadName => first | k_is | ks_is); (case ga_BadName => first | k_is | ks_is); (case gg_BadName => first | k_is | ks_is); (case hd_BadName => first | k_is | ks_is); (case n_BadName_value => first | k_is | ks_is); (case n_BadName_place => first | k_is | ks_is); (case sup_ => first | k_is | ks_is); (case thi_ => first | k_is | ks_is); (case htop_ => first | rfl | decide +kernel); (case sb_BadName_BadName => first | k_is | ks_is); (case rC_BadName => decide +kernel); (case hv_BadName => rfl); (case hf_BadName => first | rfl | decide +kernel)
