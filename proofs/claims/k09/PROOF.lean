import PyProof.Rows.All
import Wide.All
import OpenK.AllK
import Wide.FinOn
import HandS.ForMost
import HandS.ForExc
import HandS.CallSlots
import HandS.IsInst
import HandS.ExcCtx
import HandS.HotCalls
import HandS.TupAny
import HandS.Style
import HandS.TupLe
import HandS.SortInts
import HandS.Conv
import HandS.TupLen
import HandS.Small
import HandS.More
import KE.KSortedM
import HandS.Comp
import HandS.Iter
import HandS.ExcInit
import HandS.Nested
import HandS.WordsExc
import KE.KExcSuper
import HandS.ExcField
import HandS.TryMany
import HandS.Text
import PyProof.StrBlock2
import PyProof.Rows.StrMul
import HandS.Dict
import HandS.SortKw
import KE.SortKeyHeap
import KE.DataCmp
import HandS.Deep
import HandS.TupMul
import HandS.ExcIs
import KE.KExcIs
import HandS.ExcInitHot
import HandS.Replace
import PySem.Challenge.RW_surely_k09_streams_cut_anywhere
set_option Elab.async false
set_option linter.all false
set_option maxRecDepth 100000
set_option maxHeartbeats 4000000
/-! SmA: plain data, a plain heap, how both stand in the model's abstract heap; results; readings by a plain function. -/
namespace Sm
open PySem L2

/-! ### plain data -/
inductive D where
  | non | bl (b : Bool) | int (i : Int) | str (x : Str) | tup (ds : List D) | fls (ds : List D) | ref (n : Nat)
inductive O where
  | lst (xs : List D) | dK (kvs : List (Key × D)) | dT (kvs : List (List Key × D)) | ins (c : Nat) (fs : List (Option D)) | dead
abbrev Hh := List O
abbrev Ev := List (Option D)
/-- classes by number: where they stand, their attributes in order -/
structure Cl where
  at_ : Nat → Addr
  nm : Nat → List Str

/-- a tuple of the module's own top -/
def KT (K : PySem.W.Frag) (a : Addr) (xs : List V) : Prop := ∃ (o : Obj) (its : Array Value) (n : Nat), K.lookup a = some o ∧ o.cls = .type "tuple" ∧ o.data = .seq its n ∧ its.size ≤ sizeLine ∧ Vals xs its.toList
/-- a list that stands still: the script -/
def FL (K : PySem.W.Frag) (H : Hp) (a : Addr) (xs : List V) : Prop := (∃ o, H a = some (.frz o (.lst xs))) ∨
  ∃ (o : Obj) (its : Array Value) (n : Nat), K.lookup a = some o ∧ o.cls = .type "list" ∧ o.dict = none ∧ o.data = .seq its n ∧ its.size ≤ sizeLine ∧ Vals xs its.toList
theorem FL.sq {K : PySem.W.Frag} {H : Hp} {a : Addr} {xs : List V} (h : FL K H a xs) : SqL K H a xs := h.elim (fun ⟨o, e⟩ => .inl (.inr ⟨o, e⟩)) .inr
def D.isStr : D → Bool
  | .str _ => true
  | _ => false
/-- what such a tuple looks like: words, or ((), 0) -/
def isK : List D → Bool
  | [.str _] => true
  | [.tup [], .int _] => true
  | ds => decide (2 ≤ ds.length) && ds.all D.isStr
section
variable (K : PySem.W.Frag) (ρ : List Addr) (H : Hp)
mutual
inductive Rv : V → D → Prop where
  | non : Rv .non .non
  | bl (b : Bool) : Rv (.bl b) (.bl b)
  | int (i : Int) : Rv (.int i) (.int i)
  | str (x : Str) : Rv (.str x) (.str x)
  | tup {a : Addr} {vs : List V} {ds : List D} : H a = some (.tup vs) → Rvs vs ds → Rv (.ref a) (.tup ds)
  | ktp {a : Addr} {vs : List V} {ds : List D} : KT K a vs → isK ds = true → Rvs vs ds → Rv (.ref a) (.tup ds)
  | fls {a : Addr} {vs : List V} {ds : List D} : FL K H a vs → Rvs vs ds → Rv (.ref a) (.fls ds)
  | ref {n : Nat} {a : Addr} : ρ[n]? = some a → Rv (.ref a) (.ref n)
inductive Rvs : List V → List D → Prop where
  | nil : Rvs [] []
  | cons {v : V} {vs : List V} {d : D} {ds : List D} : Rv v d → Rvs vs ds → Rvs (v :: vs) (d :: ds)
end
end

/-- later: more addresses are known, tuples stand as they did -/
structure Ex (K : PySem.W.Frag) (ρ : List Addr) (H : Hp) (ρ' : List Addr) (H' : Hp) : Prop where
  pre : ∀ (n : Nat) (a : Addr), ρ[n]? = some a → ρ'[n]? = some a
  tup : ∀ a vs, H a = some (.tup vs) → H' a = some (.tup vs)
  frz : ∀ a o u, H a = some (.frz o u) → H' a = some (.frz o u)
  xds : ∀ a fs, H a = some (.xd fs) → H' a = some (.xd fs)
theorem Ex.refl {K : PySem.W.Frag} {ρ : List Addr} {H : Hp} : Ex K ρ H ρ H := ⟨fun _ _ h => h, fun _ _ h => h, fun _ _ _ h => h, fun _ _ h => h⟩
theorem Ex.trans {K : PySem.W.Frag} {ρ ρ1 ρ2 : List Addr} {H H1 H2 : Hp} (a : Ex K ρ H ρ1 H1) (b : Ex K ρ1 H1 ρ2 H2) : Ex K ρ H ρ2 H2 :=
  ⟨fun n x h => b.pre n x (a.pre n x h), fun x vs h => b.tup x vs (a.tup x vs h), fun x o u h => b.frz x o u (a.frz x o u h), fun x fs h => b.xds x fs (a.xds x fs h)⟩

section
variable {K : PySem.W.Frag} {ρ ρ' : List Addr} {H H' : Hp}
mutual
theorem Rv.mono (e : Ex K ρ H ρ' H') : ∀ {v : V} {d : D}, Rv K ρ H v d → Rv K ρ' H' v d
  | _, _, .non => .non
  | _, _, .bl b => .bl b
  | _, _, .int i => .int i
  | _, _, .str x => .str x
  | _, _, .tup h r => .tup (e.tup _ _ h) (Rvs.mono e r)
  | _, _, .ktp h q r => .ktp h q (Rvs.mono e r)
  | _, _, .fls h r => .fls (h.imp (fun ⟨o, z⟩ => ⟨o, e.frz _ _ _ z⟩) id) (Rvs.mono e r)
  | _, _, .ref h => .ref (e.pre _ _ h)
theorem Rvs.mono (e : Ex K ρ H ρ' H') : ∀ {vs : List V} {ds : List D}, Rvs K ρ H vs ds → Rvs K ρ' H' vs ds
  | _, _, .nil => .nil
  | _, _, .cons h r => .cons (Rv.mono e h) (Rvs.mono e r)
end
theorem Rv.sqT {v : V} {ds : List D} (r : Rv K ρ H v (.tup ds)) : ∃ a vs, v = .ref a ∧ SqT K H a vs ∧ Rvs K ρ H vs ds := by
  cases r with
  | tup h r => exact ⟨_, _, rfl, SqT.of h, r⟩
  | ktp h _ r => exact ⟨_, _, rfl, .inr h, r⟩
theorem Rvs.length : ∀ {vs : List V} {ds : List D}, Rvs K ρ H vs ds → vs.length = ds.length
  | _, _, .nil => rfl
  | _, _, .cons _ r => by rw [List.length_cons, List.length_cons, Rvs.length r]
theorem Rvs.get : ∀ {vs : List V} {ds : List D} {i : Nat} {d : D}, Rvs K ρ H vs ds → ds[i]? = some d → ∃ v, vs[i]? = some v ∧ Rv K ρ H v d
  | _, _, _, _, .nil, e => by simp at e
  | _, _, 0, _, .cons h r, e => by simp at e; subst e; exact ⟨_, rfl, h⟩
  | _, _, i + 1, _, .cons h r, e => by
    obtain ⟨v, h1, h2⟩ := Rvs.get (i := i) r (by simpa using e)
    exact ⟨v, by simpa using h1, h2⟩
theorem Rvs.getV : ∀ {vs : List V} {ds : List D} {i : Nat} {v : V}, Rvs K ρ H vs ds → vs[i]? = some v → ∃ d, ds[i]? = some d ∧ Rv K ρ H v d
  | _, _, _, _, .nil, e => by simp at e
  | _, _, 0, _, .cons h r, e => by simp at e; subst e; exact ⟨_, rfl, h⟩
  | _, _, i + 1, _, .cons h r, e => by
    obtain ⟨v, h1, h2⟩ := Rvs.getV (i := i) r (by simpa using e)
    exact ⟨v, by simpa using h1, h2⟩
theorem Rvs.append : ∀ {vs ws : List V} {ds es : List D}, Rvs K ρ H vs ds → Rvs K ρ H ws es → Rvs K ρ H (vs ++ ws) (ds ++ es)
  | _, _, _, _, .nil, s => s
  | _, _, _, _, .cons h r, s => .cons h (Rvs.append r s)
theorem Rvs.set {v : V} {d : D} (h : Rv K ρ H v d) : ∀ {vs : List V} {ds : List D} (i : Nat), Rvs K ρ H vs ds → Rvs K ρ H (vs.set i v) (ds.set i d)
  | _, _, _, .nil => .nil
  | _, _, 0, .cons _ r => .cons h r
  | _, _, i + 1, .cons q r => .cons q (Rvs.set h i r)
theorem Rvs.take : ∀ {vs : List V} {ds : List D} (n : Nat), Rvs K ρ H vs ds → Rvs K ρ H (vs.take n) (ds.take n)
  | _, _, 0, _ => .nil
  | _, _, _ + 1, .nil => .nil
  | _, _, n + 1, .cons h r => .cons h (Rvs.take n r)
theorem Rvs.drop : ∀ {vs : List V} {ds : List D} (n : Nat), Rvs K ρ H vs ds → Rvs K ρ H (vs.drop n) (ds.drop n)
  | _, _, 0, r => r
  | _, _, _ + 1, .nil => .nil
  | _, _, n + 1, .cons _ r => Rvs.drop n r
theorem Rvs.reverse {vs : List V} {ds : List D} (h : Rvs K ρ H vs ds) : Rvs K ρ H vs.reverse ds.reverse := by
  induction vs generalizing ds with
  | nil => cases h; exact .nil
  | cons v vs ih =>
    cases h with
    | cons h r =>
      rw [List.reverse_cons, List.reverse_cons]
      exact (ih r).append (.cons h .nil)
theorem Rvs.dropLast {vs : List V} {ds : List D} (h : Rvs K ρ H vs ds) : Rvs K ρ H vs.dropLast ds.dropLast := by
  rw [List.dropLast_eq_take, List.dropLast_eq_take, h.length]
  exact h.take _
theorem Rvs.ints : ∀ {vs : List V} {ns : List Int}, Rvs K ρ H vs (ns.map D.int) → vs = ns.map V.int
  | _, [], h => by cases h; rfl
  | _, n :: ns, h => by
    cases h with
    | cons h r =>
      cases h
      rw [Rvs.ints r]
      rfl
theorem Rvs.of_ints : ∀ ns : List Int, Rvs K ρ H (ns.map V.int) (ns.map D.int)
  | [] => .nil
  | n :: ns => .cons (.int n) (Rvs.of_ints ns)
end

/-! ### the plain heap in the abstract one -/
section
variable (K : PySem.W.Frag) (G : Cl) (ρ : List Addr) (H : Hp)
/-- how many fields are there -/
def setN (ds : List (Option D)) : Nat := (ds.filter fun o => o.isSome).length
def RoF : Option V → Option D → Prop
  | some v, some d => Rv K ρ H v d
  | none, none => True
  | _, _ => False
inductive Ro (a : Addr) : O → Prop where
  | lst {vs : List V} {ds : List D} : H a = some (.lst vs) → Rvs K ρ H vs ds → Ro a (.lst ds)
  | dK {kvs : List (Key × V)} {ds : List (Key × D)} : H a = some (.dK kvs) → Paired (fun (p : Key × V) (q : Key × D) => p.1 = q.1 ∧ Rv K ρ H p.2 q.2) kvs ds → Ro a (.dK ds)
  | dT {kvs : List (List Key × V)} {ds : List (List Key × D)} : H a = some (.dT kvs) → Paired (fun (p : List Key × V) (q : List Key × D) => p.1 = q.1 ∧ Rv K ρ H p.2 q.2) kvs ds → Ro a (.dT ds)
  | ins {c : Nat} {dx : Addr} {fs : List (Str × V)} {ds : List (Option D)} : H a = some (.ins (G.at_ c) dx fs) → ds.length = (G.nm c).length → (∀ (i : Nat) (f : Str), (G.nm c)[i]? = some f → RoF K ρ H (fs.lookup f) (ds[i]?.join)) →
      (∀ f, f ∉ G.nm c → fs.lookup f = none) → fs.length = setN ds → Ro a (.ins c ds)
  | dead {u : HO} : H a = some u → Ro a .dead
structure Rh (h : Hh) : Prop where
  len : ρ.length = h.length
  inj : ∀ (i j : Nat) (a : Addr), ρ[i]? = some a → ρ[j]? = some a → i = j
  obj : ∀ (n : Nat) (o : O), h[n]? = some o → ∃ a : Addr, ρ[n]? = some a ∧ Ro K G ρ H a o
structure Re (σ : L2.St) (env : Ev) : Prop where
  len : σ.length = env.length
  get : ∀ (i : Nat) (d : D), env[i]? = some (some d) → ∃ v : V, σ[i]? = some (some v) ∧ Rv K ρ H v d
/-- an exception's dict -/
def Rx (d : Option Addr) (c : Nat) (fs : List D) : Prop := ∃ (x : Addr) (vfs : List (Str × V)), d = some x ∧ H x = some (.xd vfs) ∧ fs.length = (G.nm c).length ∧ ∀ (i : Nat) (f : Str), (G.nm c)[i]? = some f → ∃ (v : V) (y : D), vfs.lookup f = some v ∧ fs[i]? = some y ∧ Rv K ρ H v y
end

section
variable {K : PySem.W.Frag} {G : Cl} {ρ ρ' : List Addr} {H H' : Hp} {h h' : Hh} {a : Addr} {o : O} {σ : L2.St} {env : Ev}
theorem Rx.mono (e : Ex K ρ H ρ' H') {d : Option Addr} {c : Nat} {fs : List D} (r : Rx K G ρ H d c fs) : Rx K G ρ' H' d c fs := by
  obtain ⟨x, vfs, h1, h2, h3, h4⟩ := r
  exact ⟨x, vfs, h1, e.xds _ _ h2, h3, fun i f hf => by
    obtain ⟨v, y, k1, k2, k3⟩ := h4 i f hf
    exact ⟨v, y, k1, k2, k3.mono e⟩⟩
theorem RoF.mono (e : Ex K ρ H ρ' H') {v : Option V} {d : Option D} (r : RoF K ρ H v d) : RoF K ρ' H' v d := by
  cases v with
  | none => cases d with | none => trivial | some d => exact r.elim
  | some v => cases d with | none => exact r.elim | some d => exact Rv.mono e r
theorem Ro.mono (e : Ex K ρ H ρ' H') (ha : H' a = H a) (r : Ro K G ρ H a o) : Ro K G ρ' H' a o := by
  cases r with
  | lst q r => exact .lst (ha.trans q) (r.mono e)
  | dK q r => exact .dK (ha.trans q) (Paired.mapP r fun _ _ z => ⟨z.1, z.2.mono e⟩)
  | dT q r => exact .dT (ha.trans q) (Paired.mapP r fun _ _ z => ⟨z.1, z.2.mono e⟩)
  | ins q l r n z => exact .ins (ha.trans q) l (fun i f hf => (r i f hf).mono e) n z
  | dead q => exact .dead (ha.trans q)
theorem Ro.there (r : Ro K G ρ H a o) : ∃ u, H a = some u ∧ (o ≠ .dead → (∀ xs, u ≠ .tup xs) ∧ (∀ ob w, u ≠ .frz ob w) ∧ (∀ fs, u ≠ .xd fs)) := by
  cases r with
  | lst q _ => exact ⟨_, q, fun _ => ⟨(fun xs z => by cases z), (fun ob xs z => by cases z), (fun fs z => by cases z)⟩⟩
  | dK q _ => exact ⟨_, q, fun _ => ⟨(fun xs z => by cases z), (fun ob xs z => by cases z), (fun fs z => by cases z)⟩⟩
  | dT q _ => exact ⟨_, q, fun _ => ⟨(fun xs z => by cases z), (fun ob xs z => by cases z), (fun fs z => by cases z)⟩⟩
  | ins q _ _ _ _ => exact ⟨_, q, fun _ => ⟨(fun xs z => by cases z), (fun ob xs z => by cases z), (fun fs z => by cases z)⟩⟩
  | dead q => exact ⟨_, q, fun z => absurd rfl z⟩
theorem Re.mono (e : Ex K ρ H ρ' H') (r : Re K ρ H σ env) : Re K ρ' H' σ env := ⟨r.len, fun i d h => by
  obtain ⟨v, h1, h2⟩ := r.get i d h
  exact ⟨v, h1, h2.mono e⟩⟩
theorem Re.set (r : Re K ρ H σ env) {v : V} {d : D} (q : Rv K ρ H v d) (i : Nat) : Re K ρ H (σ.set i (some v)) (env.set i (some d)) := ⟨by rw [List.length_set, List.length_set, r.len], fun j x h => by
  by_cases e : i = j
  · subst e
    by_cases l : i < env.length
    · rw [List.getElem?_set_self l] at h
      cases h
      exact ⟨v, List.getElem?_set_self (by rw [r.len]; exact l), q⟩
    · rw [List.getElem?_eq_none (by rw [List.length_set]; omega)] at h
      cases h
  · rw [List.getElem?_set_ne e] at h ⊢
    exact r.get j x h⟩
theorem tup_upd {p : Addr} {u : HO} (n : ∀ vs, H p ≠ some (.tup vs)) {a : Addr} {vs : List V} (h : H a = some (.tup vs)) : upd H p u a = some (.tup vs) := by
  rw [upd_ne (fun z => by rw [z] at h; exact n _ h)]
  exact h
theorem frz_upd {p : Addr} {u : HO} (n : ∀ o w, H p ≠ some (.frz o w)) {a : Addr} {o : Obj} {w : HO} (h : H a = some (.frz o w)) : upd H p u a = some (.frz o w) := by
  rw [upd_ne (fun z => by rw [z] at h; exact n _ _ h)]
  exact h
theorem xd_upd {p : Addr} {u : HO} (n : ∀ fs, H p ≠ some (.xd fs)) {a : Addr} {fs : List (Str × V)} (h : H a = some (.xd fs)) : upd H p u a = some (.xd fs) := by
  rw [upd_ne (fun z => by rw [z] at h; exact n _ h)]
  exact h
theorem Ex.fresh {p : Addr} {u : HO} (n : H p = none) : Ex K ρ H ρ (upd H p u) := ⟨fun _ _ h => h, fun a vs h => tup_upd (fun vs z => by rw [n] at z; cases z) h, fun a o w h => frz_upd (fun o w z => by rw [n] at z; cases z) h, fun a fs h => xd_upd (fun fs z => by rw [n] at z; cases z) h⟩
/-- a further object, not of the plain heap -/
theorem Rh.aux {p : Addr} {u : HO} (r : Rh K G ρ H h) (n : H p = none) : Rh K G ρ (upd H p u) h := ⟨r.len, r.inj, fun m o q => by
  obtain ⟨a, h1, h2⟩ := r.obj m o q
  obtain ⟨w, hw, _⟩ := h2.there
  exact ⟨a, h1, h2.mono (Ex.fresh n) (upd_ne (ne_of_none hw n))⟩⟩
theorem get_push {α : Type} {l : List α} {x y : α} {n : Nat} (e : (l ++ [x])[n]? = some y) : (n < l.length ∧ l[n]? = some y) ∨ (n = l.length ∧ x = y) := by
  by_cases q : n < l.length
  · rw [List.getElem?_append_left q] at e
    exact .inl ⟨q, e⟩
  · rw [List.getElem?_append_right (by omega)] at e
    by_cases q2 : n = l.length
    · subst q2
      simp at e
      exact .inr ⟨rfl, e⟩
    · rw [List.getElem?_eq_none (by simp; omega)] at e
      cases e
theorem get_push_lt {α : Type} {l : List α} {x y : α} {n : Nat} (e : l[n]? = some y) : (l ++ [x])[n]? = some y := by
  have q : n < l.length := (List.getElem?_eq_some_iff.mp e).1
  rw [List.getElem?_append_left q]
  exact e
theorem get_push_eq {α : Type} {l : List α} {x : α} : (l ++ [x])[l.length]? = some x := by simp
theorem Ex.push {p : Addr} {u : HO} (n : H p = none) : Ex K ρ H (ρ ++ [p]) (upd H p u) := ⟨fun m a e => get_push_lt e, (Ex.fresh (K := K) (ρ := ρ) n).tup, (Ex.fresh (K := K) (ρ := ρ) n).frz, (Ex.fresh (K := K) (ρ := ρ) n).xds⟩
/-- a new object of the plain heap -/
theorem Rh.new {p : Addr} {u : HO} (r : Rh K G ρ H h) (n : H p = none) (ro : Ro K G (ρ ++ [p]) (upd H p u) p o) : Rh K G (ρ ++ [p]) (upd H p u) (h ++ [o]) := by
  have far : ∀ (m : Nat), ρ[m]? ≠ some p := fun m z => by
    have hm : m < h.length := by rw [← r.len]; exact (List.getElem?_eq_some_iff.mp z).1
    obtain ⟨a, h1, h2⟩ := r.obj m h[m] (by simp [hm])
    rw [z] at h1
    cases h1
    obtain ⟨w, hw, _⟩ := h2.there
    rw [n] at hw
    cases hw
  refine ⟨by rw [List.length_append, List.length_append, r.len]; rfl, fun i j a h1 h2 => ?_, fun m o' q => ?_⟩
  · rcases get_push h1 with ⟨l1, e1⟩ | ⟨l1, e1⟩
    · rcases get_push h2 with ⟨l2, e2⟩ | ⟨l2, e2⟩
      · exact r.inj i j a e1 e2
      · subst e2
        exact absurd e1 (far i)
    · rcases get_push h2 with ⟨l2, e2⟩ | ⟨l2, e2⟩
      · subst e1
        exact absurd e2 (far j)
      · rw [l1, l2]
  · rcases get_push q with ⟨l1, e1⟩ | ⟨l1, e1⟩
    · obtain ⟨a, h1, h2⟩ := r.obj m o' e1
      obtain ⟨w, hw, _⟩ := h2.there
      exact ⟨a, get_push_lt h1, h2.mono (Ex.push n) (upd_ne (ne_of_none hw n))⟩
    · subst e1
      refine ⟨p, ?_, ro⟩
      rw [l1, ← r.len]
      exact get_push_eq
/-- an object of the plain heap is changed -/
theorem Ex.write {n : Nat} {u : HO} (r : Rh K G ρ H h) (ha : ρ[n]? = some a) (ho : h[n]? = some o) (hd : o ≠ .dead := by nofun) : Ex K ρ H ρ (upd H a u) := by
  obtain ⟨a', h1, h2⟩ := r.obj n o ho
  rw [ha] at h1
  cases h1
  obtain ⟨w, hw, t⟩ := h2.there
  obtain ⟨t1, t2, t3⟩ := t hd
  refine ⟨fun _ _ h => h, fun b vs h => tup_upd (fun vs z => ?_) h, fun b o w h => frz_upd (fun o w z => ?_) h, fun b fs h => xd_upd (fun fs z => ?_) h⟩
  · rw [hw] at z
    exact t1 vs (Option.some.inj z)
  · rw [hw] at z
    exact t2 o w (Option.some.inj z)
  · rw [hw] at z
    exact t3 fs (Option.some.inj z)
theorem Rh.write {n : Nat} {u : HO} {o' : O} (r : Rh K G ρ H h) (ha : ρ[n]? = some a) (ho : h[n]? = some o) (ro : Ro K G ρ (upd H a u) a o') (hd : o ≠ .dead := by nofun) : Rh K G ρ (upd H a u) (h.set n o') := by
  refine ⟨by rw [List.length_set]; exact r.len, r.inj, fun m o2 q => ?_⟩
  have hn : n < h.length := (List.getElem?_eq_some_iff.mp ho).1
  by_cases e : n = m
  · subst e
    rw [List.getElem?_set_self hn] at q
    cases q
    exact ⟨a, ha, ro⟩
  · rw [List.getElem?_set_ne e] at q
    obtain ⟨b, h1, h2⟩ := r.obj m o2 q
    refine ⟨b, h1, h2.mono (Ex.write r ha ho hd) (upd_ne fun z => ?_)⟩
    rw [z] at h1
    exact e (r.inj n m a ha h1)
theorem Rh.at_ {n : Nat} (r : Rh K G ρ H h) (ha : ρ[n]? = some a) (ho : h[n]? = some o) : Ro K G ρ H a o := by
  obtain ⟨b, h1, h2⟩ := r.obj n o ho
  rw [ha] at h1
  cases h1
  exact h2
end

/-! ### results -/
inductive R (α : Type) where
  | ok (a : α) (h : Hh) | exc (c : Nat) (fs : List D) (h : Hh) | bad
def R.bind {α β : Type} (r : R α) (f : α → Hh → R β) : R β := match r with
  | .ok a h => f a h
  | .exc c fs h => .exc c fs h
  | .bad => .bad
@[simp] theorem R.bind_ok {α β : Type} (a : α) (h : Hh) (f : α → Hh → R β) : (R.ok a h).bind f = f a h := rfl
@[simp] theorem R.bind_exc {α β : Type} (c : Nat) (fs : List D) (h : Hh) (f : α → Hh → R β) : (R.exc c fs h : R α).bind f = .exc c fs h := rfl
@[simp] theorem R.bind_bad {α β : Type} (f : α → Hh → R β) : (R.bad : R α).bind f = .bad := rfl
/-- of an option -/
def R.opt {α : Type} : Option (α × Hh) → R α
  | some (a, h) => .ok a h
  | none => .bad
@[simp] theorem R.opt_some {α : Type} (a : α) (h : Hh) : R.opt (some (a, h)) = .ok a h := rfl
@[simp] theorem R.opt_none {α : Type} : R.opt (none : Option (α × Hh)) = .bad := rfl

section
variable (K : PySem.W.Frag) (G : Cl)
/-- what a result promises -/
def Po {α β : Type} (rel : List Addr → Hp → β → α → Prop) (W : WX) (ρ : List Addr) (H : Hp) (σ : L2.St) (r : R α) (Q : β → Hp → Prop) : Prop := match r with
  | .ok d h' => ∀ ρ' H' v, Ex K ρ H ρ' H' → Rh K G ρ' H' h' → rel ρ' H' v d → Q v H'
  | .exc c fs h' => ∀ ρ' H' d, Ex K ρ H ρ' H' → Rh K G ρ' H' h' → Rx K G ρ' H' d c fs → W (.ref (G.at_ c)) d σ H'
  | .bad => False
def tG {α β : Type} (rel : List Addr → Hp → β → α → Prop) (W : WX) (m : Ev → Hh → R α) : L2.St → Hp → (β → Hp → Prop) → Prop := fun σ H Q =>
  ∃ ρ h env, Rh K G ρ H h ∧ Re K ρ H σ env ∧ Po K G rel W ρ H σ (m env h) Q
abbrev relV : List Addr → Hp → V → D → Prop := fun ρ H => Rv K ρ H
abbrev relVs : List Addr → Hp → List V → List D → Prop := fun ρ H => Rvs K ρ H
abbrev relB : List Addr → Hp → Bool → Bool → Prop := fun _ _ b c => b = c
abbrev tM (W : WX) (m : Ev → Hh → R D) : TE := tG K G (relV K) W m
abbrev tL (W : WX) (m : Ev → Hh → R (List D)) : TA := tG K G (relVs K) W m
abbrev tT (W : WX) (m : Ev → Hh → R Bool) : TT := tG K G relB W m
end
section
variable {K : PySem.W.Frag} {G : Cl} {α β γ δ : Type} {rel : List Addr → Hp → β → α → Prop} {rel2 : List Addr → Hp → δ → γ → Prop} {W : WX} {ρ ρ1 : List Addr} {H H1 : Hp} {σ : L2.St} {Q : β → Hp → Prop} {h : Hh} {env : Ev}
theorem Po.shift {r : R α} (p : Po K G rel W ρ H σ r Q) (e : Ex K ρ H ρ1 H1) : Po K G rel W ρ1 H1 σ r Q := by
  cases r with
  | ok d h' => exact fun ρ' H' v e' => p ρ' H' v (e.trans e')
  | exc c fs h' => exact fun ρ' H' d e' => p ρ' H' d (e.trans e')
  | bad => exact p
theorem Po.imp {Q' : β → Hp → Prop} {r : R α} (p : Po K G rel W ρ H σ r Q) (hq : ∀ v H, Q v H → Q' v H) : Po K G rel W ρ H σ r Q' := by
  cases r with
  | ok d h' => exact fun ρ' H' v e a b => hq _ _ (p ρ' H' v e a b)
  | exc c fs h' => exact p
  | bad => exact p
/-- where one stands behind a first step -/
def Thn (K : PySem.W.Frag) (G : Cl) (rel : List Addr → Hp → β → α → Prop) (rel2 : List Addr → Hp → δ → γ → Prop) (W : WX) (σ : L2.St) (env : Ev) (f : α → Hh → R γ) (Q : δ → Hp → Prop) (ρ : List Addr) (H : Hp) (v : β) (H1 : Hp) : Prop :=
  ∃ ρ1 h1 d, Ex K ρ H ρ1 H1 ∧ Rh K G ρ1 H1 h1 ∧ Re K ρ1 H1 σ env ∧ rel ρ1 H1 v d ∧ Po K G rel2 W ρ1 H1 σ (f d h1) Q
theorem Po.bind {r : R α} {f : α → Hh → R γ} {Q : δ → Hp → Prop} (he : Re K ρ H σ env) (p : Po K G rel2 W ρ H σ (r.bind f) Q) : Po K G rel W ρ H σ r (Thn K G rel rel2 W σ env f Q ρ H) := by
  cases r with
  | ok d h' => exact fun ρ' H' v e a b => ⟨ρ', h', d, e, a, he.mono e, b, Po.shift p e⟩
  | exc c fs h' => exact p
  | bad => exact p
theorem tG_bind {m : Ev → Hh → R α} {f : α → Hh → R γ} {Q : δ → Hp → Prop} (hr : Rh K G ρ H h) (he : Re K ρ H σ env) (p : Po K G rel2 W ρ H σ ((m env h).bind f) Q) : tG K G rel W m σ H (Thn K G rel rel2 W σ env f Q ρ H) :=
  ⟨ρ, h, env, hr, he, Po.bind he p⟩
end
/-! a reading may be replaced by a stronger one -/
theorem peImp {X : Cx} {e : Expr} {t t' : TE} (h : PE X e t) (i : ∀ σ H Q, t' σ H Q → t σ H Q) : PE X e t' := ⟨fun pins s σ H Q I q => h.run pins s σ H Q I (i σ H Q q)⟩
theorem ptImp {X : Cx} {e : Expr} {t t' : TT} (h : PT X e t) (i : ∀ σ H Q, t' σ H Q → t σ H Q) : PT X e t' := ⟨fun pins s σ H Q I q => h.run pins s σ H Q I (i σ H Q q)⟩
theorem pwImp {X : Cx} {e : Expr} {t t' : TT} (h : PW X e t) (i : ∀ σ H Q, t' σ H Q → t σ H Q) : PW X e t' := ⟨fun wh pins s σ H Q I q => h.run wh pins s σ H Q I (i σ H Q q)⟩
theorem paImp {X : Cx} {e : List Expr} {t t' : TA} (h : PA X e t) (i : ∀ σ H Q, t' σ H Q → t σ H Q) : PA X e t' := ⟨fun pos pins s σ H Q I q => h.run pos pins s σ H Q I (i σ H Q q)⟩
theorem psImp {X : Cx} {e : Stmt} {t t' : TS} (h : PS X e t) (i : ∀ D σ H, t' D σ H → t D σ H) : PS X e t' := ⟨fun pins s σ H D I q => h.run pins s σ H D I (i D σ H q)⟩
theorem pssImp {X : Cx} {e : List Stmt} {t t' : TS} (h : PSs X e t) (i : ∀ D σ H, t' D σ H → t D σ H) : PSs X e t' := ⟨fun pins s σ H D I q => h.run pins s σ H D I (i D σ H q)⟩
end Sm
/-! SmB: expressions. -/
namespace Sm
open PySem L2 PyProof.Rows

abbrev M := Ev → Hh → R D
section
variable {K : PySem.W.Frag} {G : Cl} {α β γ δ : Type} {rel : List Addr → Hp → β → α → Prop} {W : WX} {ρ ρ1 : List Addr} {H H1 : Hp} {σ : L2.St} {h : Hh} {env : Ev}
theorem tG_mono {m : Ev → Hh → R α} {Q Q' : β → Hp → Prop} (t : tG K G rel W m σ H Q) (hq : ∀ v H, Q v H → Q' v H) : tG K G rel W m σ H Q' := by
  obtain ⟨ρ, h, env, hr, he, p⟩ := t
  exact ⟨ρ, h, env, hr, he, p.imp hq⟩
theorem Po.ok {d : α} {Q : β → Hp → Prop} {v : β} (p : Po K G rel W ρ H σ (.ok d h) Q) (hr : Rh K G ρ H h) (r : rel ρ H v d) : Q v H := p ρ H v Ex.refl hr r
/-- an option's promise, once it is known -/
theorem Po.opt {o : Option (α × Hh)} {Q : β → Hp → Prop} (p : Po K G rel W ρ H σ (R.opt o) Q) : ∃ d h', o = some (d, h') ∧ ∀ ρ' H' v, Ex K ρ H ρ' H' → Rh K G ρ' H' h' → rel ρ' H' v d → Q v H' := by
  cases o with
  | none => exact p.elim
  | some q => exact ⟨q.1, q.2, rfl, p⟩
/-- the frame: known to be known -/
theorem tG_intro {m : Ev → Hh → R α} {Q : β → Hp → Prop} (hr : Rh K G ρ H h) (he : Re K ρ H σ env) (p : Po K G rel W ρ H σ (m env h) Q) : tG K G rel W m σ H Q := ⟨ρ, h, env, hr, he, p⟩
end

/-! ### names, constants -/
def eV (i : Nat) : M := fun env h => match env[i]? with
  | some (some d) => .ok d h
  | _ => .bad
def eC (d : D) : M := fun _ h => .ok d h
section
variable {X : Cx} {G : Cl} {W : WX} {e a b c : Expr} {es : List Expr} {pos : Pos}
theorem se_varP {i : Nat} (hp : PE X e (tVar i)) : PE X e (tM X.K G W (eV i)) := peImp hp fun σ H Q t => by
  obtain ⟨ρ, h, env, hr, he, p⟩ := t
  unfold eV at p
  cases q : env[i]? with
  | none => rw [q] at p; exact p.elim
  | some o =>
    cases o with
    | none => rw [q] at p; exact p.elim
    | some d =>
      rw [q] at p
      obtain ⟨v, h1, h2⟩ := he.get i d q
      exact ⟨v, h1, p.ok hr h2⟩
theorem se_var (i : Nat) {x : Str} (hN : X.N[i]? = some x := by rfl) (hv : Vis X.env.scope x := by first | exact Or.inl rfl | exact Or.inr (Or.inl rfl) | exact Or.inr (Or.inr rfl)) (hd : (x == ("__debug__" : Str)) = false := by decide)
    (hcd : (x == ("__classdict__" : Str)) = false := by decide) : PE X (.Name x pos) (tM X.K G W (eV i)) := se_varP (pe_var hN hv hd hcd)
theorem se_c {v : V} {d : D} (hp : PE X e (tC v)) (r : ∀ ρ H, Rv X.K ρ H v d) : PE X e (tM X.K G W (eC d)) := peImp hp fun σ H Q t => by
  obtain ⟨ρ, h, env, hr, he, p⟩ := t
  exact p.ok hr (r ρ H)
theorem se_int {i : Int} {j} : PE X (.Constant (.int i) j pos) (tM X.K G W (eC (.int i))) := se_c pe_int fun _ _ => .int i
theorem se_bl {b : Bool} {j} : PE X (.Constant (.bool b) j pos) (tM X.K G W (eC (.bl b))) := se_c pe_bl fun _ _ => .bl b
theorem se_non {j} : PE X (.Constant .none j pos) (tM X.K G W (eC .non)) := se_c pe_non fun _ _ => .non
theorem se_str {x : Str} {j} : PE X (.Constant (.str x) j pos) (tM X.K G W (eC (.str x))) := se_c pe_str fun _ _ => .str x
/-- a module's constant -/
theorem se_globI {x : Str} {i : Int} {u : Tok} (hg : Gl X x) (hm : X.mg x = some (.int i u)) (hd : (x == ("__debug__" : Str)) = false := by decide) : PE X (.Name x pos) (tM X.K G W (eC (.int i))) :=
  se_c (v := .int i) (pe_glob hg hm ⟨u, rfl⟩ hd) fun _ _ => .int i
theorem se_globS {x y : Str} {u : Tok} (hg : Gl X x) (hm : X.mg x = some (.str y u)) (hd : (x == ("__debug__" : Str)) = false := by decide) : PE X (.Name x pos) (tM X.K G W (eC (.str y))) :=
  se_c (v := .str y) (pe_glob hg hm ⟨u, rfl⟩ hd) fun _ _ => .str y
end

/-! ### one, two operands -/
def eU (f : D → Hh → Option (D × Hh)) (ma : M) : M := fun env h => (ma env h).bind fun x h1 => R.opt (f x h1)
def eB (f : D → D → Hh → Option (D × Hh)) (ma mb : M) : M := fun env h => (ma env h).bind fun x h1 => (mb env h1).bind fun y h2 => R.opt (f x y h2)
def Imp1 (K : PySem.W.Frag) (G : Cl) (r : V → Hp → VK → Prop) (f : D → Hh → Option (D × Hh)) : Prop := ∀ {ρ : List Addr} {H : Hp} {h : Hh} {x : V} {dx d : D} {h' : Hh} {Q : VK}, Rh K G ρ H h → Rv K ρ H x dx → f dx h = some (d, h') →
  (∀ ρ' H' v, Ex K ρ H ρ' H' → Rh K G ρ' H' h' → Rv K ρ' H' v d → Q v H') → r x H Q
def Imp2 (K : PySem.W.Frag) (G : Cl) (r : R2) (f : D → D → Hh → Option (D × Hh)) : Prop := ∀ {ρ : List Addr} {H : Hp} {h : Hh} {x y : V} {dx dy d : D} {h' : Hh} {Q : VK}, Rh K G ρ H h → Rv K ρ H x dx → Rv K ρ H y dy → f dx dy h = some (d, h') →
  (∀ ρ' H' v, Ex K ρ H ρ' H' → Rh K G ρ' H' h' → Rv K ρ' H' v d → Q v H') → r x y H Q
section
variable {X : Cx} {G : Cl} {W : WX} {e a b c : Expr} {es : List Expr} {pos : Pos} {ma mb : M}
theorem un_imp {r : V → Hp → VK → Prop} {f : D → Hh → Option (D × Hh)} (i : Imp1 X.K G r f) (σ : L2.St) (H : Hp) (Q : VK) (t : tM X.K G W (eU f ma) σ H Q) : tUn r (tM X.K G W ma) σ H Q := by
  obtain ⟨ρ, h, env, hr, he, p⟩ := t
  refine tG_mono (tG_bind (rel := relV X.K) hr he p) fun x H1 ⟨ρ1, h1, d, e1, hr1, he1, r1, p1⟩ => ?_
  obtain ⟨d2, h2, eq, k⟩ := p1.opt
  exact i hr1 r1 eq k
theorem bin_imp {r : R2} {f : D → D → Hh → Option (D × Hh)} (i : Imp2 X.K G r f) (σ : L2.St) (H : Hp) (Q : VK) (t : tM X.K G W (eB f ma mb) σ H Q) : tOp r (tM X.K G W ma) (tM X.K G W mb) σ H Q := by
  obtain ⟨ρ, h, env, hr, he, p⟩ := t
  refine tG_mono (tG_bind (rel := relV X.K) hr he p) fun x H1 ⟨ρ1, h1, d, e1, hr1, he1, r1, p1⟩ => ?_
  refine tG_mono (tG_bind (rel := relV X.K) hr1 he1 p1) fun y H2 ⟨ρ2, h2, d2, e2, hr2, he2, r2, p2⟩ => ?_
  obtain ⟨d3, h3, eq, k⟩ := p2.opt
  exact i hr2 (r1.mono e2) r2 eq k
theorem se_bin {op : Operator} {r : R2} {f : D → D → Hh → Option (D × Hh)} (ho : OpR X (binaryOp op) r) (i : Imp2 X.K G r f) (ha : PE X a (tM X.K G W ma)) (hb : PE X b (tM X.K G W mb)) : PE X (.BinOp a op b pos) (tM X.K G W (eB f ma mb)) :=
  peImp (pe_op ho ha hb) fun σ H Q t => bin_imp i σ H Q t
theorem se_un {op : UnaryOp} {r : V → Hp → VK → Prop} {f : D → Hh → Option (D × Hh)} (ho : UnR X (unaryOp op) r) (i : Imp1 X.K G r f) (ha : PE X a (tM X.K G W ma)) : PE X (.UnaryOp op a pos) (tM X.K G W (eU f ma)) :=
  peImp (pe_un ho ha) fun σ H Q t => un_imp i σ H Q t
theorem se_cmp {op : CmpOp} {r : R2} {f : D → D → Hh → Option (D × Hh)} (ho : OpR X (compareOp op) r) (i : Imp2 X.K G r f) (ha : PE X a (tM X.K G W ma)) (hb : PE X b (tM X.K G W mb)) (hm : behindInMarks op b = false) : PE X (.Compare a [op] [b] pos) (tM X.K G W (eB f ma mb)) :=
  peImp (pe_cmpR ho ha hb hm) fun σ H Q t => bin_imp i σ H Q t
theorem Imp2.or1 {K : PySem.W.Frag} {r r' : R2} {f : D → D → Hh → Option (D × Hh)} (i : Imp2 K G r f) : Imp2 K G (fun x y H Q => r x y H Q ∨ r' x y H Q) f := fun hr rx ry e k => .inl (i hr rx ry e k)
end

/-! ### arithmetic -/
def opAdd : D → D → Hh → Option (D × Hh)
  | .int i, .int j, h => some (.int (i + j), h)
  | .int i, .bl k, h => some (.int (i + b2i k), h)
  | .str x, .str y, h => if x.length + y.length ≤ sizeLine then some (.str (x ++ y), h) else none
  | .tup xs, .tup ys, h => if xs.length + ys.length ≤ sizeLine then some (.tup (xs ++ ys), h) else none
  | .ref m, .ref n, h => match h[m]?, h[n]? with
    | some (.lst xs), some (.lst ys) => if xs.length + ys.length ≤ sizeLine then some (.ref h.length, h ++ [.lst (xs ++ ys)]) else none
    | _, _ => none
  | .fls xs, .fls ys, h => if xs.length + ys.length ≤ sizeLine then some (.ref h.length, h ++ [.lst (xs ++ ys)]) else none
  | .fls xs, .ref n, h => match h[n]? with
    | some (.lst ys) => if xs.length + ys.length ≤ sizeLine then some (.ref h.length, h ++ [.lst (xs ++ ys)]) else none
    | _ => none
  | .ref m, .fls ys, h => match h[m]? with
    | some (.lst xs) => if xs.length + ys.length ≤ sizeLine then some (.ref h.length, h ++ [.lst (xs ++ ys)]) else none
    | _ => none
  | _, _, _ => none
def opSub : D → D → Hh → Option (D × Hh)
  | .int i, .int j, h => some (.int (i - j), h)
  | _, _, _ => none
def mulOk (i j : Int) : Bool := (decide (-18446744073709551616 < i) && decide (i < 18446744073709551616)) || (decide (-18446744073709551616 < j) && decide (j < 18446744073709551616))
theorem mulOk_of {i j : Int} (h : mulOk i j = true) : CMul i j := by
  unfold mulOk at h
  simp only [Bool.or_eq_true, Bool.and_eq_true, decide_eq_true_eq] at h
  exact h
def opMul : D → D → Hh → Option (D × Hh)
  | .int i, .int j, h => if mulOk i j = true then some (.int (i * j), h) else none
  | _, _, _ => none
def opMod : D → D → Hh → Option (D × Hh)
  | .int i, .int j, h => if 0 < j then some (.int (i % j), h) else none
  | _, _, _ => none
def opFdiv : D → D → Hh → Option (D × Hh)
  | .int i, .int j, h => if 0 < j ∧ j < 1073741824 then some (.int (i / j), h) else none
  | _, _, _ => none
def opPow : D → D → Hh → Option (D × Hh)
  | .int i, .int j, h => if 0 ≤ j ∧ j ≤ 1000000 ∧ i.natAbs < 18446744073709551616 then some (.int (i ^ j.toNat), h) else none
  | _, _, _ => none
def opNeg : D → Hh → Option (D × Hh)
  | .int i, h => some (.int (-i), h)
  | _, _ => none
section
variable {X : Cx} {G : Cl} {W : WX} {e a b c : Expr} {es : List Expr} {pos : Pos} {ma mb : M} {K : PySem.W.Frag}
theorem im_sub : Imp2 K G (rI0 fun i j => .int (i - j)) opSub := fun {ρ H h x y dx dy d h' Q} hr rx ry e k => by
  cases rx <;> cases ry <;> simp only [opSub] at e <;> cases e
  exact ⟨_, _, rfl, rfl, k _ _ _ Ex.refl hr (.int _)⟩
theorem im_mul : Imp2 K G (rI CMul fun i j => .int (i * j)) opMul := fun {ρ H h x y dx dy d h' Q} hr rx ry e k => by
  cases rx <;> cases ry <;> simp only [opMul] at e <;> first | (cases e; done) | skip
  split at e
  · rename_i q
    cases e
    exact ⟨_, _, rfl, rfl, mulOk_of q, k _ _ _ Ex.refl hr (.int _)⟩
  · cases e
theorem im_mod : Imp2 K G (rI (fun _ j => 0 < j) fun i j => .int (i % j)) opMod := fun {ρ H h x y dx dy d h' Q} hr rx ry e k => by
  cases rx <;> cases ry <;> simp only [opMod] at e <;> first | (cases e; done) | skip
  split at e
  · rename_i q
    cases e
    exact ⟨_, _, rfl, rfl, q, k _ _ _ Ex.refl hr (.int _)⟩
  · cases e
theorem im_fdiv : Imp2 K G (rI CDiv fun i j => .int (i / j)) opFdiv := fun {ρ H h x y dx dy d h' Q} hr rx ry e k => by
  cases rx <;> cases ry <;> simp only [opFdiv] at e <;> first | (cases e; done) | skip
  split at e
  · rename_i q
    cases e
    exact ⟨_, _, rfl, rfl, q, k _ _ _ Ex.refl hr (.int _)⟩
  · cases e
theorem im_pow : Imp2 K G (rI CPow fun i j => .int (i ^ j.toNat)) opPow := fun {ρ H h x y dx dy d h' Q} hr rx ry e k => by
  cases rx <;> cases ry <;> simp only [opPow] at e <;> first | (cases e; done) | skip
  split at e
  · rename_i q
    cases e
    exact ⟨_, _, rfl, rfl, q, k _ _ _ Ex.refl hr (.int _)⟩
  · cases e
theorem im_neg : Imp1 K G (rU fun i => .int (-i)) opNeg := fun {ρ H h x dx d h' Q} hr rx e k => by
  cases rx <;> simp only [opNeg] at e <;> cases e
  exact ⟨_, rfl, k _ _ _ Ex.refl hr (.int _)⟩
/-- a new tuple -/
theorem new_tup {ρ : List Addr} {H : Hp} {h : Hh} {vs : List V} {ds : List D} {Q : VK} (hr : Rh K G ρ H h) (rs : Rvs K ρ H vs ds) (k : ∀ ρ' H' v, Ex K ρ H ρ' H' → Rh K G ρ' H' h → Rv K ρ' H' v (.tup ds) → Q v H') :
    ∀ p, H p = none → Q (.ref p) (upd H p (.tup vs)) := fun p n => k ρ _ _ (Ex.fresh n) (hr.aux n) (.tup upd_same (rs.mono (Ex.fresh n)))
/-- a new list -/
theorem new_lst {ρ : List Addr} {H : Hp} {h : Hh} {vs : List V} {ds : List D} {Q : VK} (hr : Rh K G ρ H h) (rs : Rvs K ρ H vs ds) (k : ∀ ρ' H' v, Ex K ρ H ρ' H' → Rh K G ρ' H' (h ++ [.lst ds]) → Rv K ρ' H' v (.ref h.length) → Q v H') :
    ∀ p, H p = none → Q (.ref p) (upd H p (.lst vs)) := fun p n => k (ρ ++ [p]) _ _ (Ex.push n) (hr.new n (.lst upd_same (rs.mono (Ex.push n)))) (.ref (by rw [← hr.len]; exact get_push_eq))
theorem ref_lst {ρ : List Addr} {H : Hp} {h : Hh} {n : Nat} {a : Addr} {ds : List D} (hr : Rh K G ρ H h) (ra : ρ[n]? = some a) (e : h[n]? = some (.lst ds)) : ∃ vs, H a = some (.lst vs) ∧ Rvs K ρ H vs ds := by
  have q := hr.at_ ra e
  cases q with
  | lst q r => exact ⟨_, q, r⟩
/-- a list that is read -/
theorem ref_seq {ρ : List Addr} {H : Hp} {h : Hh} {n : Nat} {a : Addr} {ds : List D} (hr : Rh K G ρ H h) (ra : ρ[n]? = some a) (e : h[n]? = some (.lst ds)) : ∃ vs, SqL K H a vs ∧ Rvs K ρ H vs ds := by
  obtain ⟨vs, q, r⟩ := ref_lst hr ra e
  exact ⟨vs, SqL.of q, r⟩
/-- two lists, tracked or frozen -/
def rCatS (K : PySem.W.Frag) : R2 := fun x y H Q => ∃ l b xs zs, x = .ref l ∧ y = .ref b ∧ SqL K H l xs ∧ SqL K H b zs ∧ xs.length + zs.length ≤ sizeLine ∧ ∀ p, H p = none → Q (.ref p) (upd H p (.lst (xs ++ zs)))
theorem op_catS : OpR X (binaryOp .Add) (rCatS X.K) := by
  intro pins s σ H x y v u Q I rx ry h
  obtain ⟨l, b, xs, zs, rfl, rfl, hH, hB, hz, q⟩ := h
  cases rx
  cases ry
  obtain ⟨its, r, pl, hl⟩ := I.list hH
  obtain ⟨its2, r2, pl2, hl2⟩ := I.list hB
  obtain ⟨⟨cls, dd, data, sl⟩, ho, hc, n, hd⟩ := pl.isList
  obtain ⟨⟨cls2, dd2, data2, sl2⟩, ho2, hc2, n2, hd2⟩ := pl2.isList
  simp only at hc hd hc2 hd2
  subst hc hd hc2 hd2
  have ea : its.toArray ++ its2.toArray = (its ++ its2).toArray := by simp
  refine concat_meets ⟨_, ho, rfl⟩ ⟨_, ho2, rfl⟩ noFill_list_add seq_list_add PySem.F.slot_list_add PySem.F.entry_list_add (PySem.F.args_list_add_2 _ _) (list_addW l b its.toArray its2.toArray n n2 dd dd2 sl sl2 (by have := r.length; have := r2.length; simp; omega)) ⟨ho, ho2, ?_⟩
  rw [ea]
  exact ⟨.ref _, _, I.lnew (t' := s.toks) (r.append r2) (by rw [List.length_append]; omega), rfl, q _ I.fresh⟩
abbrev rAddAll (K : PySem.W.Frag) : R2 := fun x y H Q => (rI0 (fun i j => .int (i + j)) x y H Q ∨ (∃ i k, x = .int i ∧ y = .bl k ∧ Q (.int (i + b2i k)) H)) ∨
  ((∃ i j, x = .str i ∧ y = .str j ∧ i.length + j.length ≤ sizeLine ∧ Q (.str (i ++ j)) H) ∨ (rCatA K x y H Q ∨ rCatS K x y H Q))
theorem op_addAll : OpR X (binaryOp .Add) (rAddAll X.K) := (op_add.or op_add_ib).or (op_add_str.or (op_catA.or op_catS))
theorem im_add : Imp2 K G (rAddAll K) opAdd := fun {ρ H h x y dx dy d h' Q} hr rx ry e k => by
  unfold opAdd at e
  split at e
  · cases e; cases rx; cases ry
    exact .inl (.inl ⟨_, _, rfl, rfl, k _ _ _ Ex.refl hr (.int _)⟩)
  · cases e; cases rx; cases ry
    exact .inl (.inr ⟨_, _, rfl, rfl, k _ _ _ Ex.refl hr (.int _)⟩)
  · split at e
    · cases e; cases rx; cases ry
      exact .inr (.inl ⟨_, _, rfl, rfl, by assumption, k _ _ _ Ex.refl hr (.str _)⟩)
    · cases e
  · split at e
    · rename_i ds ds2 hl
      cases e
      obtain ⟨a, vs, rfl, t, r⟩ := rx.sqT
      obtain ⟨a2, vs2, rfl, t2, r2⟩ := ry.sqT
      refine .inr (.inr (.inl ⟨a, a2, vs, vs2, rfl, rfl, t, t2, by rw [r.length, r2.length]; exact hl, fun z => ?_, fun z1 z2 => ?_, fun z1 z2 => ?_⟩))
      · subst z
        cases r
        exact k _ _ _ Ex.refl hr ry
      · subst z2
        cases r2
        rw [List.append_nil] at k
        exact k _ _ _ Ex.refl hr rx
      · exact new_tup hr (r.append r2) k
    · cases e
  · rename_i m n
    cases rx with
    | ref ra =>
      cases ry with
      | ref ra2 =>
        rename_i a a2
        split at e
        · rename_i xs ys e1 e2
          split at e
          · rename_i hl
            cases e
            obtain ⟨vs, q1, r1⟩ := ref_seq hr ra e1
            obtain ⟨vs2, q2, r2⟩ := ref_seq hr ra2 e2
            exact .inr (.inr (.inr ⟨a, a2, vs, vs2, rfl, rfl, q1, q2, by rw [r1.length, r2.length]; exact hl, new_lst hr (r1.append r2) k⟩))
          · cases e
        · cases e
  · split at e
    · rename_i hl
      cases e
      cases rx with
      | fls t1 r1 =>
        cases ry with
        | fls t2 r2 => exact .inr (.inr (.inr ⟨_, _, _, _, rfl, rfl, t1.sq, t2.sq, by rw [r1.length, r2.length]; exact hl, new_lst hr (r1.append r2) k⟩))
    · cases e
  · cases rx with
    | fls t1 r1 =>
      cases ry with
      | ref ra2 =>
        split at e
        · rename_i ys e2
          split at e
          · rename_i hl
            cases e
            obtain ⟨vs2, q2, r2⟩ := ref_seq hr ra2 e2
            exact .inr (.inr (.inr ⟨_, _, _, _, rfl, rfl, t1.sq, q2, by rw [r1.length, r2.length]; exact hl, new_lst hr (r1.append r2) k⟩))
          · cases e
        · cases e
  · cases rx with
    | ref ra =>
      cases ry with
      | fls t2 r2 =>
        split at e
        · rename_i xs e1
          split at e
          · rename_i hl
            cases e
            obtain ⟨vs, q1, r1⟩ := ref_seq hr ra e1
            exact .inr (.inr (.inr ⟨_, _, _, _, rfl, rfl, q1, t2.sq, by rw [r1.length, r2.length]; exact hl, new_lst hr (r1.append r2) k⟩))
          · cases e
        · cases e
  · cases e
theorem se_add (ha : PE X a (tM X.K G W ma)) (hb : PE X b (tM X.K G W mb)) : PE X (.BinOp a .Add b pos) (tM X.K G W (eB opAdd ma mb)) := se_bin op_addAll im_add ha hb
theorem se_sub (ha : PE X a (tM X.K G W ma)) (hb : PE X b (tM X.K G W mb)) : PE X (.BinOp a .Sub b pos) (tM X.K G W (eB opSub ma mb)) := se_bin op_sub im_sub ha hb
theorem se_mul (ha : PE X a (tM X.K G W ma)) (hb : PE X b (tM X.K G W mb)) : PE X (.BinOp a .Mult b pos) (tM X.K G W (eB opMul ma mb)) := se_bin op_mul im_mul ha hb
theorem se_mod (ha : PE X a (tM X.K G W ma)) (hb : PE X b (tM X.K G W mb)) : PE X (.BinOp a .Mod b pos) (tM X.K G W (eB opMod ma mb)) := se_bin op_mod im_mod ha hb
theorem se_fdiv (ha : PE X a (tM X.K G W ma)) (hb : PE X b (tM X.K G W mb)) : PE X (.BinOp a .FloorDiv b pos) (tM X.K G W (eB opFdiv ma mb)) := se_bin op_fdiv im_fdiv ha hb
theorem se_pow (ha : PE X a (tM X.K G W ma)) (hb : PE X b (tM X.K G W mb)) : PE X (.BinOp a .Pow b pos) (tM X.K G W (eB opPow ma mb)) := se_bin op_pow im_pow ha hb
theorem se_neg (ha : PE X a (tM X.K G W ma)) : PE X (.UnaryOp .USub a pos) (tM X.K G W (eU opNeg ma)) := se_un un_neg im_neg ha
end

/-! ### comparisons -/
/-- data with its lists, read off the plain heap -/
def toP (h : Hh) : Nat → D → Option PyData
  | 0, _ => none
  | _ + 1, .non => some .none
  | _ + 1, .bl b => some (.bool b)
  | _ + 1, .int i => some (.int i)
  | _ + 1, .str x => some (.str x)
  | k + 1, .tup ds => (ds.mapM (toP h k)).map PyData.tuple
  | k + 1, .fls ds => (ds.mapM (toP h k)).map PyData.list
  | k + 1, .ref n => match h[n]? with
    | some (.lst ds) => (ds.mapM (toP h k)).map PyData.list
    | _ => none
def eqP (h : Hh) (x y : D) : Option Bool := match toP h 60 x, toP h 60 y with
  | some a, some b => if SeqAt.shaped a = true ∧ SeqAt.shaped b = true then some (PyData.eqv a b) else none
  | _, _ => none
def opEqB : D → D → Hh → Option Bool
  | .int i, .int j, _ => some (decide (i = j))
  | .str i, .str j, _ => some (decide (i = j))
  | .bl i, .bl j, _ => some (decide (i = j))
  | .non, .non, _ => some true
  | x, y, h => eqP h x y
def opEq (x y : D) (h : Hh) : Option (D × Hh) := (opEqB x y h).map fun b => (.bl b, h)
def opNe (x y : D) (h : Hh) : Option (D × Hh) := (opEqB x y h).map fun b => (.bl (!b), h)
/-- the ints of a tuple -/
def intsOf : List D → Option (List Int)
  | [] => some []
  | .int i :: r => (intsOf r).map (i :: ·)
  | _ :: _ => none
def opLt : D → D → Hh → Option (D × Hh)
  | .int i, .int j, h => some (.bl (decide (i < j)), h)
  | .str i, .str j, h => some (.bl (decide (i.cps.toList < j.cps.toList)), h)
  | .tup xs, .tup ys, h => match intsOf xs, intsOf ys with
    | some ns, some ms => some (.bl (HT.lexLt ns ms), h)
    | _, _ => none
  | _, _, _ => none
def opLe : D → D → Hh → Option (D × Hh)
  | .int i, .int j, h => some (.bl (decide (i ≤ j)), h)
  | _, _, _ => none
def opGt : D → D → Hh → Option (D × Hh)
  | .int i, .int j, h => some (.bl (decide (j < i)), h)
  | _, _, _ => none
def opGe : D → D → Hh → Option (D × Hh)
  | .int i, .int j, h => some (.bl (decide (j ≤ i)), h)
  | _, _, _ => none
section
variable {X : Cx} {G : Cl} {W : WX} {e a b c : Expr} {es : List Expr} {pos : Pos} {ma mb : M} {K : PySem.W.Frag} {ρ : List Addr} {H : Hp} {h : Hh}
theorem intsOf_eq : ∀ {ds : List D} {ns : List Int}, intsOf ds = some ns → ds = ns.map D.int
  | [], ns, e => by simp [intsOf] at e; subst e; rfl
  | .int i :: r, ns, e => by
    simp only [intsOf, Option.map_eq_some_iff] at e
    obtain ⟨ms, e1, e2⟩ := e
    subst e2
    rw [intsOf_eq e1]
    rfl
  | .non :: _, _, e => by simp [intsOf] at e
  | .bl _ :: _, _, e => by simp [intsOf] at e
  | .str _ :: _, _, e => by simp [intsOf] at e
  | .tup _ :: _, _, e => by simp [intsOf] at e
  | .fls _ :: _, _, e => by simp [intsOf] at e
  | .ref _ :: _, _, e => by simp [intsOf] at e
theorem dpAll_of {f : D → Option PyData} (ih : ∀ d v p, Rv K ρ H v d → f d = some p → Dp K H v p) : ∀ {ds : List D} {vs : List V} {ps : List PyData}, Rvs K ρ H vs ds → ds.mapM f = some ps → DpAll K H vs ps
  | [], vs, ps, r, e => by
    cases r
    simp at e
    subst e
    exact .nil
  | d :: ds, vs, ps, r, e => by
    cases r with
    | cons r rs =>
      simp only [List.mapM_cons, Option.bind_eq_bind, Option.bind_eq_some_iff, Option.pure_def, Option.some.injEq] at e
      obtain ⟨p, e1, qs, e2, e3⟩ := e
      subst e3
      exact .cons (ih _ _ _ r e1) (dpAll_of ih rs e2)
theorem toP_dp (hr : Rh K G ρ H h) : ∀ (k : Nat) (d : D) (v : V) (p : PyData), Rv K ρ H v d → toP h k d = some p → Dp K H v p
  | 0, _, _, _, _, e => by simp [toP] at e
  | k + 1, .non, _, _, r, e => by cases r; simp [toP] at e; subst e; exact .non
  | k + 1, .bl b, _, _, r, e => by cases r; simp [toP] at e; subst e; exact .bl b
  | k + 1, .int i, _, _, r, e => by cases r; simp [toP] at e; subst e; exact .int i
  | k + 1, .str x, _, _, r, e => by cases r; simp [toP] at e; subst e; exact .str x
  | k + 1, .tup ds, _, _, r, e => by
    obtain ⟨a, vs, rfl, t, r⟩ := r.sqT
    simp only [toP, Option.map_eq_some_iff] at e
    obtain ⟨ps, e1, e2⟩ := e
    subst e2
    exact .tup t (dpAll_of (fun d v p => toP_dp hr k d v p) r e1)
  | k + 1, .fls ds, _, _, r, e => by
    cases r with
    | fls t r =>
      simp only [toP, Option.map_eq_some_iff] at e
      obtain ⟨ps, e1, e2⟩ := e
      subst e2
      exact .lst t.sq (dpAll_of (fun d v p => toP_dp hr k d v p) r e1)
  | k + 1, .ref n, _, _, r, e => by
    cases r with
    | ref ra =>
      simp only [toP] at e
      split at e
      · rename_i ds e0
        simp only [Option.map_eq_some_iff] at e
        obtain ⟨ps, e1, e2⟩ := e
        subst e2
        obtain ⟨vs, q, r⟩ := ref_seq hr ra e0
        exact .lst q (dpAll_of (fun d v p => toP_dp hr k d v p) r e1)
      · cases e
abbrev rEqAll (K : PySem.W.Frag) : R2 := fun x y H Q => rEq x y H Q ∨ rEqD K x y H Q
abbrev rNeAll (K : PySem.W.Frag) : R2 := fun x y H Q => rNe x y H Q ∨ rNeD K x y H Q
theorem eqB_cases {x y : V} {dx dy : D} {k : Bool} (hr : Rh K G ρ H h) (rx : Rv K ρ H x dx) (ry : Rv K ρ H y dy) (e : opEqB dx dy h = some k) :
    (scal x y = true ∧ k = decide (x = y)) ∨ ∃ p q, Dp K H x p ∧ Dp K H y q ∧ SeqAt.shaped p = true ∧ SeqAt.shaped q = true ∧ k = PyData.eqv p q := by
  have gen : eqP h dx dy = some k → ∃ p q, Dp K H x p ∧ Dp K H y q ∧ SeqAt.shaped p = true ∧ SeqAt.shaped q = true ∧ k = PyData.eqv p q := fun e => by
    unfold eqP at e
    split at e
    · rename_i p q e1 e2
      split at e
      · rename_i hs
        cases e
        exact ⟨p, q, toP_dp hr _ _ _ _ rx e1, toP_dp hr _ _ _ _ ry e2, hs.1, hs.2, rfl⟩
      · cases e
    · cases e
  unfold opEqB at e
  split at e
  · cases e; cases rx; cases ry; exact .inl ⟨rfl, by simp⟩
  · cases e; cases rx; cases ry; exact .inl ⟨rfl, by simp⟩
  · cases e; cases rx; cases ry; exact .inl ⟨rfl, by simp⟩
  · cases e; cases rx; cases ry; exact .inl ⟨rfl, by simp⟩
  · exact .inr (gen e)
theorem im_eq : Imp2 K G (rEqAll K) opEq := fun {ρ H h x y dx dy d h' Q} hr rx ry e k => by
  simp only [opEq, Option.map_eq_some_iff, Prod.mk.injEq] at e
  obtain ⟨b, e, e1, e2⟩ := e
  subst e1 e2
  rcases eqB_cases hr rx ry e with ⟨s, q⟩ | ⟨p, q, h1, h2, h3, h4, h5⟩
  · subst q
    exact .inl ⟨s, k _ _ _ Ex.refl hr (.bl _)⟩
  · subst h5
    exact .inr ⟨p, q, h1, h2, h3, h4, k _ _ _ Ex.refl hr (.bl _)⟩
theorem im_ne : Imp2 K G (rNeAll K) opNe := fun {ρ H h x y dx dy d h' Q} hr rx ry e k => by
  simp only [opNe, Option.map_eq_some_iff, Prod.mk.injEq] at e
  obtain ⟨b, e, e1, e2⟩ := e
  subst e1 e2
  rcases eqB_cases hr rx ry e with ⟨s, q⟩ | ⟨p, q, h1, h2, h3, h4, h5⟩
  · subst q
    exact .inl ⟨s, k _ _ _ Ex.refl hr (.bl _)⟩
  · subst h5
    exact .inr ⟨p, q, h1, h2, h3, h4, k _ _ _ Ex.refl hr (.bl _)⟩
abbrev rLtAll (K : PySem.W.Frag) : R2 := fun x y H Q => rI0 (fun i j => .bl (decide (i < j))) x y H Q ∨ ((∃ i j, x = .str i ∧ y = .str j ∧ Q (.bl (decide (i.cps.toList < j.cps.toList))) H) ∨ rLtT K x y H Q)
theorem op_ltAll (hu : X.A.units < cLine) : OpR X (compareOp .Lt) (rLtAll X.K) := op_lt.or (op_lt_str.or (op_ltT hu))
theorem im_lt : Imp2 K G (rLtAll K) opLt := fun {ρ H h x y dx dy d h' Q} hr rx ry e k => by
  unfold opLt at e
  split at e
  · cases e; cases rx; cases ry
    exact .inl ⟨_, _, rfl, rfl, k _ _ _ Ex.refl hr (.bl _)⟩
  · cases e; cases rx; cases ry
    exact .inr (.inl ⟨_, _, rfl, rfl, k _ _ _ Ex.refl hr (.bl _)⟩)
  · split at e
    · rename_i ns ms e1 e2
      cases e
      have z1 := intsOf_eq e1
      have z2 := intsOf_eq e2
      subst z1 z2
      obtain ⟨a, vs, rfl, t, r⟩ := rx.sqT
      obtain ⟨a2, vs2, rfl, t2, r2⟩ := ry.sqT
      have y1 := r.ints
      have y2 := r2.ints
      subst y1 y2
      exact .inr (.inr ⟨a, a2, ns, ms, rfl, rfl, t, t2, k _ _ _ Ex.refl hr (.bl _)⟩)
    · cases e
  · cases e
theorem im_le : Imp2 K G (rI0 fun i j => .bl (decide (i ≤ j))) opLe := fun {ρ H h x y dx dy d h' Q} hr rx ry e k => by
  cases rx <;> cases ry <;> simp only [opLe] at e <;> cases e
  exact ⟨_, _, rfl, rfl, k _ _ _ Ex.refl hr (.bl _)⟩
theorem im_gt : Imp2 K G (rI0 fun i j => .bl (decide (j < i))) opGt := fun {ρ H h x y dx dy d h' Q} hr rx ry e k => by
  cases rx <;> cases ry <;> simp only [opGt] at e <;> cases e
  exact ⟨_, _, rfl, rfl, k _ _ _ Ex.refl hr (.bl _)⟩
theorem im_ge : Imp2 K G (rI0 fun i j => .bl (decide (j ≤ i))) opGe := fun {ρ H h x y dx dy d h' Q} hr rx ry e k => by
  cases rx <;> cases ry <;> simp only [opGe] at e <;> cases e
  exact ⟨_, _, rfl, rfl, k _ _ _ Ex.refl hr (.bl _)⟩
theorem se_eq (hu : X.A.units + 64 < cLine) (ha : PE X a (tM X.K G W ma)) (hb : PE X b (tM X.K G W mb)) : PE X (.Compare a [.Eq] [b] pos) (tM X.K G W (eB opEq ma mb)) := se_cmp (op_eq.or (op_eqD hu)) im_eq ha hb (nomark _)
theorem se_ne (hu : X.A.units + 64 < cLine) (ha : PE X a (tM X.K G W ma)) (hb : PE X b (tM X.K G W mb)) : PE X (.Compare a [.NotEq] [b] pos) (tM X.K G W (eB opNe ma mb)) := se_cmp (op_ne.or (op_neD hu)) im_ne ha hb (nomark _)
theorem se_lt (hu : X.A.units + 64 < cLine) (ha : PE X a (tM X.K G W ma)) (hb : PE X b (tM X.K G W mb)) : PE X (.Compare a [.Lt] [b] pos) (tM X.K G W (eB opLt ma mb)) := se_cmp (op_ltAll (by omega)) im_lt ha hb (nomark _)
theorem se_le (hu : X.A.units + 64 < cLine) (ha : PE X a (tM X.K G W ma)) (hb : PE X b (tM X.K G W mb)) : PE X (.Compare a [.LtE] [b] pos) (tM X.K G W (eB opLe ma mb)) := se_cmp op_le im_le ha hb (nomark _)
theorem se_gt (hu : X.A.units + 64 < cLine) (ha : PE X a (tM X.K G W ma)) (hb : PE X b (tM X.K G W mb)) : PE X (.Compare a [.Gt] [b] pos) (tM X.K G W (eB opGt ma mb)) := se_cmp op_gt im_gt ha hb (nomark _)
theorem se_ge (hu : X.A.units + 64 < cLine) (ha : PE X a (tM X.K G W ma)) (hb : PE X b (tM X.K G W mb)) : PE X (.Compare a [.GtE] [b] pos) (tM X.K G W (eB opGe ma mb)) := se_cmp op_ge im_ge ha hb (nomark _)
/-- is None -/
def opIsN : D → Hh → Option (D × Hh)
  | .non, h => some (.bl true, h)
  | _, h => some (.bl false, h)
def opNotN : D → Hh → Option (D × Hh)
  | .non, h => some (.bl false, h)
  | _, h => some (.bl true, h)
theorem se_isN {j pos'} (ha : PE X a (tM X.K G W ma)) : PE X (.Compare a [.Is] [.Constant .none j pos'] pos) (tM X.K G W (eU opIsN ma)) := peImp (pe_cmp (pc_isN ha)) fun σ H Q t => un_imp (r := fun x H Q => Q (.bl (decide (x = .non))) H) (fun {ρ H h x dx d h' Q} hr rx e k => by
  cases rx <;> simp only [opIsN] at e <;> cases e <;> exact k _ _ _ Ex.refl hr (.bl _)) σ H Q t
theorem se_notN {j pos'} (ha : PE X a (tM X.K G W ma)) : PE X (.Compare a [.IsNot] [.Constant .none j pos'] pos) (tM X.K G W (eU opNotN ma)) := peImp (pe_cmp (pc_notN ha)) fun σ H Q t => un_imp (r := fun x H Q => Q (.bl (!decide (x = .non))) H) (fun {ρ H h x dx d h' Q} hr rx e k => by
  cases rx <;> simp only [opNotN] at e <;> cases e <;> exact k _ _ _ Ex.refl hr (.bl _)) σ H Q t
end
end Sm
/-! SmC: tests, truth, and / or, argument lists, displays, items, slices, built-in functions and methods. -/
namespace Sm
open PySem L2 PyProof.Rows

abbrev MT := Ev → Hh → R Bool
/-! ### tests -/
def opTruth : D → Hh → Option Bool
  | .non, _ => some false
  | .bl b, _ => some b
  | .int i, _ => some (i != 0)
  | .str y, _ => if y.length ≤ sizeLine then some ((y.length : Int) != 0) else none
  | .tup ds, _ => some (!ds.isEmpty)
  | .fls ds, _ => some (!ds.isEmpty)
  | .ref n, h => match h[n]? with
    | some (.lst ds) => some (!ds.isEmpty)
    | some (.dK ds) => some (!ds.isEmpty)
    | _ => none
def optB (o : Option Bool) (h : Hh) : R Bool := match o with
  | some b => .ok b h
  | none => .bad
@[simp] theorem optB_some (b : Bool) (h : Hh) : optB (some b) h = .ok b h := rfl
@[simp] theorem optB_none (h : Hh) : optB none h = .bad := rfl
def tTru (m : M) : MT := fun env h => (m env h).bind fun d h1 => optB (opTruth d h1) h1
def opBl : D → Option Bool
  | .bl b => some b
  | _ => none
def tBl (m : M) : MT := fun env h => (m env h).bind fun d h1 => optB (opBl d) h1
def tAndM (a b : MT) : MT := fun env h => (a env h).bind fun c h1 => if c = true then b env h1 else .ok false h1
def tOrM (a b : MT) : MT := fun env h => (a env h).bind fun c h1 => if c = true then .ok true h1 else b env h1
def tNotM (a : MT) : MT := fun env h => (a env h).bind fun c h1 => .ok (!c) h1
def eAnd (a b : M) : M := fun env h => (a env h).bind fun d h1 => match d with
  | .bl true => b env h1
  | .bl false => .ok (.bl false) h1
  | _ => .bad
def eOr (a b : M) : M := fun env h => (a env h).bind fun d h1 => match d with
  | .bl false => b env h1
  | .bl true => .ok (.bl true) h1
  | _ => .bad
def eNot (a : M) : M := fun env h => (a env h).bind fun d h1 => match d with
  | .bl b => .ok (.bl (!b)) h1
  | _ => .bad
def eIf (t : MT) (a b : M) : M := fun env h => (t env h).bind fun c h1 => if c = true then a env h1 else b env h1
def eCh (f g : D → D → Hh → Option (D × Hh)) (a b c : M) : M := fun env h => (a env h).bind fun x h1 => (b env h1).bind fun y h2 => (R.opt (f x y h2)).bind fun z h3 => match z with
  | .bl true => (c env h3).bind fun w h4 => R.opt (g y w h4)
  | .bl false => .ok (.bl false) h3
  | _ => .bad
section
variable {X : Cx} {G : Cl} {W : WX} {e a b c : Expr} {es rest : List Expr} {pos : Pos} {ma mb mc : M} {ta tb : MT} {K : PySem.W.Frag} {ρ : List Addr} {H : Hp} {h : Hh} {σ : L2.St} {env : Ev}
theorem Rvs.isEmpty {vs : List V} {ds : List D} (r : Rvs K ρ H vs ds) : (!vs.isEmpty) = !ds.isEmpty := by cases r <;> rfl
theorem truth_ok (hr : Rh K G ρ H h) {v : V} {d : D} {k : Bool} (r : Rv K ρ H v d) (e : opTruth d h = some k) : TruV K v H k := by
  cases d with
  | non => cases r; cases e; rfl
  | bl b => cases r; cases e; rfl
  | int i => cases r; cases e; rfl
  | str y =>
    cases r
    simp only [opTruth] at e
    split at e
    · cases e
      exact ⟨by assumption, rfl⟩
    · cases e
  | tup ds =>
    cases e
    obtain ⟨a, vs, rfl, t, q⟩ := r.sqT
    exact .inr (.inl ⟨vs, t, q.isEmpty.symm⟩)
  | fls ds =>
    cases e
    cases r with
    | fls t q => exact .inl ⟨_, t.sq, q.isEmpty.symm⟩
  | ref n =>
    cases r with
    | ref ra =>
      simp only [opTruth] at e
      split at e
      · rename_i ds e0
        cases e
        obtain ⟨vs, q, r⟩ := ref_seq hr ra e0
        exact .inl ⟨vs, q, r.isEmpty.symm⟩
      · rename_i ds e0
        cases e
        have q := hr.at_ ra e0
        cases q with
        | dK q r =>
          refine .inr (.inr ⟨_, q, ?_⟩)
          cases r <;> rfl
      · cases e
theorem Po.optB {o : Option Bool} {Q : Bool → Hp → Prop} (p : Po K G (relB) W ρ H σ (optB o h) Q) : ∃ b, o = some b ∧ ∀ ρ' H' v, Ex K ρ H ρ' H' → Rh K G ρ' H' h → v = b → Q v H' := by
  cases o with
  | none => exact p.elim
  | some q => exact ⟨q, rfl, p⟩
theorem st_truth (ha : PE X a (tM X.K G W ma)) (he : ∀ whole, isTrue a X.env whole = (do let v ← whole; standAt a.pos; holding [v] (truthy v)) := by intro _; rfl) : PT X a (tT X.K G W (tTru ma)) := ptImp (pt_truth ha he) fun σ H Q t => by
  obtain ⟨ρ, h, env, hr, he, p⟩ := t
  refine tG_mono (tG_bind (rel := relV X.K) hr he p) fun x H1 ⟨ρ1, h1, d, e1, hr1, he1, r1, p1⟩ => ?_
  obtain ⟨k, ek, q⟩ := p1.optB
  exact ⟨k, truth_ok hr1 r1 ek, q _ _ _ Ex.refl hr1 rfl⟩
/-- an expression that gives a bool, its test being B of the same reading -/
theorem tB_imp {t : TE} (i : ∀ σ H Q, tM X.K G W ma σ H Q → t σ H Q) (σ : L2.St) (H : Hp) (Q : Bool → Hp → Prop) (p : tT X.K G W (tBl ma) σ H Q) : t σ H fun x H1 => ∃ k, x = .bl k ∧ Q k H1 := by
  obtain ⟨ρ, h, env, hr, he, p⟩ := p
  refine i σ H _ (tG_mono (tG_bind (rel := relV X.K) hr he p) fun x H1 ⟨ρ1, h1, d, e1, hr1, he1, r1, p1⟩ => ?_)
  obtain ⟨k, ek, q⟩ := p1.optB
  cases d with
  | bl b => cases ek; cases r1; exact ⟨_, rfl, q _ _ _ Ex.refl hr1 rfl⟩
  | _ => cases ek
theorem st_val (ha : PE X a (tM X.K G W ma)) (he : ∀ whole, isTrue a X.env whole = (do let v ← whole; standAt a.pos; holding [v] (truthy v)) := by intro _; rfl) : PT X a (tT X.K G W (tBl ma)) := ptImp (pt_val ha he) fun σ H Q t => tB_imp (fun _ _ _ z => z) σ H Q t
theorem st_cmp {op : CmpOp} {r : R2} {f : D → D → Hh → Option (D × Hh)} (ho : OpR X (compareOp op) r) (i : Imp2 X.K G r f) (ha : PE X a (tM X.K G W ma)) (hb : PE X b (tM X.K G W mb)) (hm : behindInMarks op b = false) : PT X (.Compare a [op] [b] pos) (tT X.K G W (tBl (eB f ma mb))) :=
  ptImp (pt_cmpR ho ha hb hm) fun σ H Q t => tB_imp (bin_imp i) σ H Q t
theorem st_eq (hu : X.A.units + 64 < cLine) (ha : PE X a (tM X.K G W ma)) (hb : PE X b (tM X.K G W mb)) : PT X (.Compare a [.Eq] [b] pos) (tT X.K G W (tBl (eB opEq ma mb))) := st_cmp (op_eq.or (op_eqD hu)) im_eq ha hb (nomark _)
theorem st_ne (hu : X.A.units + 64 < cLine) (ha : PE X a (tM X.K G W ma)) (hb : PE X b (tM X.K G W mb)) : PT X (.Compare a [.NotEq] [b] pos) (tT X.K G W (tBl (eB opNe ma mb))) := st_cmp (op_ne.or (op_neD hu)) im_ne ha hb (nomark _)
theorem st_lt (hu : X.A.units + 64 < cLine) (ha : PE X a (tM X.K G W ma)) (hb : PE X b (tM X.K G W mb)) : PT X (.Compare a [.Lt] [b] pos) (tT X.K G W (tBl (eB opLt ma mb))) := st_cmp (op_ltAll (by omega)) im_lt ha hb (nomark _)
theorem st_le (hu : X.A.units + 64 < cLine) (ha : PE X a (tM X.K G W ma)) (hb : PE X b (tM X.K G W mb)) : PT X (.Compare a [.LtE] [b] pos) (tT X.K G W (tBl (eB opLe ma mb))) := st_cmp op_le im_le ha hb (nomark _)
theorem st_gt (hu : X.A.units + 64 < cLine) (ha : PE X a (tM X.K G W ma)) (hb : PE X b (tM X.K G W mb)) : PT X (.Compare a [.Gt] [b] pos) (tT X.K G W (tBl (eB opGt ma mb))) := st_cmp op_gt im_gt ha hb (nomark _)
theorem st_ge (hu : X.A.units + 64 < cLine) (ha : PE X a (tM X.K G W ma)) (hb : PE X b (tM X.K G W mb)) : PT X (.Compare a [.GtE] [b] pos) (tT X.K G W (tBl (eB opGe ma mb))) := st_cmp op_ge im_ge ha hb (nomark _)
theorem isN_imp (σ : L2.St) (H : Hp) (Q : VK) (t : tM X.K G W (eU opIsN ma) σ H Q) : tIsN (tM X.K G W ma) σ H Q := un_imp (r := fun x H Q => Q (.bl (decide (x = .non))) H) (fun {ρ H h x dx d h' Q} hr rx e k => by
  cases rx <;> simp only [opIsN] at e <;> cases e <;> exact k _ _ _ Ex.refl hr (.bl _)) σ H Q t
theorem notN_imp (σ : L2.St) (H : Hp) (Q : VK) (t : tM X.K G W (eU opNotN ma) σ H Q) : tNotN (tM X.K G W ma) σ H Q := un_imp (r := fun x H Q => Q (.bl (!decide (x = .non))) H) (fun {ρ H h x dx d h' Q} hr rx e k => by
  cases rx <;> simp only [opNotN] at e <;> cases e <;> exact k _ _ _ Ex.refl hr (.bl _)) σ H Q t
theorem st_isN {j pos'} (ha : PE X a (tM X.K G W ma)) : PT X (.Compare a [.Is] [.Constant .none j pos'] pos) (tT X.K G W (tBl (eU opIsN ma))) := ptImp (pt_cmp (pc_isN ha)) fun σ H Q t => tB_imp isN_imp σ H Q t
theorem st_notN {j pos'} (ha : PE X a (tM X.K G W ma)) : PT X (.Compare a [.IsNot] [.Constant .none j pos'] pos) (tT X.K G W (tBl (eU opNotN ma))) := ptImp (pt_cmp (pc_notN ha)) fun σ H Q t => tB_imp notN_imp σ H Q t
theorem ch_imp {r r' : R2} {f g : D → D → Hh → Option (D × Hh)} (i : Imp2 X.K G r f) (i' : Imp2 X.K G r' g) (σ : L2.St) (H : Hp) (Q : VK) (t : tM X.K G W (eCh f g ma mb mc) σ H Q) : tChain r r' (tM X.K G W ma) (tM X.K G W mb) (tM X.K G W mc) σ H Q := by
  obtain ⟨ρ, h, env, hr, he, p⟩ := t
  refine tG_mono (tG_bind (rel := relV X.K) hr he p) fun x H1 ⟨ρ1, h1, d, e1, hr1, he1, r1, p1⟩ => ?_
  refine tG_mono (tG_bind (rel := relV X.K) hr1 he1 p1) fun y H2 ⟨ρ2, h2, d2, e2, hr2, he2, r2, p2⟩ => ?_
  dsimp only at p2
  cases o : f d d2 h2 with
  | none => rw [o] at p2; exact p2.elim
  | some q =>
    obtain ⟨z, h3⟩ := q
    rw [o] at p2
    refine i hr2 (r1.mono e2) r2 o fun ρ3 H3 v e3 hr3 r3 => ?_
    have p3 := Po.shift p2 e3
    cases z with
    | bl k =>
      cases r3
      refine ⟨k, rfl, ?_⟩
      cases k with
      | false => exact p3.ok hr3 (.bl _)
      | true =>
        refine tG_mono (tG_bind (rel := relV X.K) hr3 (he2.mono e3) p3) fun w H4 ⟨ρ4, h4, d4, e4, hr4, he4, r4, p4⟩ => ?_
        obtain ⟨d5, h5, eq, k5⟩ := p4.opt
        exact i' hr4 ((r2.mono e3).mono e4) r4 eq k5
    | _ => exact p3.elim
theorem se_chain {op op' : CmpOp} {r r' : R2} {f g : D → D → Hh → Option (D × Hh)} (ho : OpR X (compareOp op) r) (ho' : OpR X (compareOp op') r') (i : Imp2 X.K G r f) (i' : Imp2 X.K G r' g) (ha : PE X a (tM X.K G W ma)) (hb : PE X b (tM X.K G W mb)) (hc : PE X c (tM X.K G W mc))
    (hm : lastMarks [op, op'] [b, c] = false := by with_unfolding_all rfl) : PE X (.Compare a [op, op'] [b, c] pos) (tM X.K G W (eCh f g ma mb mc)) := peImp (pe_chain ho ho' ha hb hc hm) fun σ H Q t => ch_imp i i' σ H Q t
theorem st_chain {op op' : CmpOp} {r r' : R2} {f g : D → D → Hh → Option (D × Hh)} (ho : OpR X (compareOp op) r) (ho' : OpR X (compareOp op') r') (i : Imp2 X.K G r f) (i' : Imp2 X.K G r' g) (ha : PE X a (tM X.K G W ma)) (hb : PE X b (tM X.K G W mb)) (hc : PE X c (tM X.K G W mc))
    (hm : lastMarks [op, op'] [b, c] = false := by with_unfolding_all rfl) : PT X (.Compare a [op, op'] [b, c] pos) (tT X.K G W (tBl (eCh f g ma mb mc))) := ptImp (pt_chain ho ho' ha hb hc hm) fun σ H Q t => tB_imp (ch_imp i i') σ H Q t

/-! ### and, or, not -/
theorem sw_and1 (ha : PT X a (tT X.K G W ta)) : PW X (.BoolOp .And [a] pos) (tT X.K G W ta) := pw_and1 ha
theorem sw_or1 (ha : PT X a (tT X.K G W ta)) : PW X (.BoolOp .Or [a] pos) (tT X.K G W ta) := pw_or1 ha
theorem sw_and (ha : PT X a (tT X.K G W ta)) (hb : PW X (.BoolOp .And (b :: rest) pos) (tT X.K G W tb)) : PW X (.BoolOp .And (a :: b :: rest) pos) (tT X.K G W (tAndM ta tb)) := pwImp (pw_and ha hb) fun σ H Q t => by
  obtain ⟨ρ, h, env, hr, he, p⟩ := t
  refine tG_mono (tG_bind (rel := relB) hr he p) fun x H1 ⟨ρ1, h1, d, e1, hr1, he1, r1, p1⟩ => ?_
  subst r1
  cases x with
  | true => exact ⟨ρ1, h1, env, hr1, he1, p1⟩
  | false => exact p1.ok hr1 rfl
theorem sw_or (ha : PT X a (tT X.K G W ta)) (hb : PW X (.BoolOp .Or (b :: rest) pos) (tT X.K G W tb)) : PW X (.BoolOp .Or (a :: b :: rest) pos) (tT X.K G W (tOrM ta tb)) := pwImp (pw_or ha hb) fun σ H Q t => by
  obtain ⟨ρ, h, env, hr, he, p⟩ := t
  refine tG_mono (tG_bind (rel := relB) hr he p) fun x H1 ⟨ρ1, h1, d, e1, hr1, he1, r1, p1⟩ => ?_
  subst r1
  cases x with
  | false => exact ⟨ρ1, h1, env, hr1, he1, p1⟩
  | true => exact p1.ok hr1 rfl
theorem st_w (ha : PW X a (tT X.K G W ta)) : PT X a (tT X.K G W ta) := ha.pt
theorem st_not (ha : PT X a (tT X.K G W ta)) : PT X (.UnaryOp .Not a pos) (tT X.K G W (tNotM ta)) := ptImp (pt_not ha) fun σ H Q t => by
  obtain ⟨ρ, h, env, hr, he, p⟩ := t
  refine tG_mono (tG_bind (rel := relB) hr he p) fun x H1 ⟨ρ1, h1, d, e1, hr1, he1, r1, p1⟩ => ?_
  subst r1
  exact p1.ok hr1 rfl
theorem se_one {op} (ha : PE X a (tM X.K G W ma)) : PE X (.BoolOp op [a] pos) (tM X.K G W ma) := pe_one ha
theorem se_and (ha : PE X a (tM X.K G W ma)) (hb : PE X (.BoolOp .And (b :: rest) pos) (tM X.K G W mb)) : PE X (.BoolOp .And (a :: b :: rest) pos) (tM X.K G W (eAnd ma mb)) := peImp (pe_and ha hb) fun σ H Q t => by
  obtain ⟨ρ, h, env, hr, he, p⟩ := t
  refine tG_mono (tG_bind (rel := relV X.K) hr he p) fun x H1 ⟨ρ1, h1, d, e1, hr1, he1, r1, p1⟩ => ?_
  cases d with
  | bl k =>
    cases r1
    refine ⟨k, rfl, ?_⟩
    cases k with
    | true => exact ⟨ρ1, h1, env, hr1, he1, p1⟩
    | false => exact p1.ok hr1 (.bl _)
  | _ => exact p1.elim
theorem se_or (ha : PE X a (tM X.K G W ma)) (hb : PE X (.BoolOp .Or (b :: rest) pos) (tM X.K G W mb)) : PE X (.BoolOp .Or (a :: b :: rest) pos) (tM X.K G W (eOr ma mb)) := peImp (pe_or ha hb) fun σ H Q t => by
  obtain ⟨ρ, h, env, hr, he, p⟩ := t
  refine tG_mono (tG_bind (rel := relV X.K) hr he p) fun x H1 ⟨ρ1, h1, d, e1, hr1, he1, r1, p1⟩ => ?_
  cases d with
  | bl k =>
    cases r1
    refine ⟨k, rfl, ?_⟩
    cases k with
    | false => exact ⟨ρ1, h1, env, hr1, he1, p1⟩
    | true => exact p1.ok hr1 (.bl _)
  | _ => exact p1.elim
theorem se_not (ha : PE X a (tM X.K G W ma)) : PE X (.UnaryOp .Not a pos) (tM X.K G W (eNot ma)) := peImp (pe_not ha) fun σ H Q t => by
  obtain ⟨ρ, h, env, hr, he, p⟩ := t
  refine tG_mono (tG_bind (rel := relV X.K) hr he p) fun x H1 ⟨ρ1, h1, d, e1, hr1, he1, r1, p1⟩ => ?_
  cases d with
  | bl k =>
    cases r1
    exact ⟨k, rfl, p1.ok hr1 (.bl _)⟩
  | _ => exact p1.elim
theorem se_if (hc : PT X c (tT X.K G W ta)) (ha : PE X a (tM X.K G W ma)) (hb : PE X b (tM X.K G W mb)) : PE X (.IfExp c a b pos) (tM X.K G W (eIf ta ma mb)) := peImp (pe_ifExp hc ha hb) fun σ H Q t => by
  obtain ⟨ρ, h, env, hr, he, p⟩ := t
  refine tG_mono (tG_bind (rel := relB) hr he p) fun x H1 ⟨ρ1, h1, d, e1, hr1, he1, r1, p1⟩ => ?_
  subst r1
  cases x with
  | true => exact ⟨ρ1, h1, env, hr1, he1, p1⟩
  | false => exact ⟨ρ1, h1, env, hr1, he1, p1⟩
end

/-! ### argument lists -/
def evs : List M → Ev → Hh → R (List D)
  | [], _, h => .ok [] h
  | m :: ms, env, h => (m env h).bind fun d h1 => (evs ms env h1).bind fun ds h2 => .ok (d :: ds) h2
def eN (f : List D → Hh → Option (D × Hh)) (ms : List M) : M := fun env h => (evs ms env h).bind fun ds h1 => R.opt (f ds h1)
def ImpN (K : PySem.W.Frag) (G : Cl) (r : List V → Hp → VK → Prop) (f : List D → Hh → Option (D × Hh)) : Prop := ∀ {ρ : List Addr} {H : Hp} {h : Hh} {xs : List V} {ds : List D} {d : D} {h' : Hh} {Q : VK}, Rh K G ρ H h → Rvs K ρ H xs ds → f ds h = some (d, h') →
  (∀ ρ' H' v, Ex K ρ H ρ' H' → Rh K G ρ' H' h' → Rv K ρ' H' v d → Q v H') → r xs H Q
def eTup (ms : List M) : M := fun env h => (evs ms env h).bind fun ds h1 => .ok (.tup ds) h1
def eLst (ms : List M) : M := fun env h => (evs ms env h).bind fun ds h1 => .ok (.ref h1.length) (h1 ++ [.lst ds])
section
variable {X : Cx} {G : Cl} {W : WX} {e o a b c : Expr} {es rest : List Expr} {pos p : Pos} {ma mb mc m mo : M} {ms : List M} {K : PySem.W.Frag} {ρ : List Addr} {H : Hp} {h : Hh} {σ : L2.St} {env : Ev} {x : Str} {id T : String}
theorem sa_nil : PA X [] (tL X.K G W (evs [])) := paImp pa_nil fun σ H Q t => by
  obtain ⟨ρ, h, env, hr, he, p⟩ := t
  exact p.ok hr .nil
theorem sa_cons (ha : PE X e (tM X.K G W m)) (hb : PA X es (tL X.K G W (evs ms))) (hs : starEach (e :: es) X.env = (false, eval e X.env) :: starEach es X.env := by rfl) : PA X (e :: es) (tL X.K G W (evs (m :: ms))) := paImp (pa_cons ha hb hs) fun σ H Q t => by
  obtain ⟨ρ, h, env, hr, he, p⟩ := t
  refine tG_mono (tG_bind (rel := relV X.K) hr he p) fun x H1 ⟨ρ1, h1, d, e1, hr1, he1, r1, p1⟩ => ?_
  refine tG_mono (tG_bind (rel := relVs X.K) hr1 he1 p1) fun y H2 ⟨ρ2, h2, d2, e2, hr2, he2, r2, p2⟩ => ?_
  exact p2.ok hr2 (.cons (r1.mono e2) r2)
theorem evs_len : ∀ {ms : List M} {env : Ev} {h h' : Hh} {ds : List D}, evs ms env h = .ok ds h' → ds.length = ms.length
  | [], _, _, _, _, e => by cases e; rfl
  | m :: ms, env, h, h', ds, e => by
    unfold evs at e
    cases q : m env h with
    | ok d h1 =>
      rw [q] at e
      simp only [R.bind_ok] at e
      cases q2 : evs ms env h1 with
      | ok ds2 h2 =>
        rw [q2] at e
        cases e
        rw [List.length_cons, List.length_cons, evs_len q2]
      | exc c fs h2 => rw [q2] at e; cases e
      | bad => rw [q2] at e; cases e
    | exc c fs h1 => rw [q] at e; cases e
    | bad => rw [q] at e; cases e
theorem nary_imp {r : List V → Hp → VK → Prop} {f : List D → Hh → Option (D × Hh)} (i : ImpN X.K G r f) (σ : L2.St) (H : Hp) (Q : VK) (t : tM X.K G W (eN f ms) σ H Q) : tCB r (tL X.K G W (evs ms)) σ H Q := by
  obtain ⟨ρ, h, env, hr, he, p⟩ := t
  refine tG_mono (tG_bind (rel := relVs X.K) hr he p) fun x H1 ⟨ρ1, h1, d, e1, hr1, he1, r1, p1⟩ => ?_
  obtain ⟨d2, h2, eq, k⟩ := p1.opt
  exact i hr1 r1 eq k
theorem se_callB {r : List V → Hp → VK → Prop} {f : List D → Hh → Option (D × Hh)} (hc : CallR X (.builtin id) r) (i : ImpN X.K G r f) (hg : Gl X x) (hm : X.mg x = none) (hv : bootBuiltins x = some (.builtin id)) (ha : PA X (e :: es) (tL X.K G W (evs ms))) (hn : x ≠ "__name__" := by decide) (hdb : (x == ("__debug__" : Str)) = false := by decide)
    (he : starEach (e :: es) X.env = (false, eval e X.env) :: starEach es X.env := by rfl) (hpl : (backTo pos (starEach es X.env)).any (·.1) = false := by rfl) : PE X (.Call (.Name x p) (e :: es) [] pos) (tM X.K G W (eN f ms)) :=
  peImp (pe_callB hc hg hm hv ha hn hdb he hpl) fun σ H Q t => nary_imp i σ H Q t
theorem se_callTy {r : List V → Hp → VK → Prop} {f : List D → Hh → Option (D × Hh)} (hc : CallR X (.type T) r) (i : ImpN X.K G r f) (hg : Gl X x) (hm : X.mg x = none) (hv : bootBuiltins x = some (.type T)) (ha : PA X (e :: es) (tL X.K G W (evs ms))) (hn : x ≠ "__name__" := by decide) (hdb : (x == ("__debug__" : Str)) = false := by decide)
    (he : starEach (e :: es) X.env = (false, eval e X.env) :: starEach es X.env := by rfl) (hpl : (backTo pos (starEach es X.env)).any (·.1) = false := by rfl) : PE X (.Call (.Name x p) (e :: es) [] pos) (tM X.K G W (eN f ms)) :=
  peImp (pe_callTy hc hg hm hv ha hn hdb he hpl) fun σ H Q t => nary_imp i σ H Q t
theorem seq_len {t : TA} {L : List V → Hp → Prop} (hl : ms.length ≤ sizeLine) (hr : Rh K G ρ H h) (he : Re K ρ H σ env) {Q : VK} {f : List D → Hh → R D}
    (p : Po K G (relV K) W ρ H σ ((evs ms env h).bind f) Q) : tG K G (relVs K) W (evs ms) σ H fun vs H1 => vs.length ≤ sizeLine ∧ Thn K G (relVs K) (relV K) W σ env f Q ρ H vs H1 := by
  refine ⟨ρ, h, env, hr, he, ?_⟩
  cases q : evs ms env h with
  | ok ds h1 =>
    rw [q] at p
    intro ρ' H' vs e a b
    exact ⟨by rw [Rvs.length b, evs_len q]; exact hl, ρ', h1, ds, e, a, he.mono e, b, Po.shift p e⟩
  | exc c fs h1 => rw [q] at p; exact p
  | bad => rw [q] at p; exact p
theorem se_tup {x1} (ha : PA X es (tL X.K G W (evs ms))) (hl : ms.length ≤ sizeLine := by decide) : PE X (.Tuple es x1 pos) (tM X.K G W (eTup ms)) := peImp (pe_tup ha) fun σ H Q t => by
  obtain ⟨ρ, h, env, hr, he, p⟩ := t
  refine tG_mono (seq_len (t := tNil) (L := fun _ _ => True) hl hr he p) fun vs H1 ⟨l, ρ1, h1, d, e1, hr1, he1, r1, p1⟩ => ⟨l, ?_⟩
  exact new_tup hr1 r1 p1
theorem se_lst (ha : PA X es (tL X.K G W (evs ms))) (hl : ms.length ≤ sizeLine := by decide) : PE X (.List es pos) (tM X.K G W (eLst ms)) := peImp (pe_lst ha) fun σ H Q t => by
  obtain ⟨ρ, h, env, hr, he, p⟩ := t
  refine tG_mono (seq_len (t := tNil) (L := fun _ _ => True) hl hr he p) fun vs H1 ⟨l, ρ1, h1, d, e1, hr1, he1, r1, p1⟩ => ⟨l, ?_⟩
  exact new_lst hr1 r1 p1
end

/-! ### items, slices -/
def opIx : D → D → Hh → Option (D × Hh)
  | .tup ds, .int i, h => (atI ds i).map fun d => (d, h)
  | .str z, .int i, h => if z.length ≤ sizeLine then (atI z.cps.toList i).map fun c => (.str ⟨#[c]⟩, h) else none
  | .fls ds, .int i, h => (atI ds i).map fun d => (d, h)
  | .ref n, .int i, h => match h[n]? with
    | some (.lst ds) => (atI ds i).map fun d => (d, h)
    | _ => none
  | _, _, _ => none
def cutD (xs : List D) (lo hi : Option Int) : List D := (xs.drop (HT.sIx xs.length 0 lo)).take (HT.sIx xs.length xs.length hi - HT.sIx xs.length 0 lo)
/-- the part of a slice: left out, or an int -/
def evO : Option M → Ev → Hh → R (Option Int)
  | none, _, h => .ok none h
  | some m, env, h => (m env h).bind fun d h1 => match d with
    | .int i => .ok (some i) h1
    | _ => .bad
def opSl : D → Option Int → Option Int → Hh → Option (D × Hh)
  | .tup ds, lo, hi, h => some (.tup (cutD ds lo hi), h)
  | .str z, lo, hi, h => if z.length ≤ sizeLine then some (.str (cutS z lo hi), h) else none
  | .fls ds, lo, hi, h => some (.ref h.length, h ++ [.lst (cutD ds lo hi)])
  | .ref n, lo, hi, h => match h[n]? with
    | some (.lst ds) => some (.ref h.length, h ++ [.lst (cutD ds lo hi)])
    | _ => none
  | _, _, _, _ => none
def eSl (m : M) (lo hi : Option M) : M := fun env h => (m env h).bind fun d h1 => (evO lo env h1).bind fun l h2 => (evO hi env h2).bind fun u h3 => R.opt (opSl d l u h3)
def opRev : D → Hh → Option (D × Hh)
  | .fls ds, h => some (.ref h.length, h ++ [.lst ds.reverse])
  | .ref n, h => match h[n]? with
    | some (.lst ds) => some (.ref h.length, h ++ [.lst ds.reverse])
    | _ => none
  | _, _ => none
section
variable {X : Cx} {G : Cl} {W : WX} {e o a b c : Expr} {lo hi : Option Expr} {es rest : List Expr} {pos p p2 p1 p3 : Pos} {ma mb mc m mo : M} {ml mh : Option M} {ms : List M} {K : PySem.W.Frag} {ρ : List Addr} {H : Hp} {h : Hh} {σ : L2.St} {env : Ev} {x : Str} {id T : String}
theorem Rvs.atI {vs : List V} {ds : List D} (r : Rvs K ρ H vs ds) {i : Int} {d : D} (e : L2.atI ds i = some d) : ∃ v, L2.atI vs i = some v ∧ Rv K ρ H v d := by
  unfold L2.atI at e ⊢
  rw [r.length]
  cases q : ixN ds.length i with
  | none => rw [q] at e; cases e
  | some j =>
    rw [q] at e
    exact r.get e
theorem im_ix : Imp2 K G (rIx K) opIx := fun {ρ H h x y dx dy d h' Q} hr rx ry e k => by
  unfold opIx at e
  split at e
  · cases ry
    obtain ⟨a, vs, rfl, t, r⟩ := rx.sqT
    simp only [Option.map_eq_some_iff, Prod.mk.injEq] at e
    obtain ⟨d2, e, rfl, rfl⟩ := e
    obtain ⟨v, q, rv⟩ := r.atI e
    exact .inr (.inl ⟨a, vs, _, v, rfl, rfl, t, q, k _ _ _ Ex.refl hr rv⟩)
  · cases ry; cases rx
    split at e
    · simp only [Option.map_eq_some_iff, Prod.mk.injEq] at e
      obtain ⟨c, e, rfl, rfl⟩ := e
      exact .inr (.inr ⟨_, _, c, rfl, rfl, by assumption, e, k _ _ _ Ex.refl hr (.str _)⟩)
    · cases e
  · cases ry
    cases rx with
    | fls t r =>
      simp only [Option.map_eq_some_iff, Prod.mk.injEq] at e
      obtain ⟨d2, e9, rfl, rfl⟩ := e
      obtain ⟨v, q, rv⟩ := r.atI e9
      exact .inl ⟨_, _, _, v, rfl, rfl, t.sq, q, k _ _ _ Ex.refl hr rv⟩
  · cases ry
    cases rx with
    | ref ra =>
      split at e
      · rename_i e0
        simp only [Option.map_eq_some_iff, Prod.mk.injEq] at e
        obtain ⟨d2, e9, rfl, rfl⟩ := e
        obtain ⟨vs, q, r⟩ := ref_seq hr ra e0
        obtain ⟨v, q2, rv⟩ := r.atI e9
        exact .inl ⟨_, vs, _, v, rfl, rfl, q, q2, k _ _ _ Ex.refl hr rv⟩
      · cases e
  · cases e
theorem se_ix (ha : PE X a (tM X.K G W ma)) (hb : PE X b (tM X.K G W mb)) (hs : PlainIx b := by exact fun _ _ => rfl) : PE X (.Subscript a b pos) (tM X.K G W (eB opIx ma mb)) := peImp (pe_ix ix_seq ha hb hs) fun σ H Q t => bin_imp im_ix σ H Q t
abbrev relO : List Addr → Hp → Option Int → Option Int → Prop := fun _ _ b c => b = c
theorem so_none : PO X none (tG X.K G relO W (evO none)) := ⟨fun pins s σ H Q I t => by
  obtain ⟨ρ, h, env, hr, he, p⟩ := t
  exact po_none.run pins s σ H Q I (p.ok hr rfl)⟩
theorem so_some (ha : PE X e (tM X.K G W m)) : PO X (some e) (tG X.K G relO W (evO (some m))) := ⟨fun pins s σ H Q I t => by
  obtain ⟨ρ, h, env, hr, he, p⟩ := t
  refine (po_some ha).run pins s σ H Q I (tG_mono (tG_bind (rel := relV X.K) hr he p) fun x H1 ⟨ρ1, h1, d, e1, hr1, he1, r1, p1⟩ => ?_)
  cases d with
  | int i => cases r1; exact ⟨i, rfl, p1.ok hr1 rfl⟩
  | _ => exact p1.elim⟩
theorem Rvs.cut {vs : List V} {ds : List D} (r : Rvs K ρ H vs ds) (lo hi : Option Int) : Rvs K ρ H (cutV vs lo hi) (cutD ds lo hi) := by
  unfold cutV cutD
  rw [r.length]
  exact (r.drop _).take _
abbrev rSlAll (K : PySem.W.Frag) : V → Option Int → Option Int → Hp → VK → Prop := fun x lo hi H Q => rSlA K x lo hi H Q ∨ (rSlL K x lo hi H Q ∨ rSlS x lo hi H Q)
theorem whole_cut {ds : List D} {lo hi : Option Int} (h1 : HT.sIx ds.length 0 lo = 0) (h2 : HT.sIx ds.length ds.length hi = ds.length) : cutD ds lo hi = ds := by
  unfold cutD
  rw [h1, h2]
  simp
theorem im_sl {x : V} {d d2 : D} {lo hi : Option Int} {h' : Hh} {Q : VK} (hr : Rh K G ρ H h) (rx : Rv K ρ H x d) (e : opSl d lo hi h = some (d2, h')) (k : ∀ ρ' H' v, Ex K ρ H ρ' H' → Rh K G ρ' H' h' → Rv K ρ' H' v d2 → Q v H') : rSlAll K x lo hi H Q := by
  unfold opSl at e
  split at e
  · cases e
    obtain ⟨a, vs, rfl, t, r⟩ := rx.sqT
    refine .inl ⟨a, vs, rfl, t, fun ⟨z1, z2⟩ => ?_, fun _ => new_tup hr (r.cut lo hi) k⟩
    rw [r.length] at z1 z2
    rw [whole_cut z1 z2] at k
    exact k _ _ _ Ex.refl hr rx
  · split at e
    · cases e; cases rx
      exact .inr (.inr ⟨_, rfl, by assumption, k _ _ _ Ex.refl hr (.str _)⟩)
    · cases e
  · cases e
    cases rx with
    | fls t r => exact .inr (.inl ⟨_, _, rfl, t.sq, new_lst hr (r.cut _ _) k⟩)
  · cases rx with
    | ref ra =>
      split at e
      · rename_i ds e0
        cases e
        obtain ⟨vs, q, r⟩ := ref_seq hr ra e0
        exact .inr (.inl ⟨_, vs, rfl, q, new_lst hr (r.cut _ _) k⟩)
      · cases e
  · cases e
theorem se_sl (ha : PE X a (tM X.K G W m)) (hl : PO X lo (tG X.K G relO W (evO ml))) (hh : PO X hi (tG X.K G relO W (evO mh))) : PE X (.Subscript a (.Slice lo hi none p2) pos) (tM X.K G W (eSl m ml mh)) :=
  peImp (pe_slice (sl_tupA.or (sl_list.or sl_str)) ha hl hh) fun σ H Q t => by
    obtain ⟨ρ, h, env, hr, he, p⟩ := t
    refine tG_mono (tG_bind (rel := relV X.K) hr he p) fun x H1 ⟨ρ1, h1, d, e1, hr1, he1, r1, p1⟩ => ?_
    refine tG_mono (tG_bind (rel := relO) hr1 he1 p1) fun l H2 ⟨ρ2, h2, d2, e2, hr2, he2, r2, p2⟩ => ?_
    refine tG_mono (tG_bind (rel := relO) hr2 he2 p2) fun u H3 ⟨ρ3, h3, d3, e3, hr3, he3, r3, p3⟩ => ?_
    subst r2 r3
    obtain ⟨d4, h4, eq, k⟩ := p3.opt
    exact im_sl hr3 ((r1.mono e2).mono e3) eq k
theorem se_rev {k : Nat} (ha : PE X a (tM X.K G W m)) : PE X (.Subscript a (.Slice none none (some (.UnaryOp .USub (.Constant (.int 1) k p1) p2)) p3) pos) (tM X.K G W (eU opRev m)) := peImp (pe_revL ha) fun σ H Q t => by
  refine un_imp (r := fun x H1 Q => ∃ a xs, x = .ref a ∧ SqL X.K H1 a xs ∧ ∀ p, H1 p = none → Q (.ref p) (upd H1 p (.lst xs.reverse))) (fun {ρ H h x dx d h' Q} hr rx e k => ?_) σ H Q t
  unfold opRev at e
  split at e
  · cases e
    cases rx with
    | fls t r => exact ⟨_, _, rfl, t.sq, new_lst hr r.reverse k⟩
  · cases rx with
    | ref ra =>
      split at e
      · rename_i ds e0
        cases e
        obtain ⟨vs, q, r⟩ := ref_seq hr ra e0
        exact ⟨_, vs, rfl, q, new_lst hr r.reverse k⟩
      · cases e
  · cases e
end
end Sm
/-! SmD: statements, loops, defs and their calls. -/
namespace Sm
open PySem L2 PyProof.Rows

inductive SR where
  | nx (env : Ev) (h : Hh) | rt (d : D) (h : Hh) | bk (env : Ev) (h : Hh) | ct (env : Ev) (h : Hh) | exc (c : Nat) (fs : List D) (env : Ev) (h : Hh) | bad
abbrev S := Ev → Hh → SR
section
variable (K : PySem.W.Frag) (G : Cl)
def PoS (W : WX) (ρ : List Addr) (H : Hp) (D : Ends) (r : SR) : Prop := match r with
  | .nx env h => ∀ ρ' H' σ', Ex K ρ H ρ' H' → Rh K G ρ' H' h → Re K ρ' H' σ' env → D.nx σ' H'
  | .rt d h => ∀ ρ' H' v, Ex K ρ H ρ' H' → Rh K G ρ' H' h → Rv K ρ' H' v d → D.rt v H'
  | .bk env h => ∀ ρ' H' σ', Ex K ρ H ρ' H' → Rh K G ρ' H' h → Re K ρ' H' σ' env → D.bk σ' H'
  | .ct env h => ∀ ρ' H' σ', Ex K ρ H ρ' H' → Rh K G ρ' H' h → Re K ρ' H' σ' env → D.ct σ' H'
  | .exc c fs env h => ∀ ρ' H' σ' d, Ex K ρ H ρ' H' → Rh K G ρ' H' h → Re K ρ' H' σ' env → Rx K G ρ' H' d c fs → W (.ref (G.at_ c)) d σ' H'
  | .bad => False
def tS (W : WX) (s : S) : TS := fun D σ H => ∃ ρ h env, Rh K G ρ H h ∧ Re K ρ H σ env ∧ PoS K G W ρ H D (s env h)
end
def bindS {α : Type} (r : R α) (env : Ev) (f : α → Hh → SR) : SR := match r with
  | .ok a h => f a h
  | .exc c fs h => .exc c fs env h
  | .bad => .bad
@[simp] theorem bindS_ok {α : Type} (a : α) (h : Hh) (env : Ev) (f : α → Hh → SR) : bindS (.ok a h) env f = f a h := rfl
@[simp] theorem bindS_exc {α : Type} (c : Nat) (fs : List D) (h : Hh) (env : Ev) (f : α → Hh → SR) : bindS (.exc c fs h : R α) env f = .exc c fs env h := rfl
@[simp] theorem bindS_bad {α : Type} (env : Ev) (f : α → Hh → SR) : bindS (.bad : R α) env f = .bad := rfl

section
variable {K : PySem.W.Frag} {G : Cl} {α β : Type} {rel : List Addr → Hp → β → α → Prop} {W : WX} {ρ ρ1 : List Addr} {H H1 : Hp} {σ : L2.St} {h : Hh} {env : Ev} {D0 : Ends}
theorem PoS.shift {r : SR} (p : PoS K G W ρ H D0 r) (e : Ex K ρ H ρ1 H1) : PoS K G W ρ1 H1 D0 r := by
  cases r with
  | nx env h => exact fun ρ' H' v e' => p ρ' H' v (e.trans e')
  | rt d h => exact fun ρ' H' v e' => p ρ' H' v (e.trans e')
  | bk env h => exact fun ρ' H' v e' => p ρ' H' v (e.trans e')
  | ct env h => exact fun ρ' H' v e' => p ρ' H' v (e.trans e')
  | exc c fs env h => exact fun ρ' H' v d e' => p ρ' H' v d (e.trans e')
  | bad => exact p
def ThnS (K : PySem.W.Frag) (G : Cl) (rel : List Addr → Hp → β → α → Prop) (W : WX) (σ : L2.St) (env : Ev) (f : α → Hh → SR) (D0 : Ends) (ρ : List Addr) (H : Hp) (v : β) (H1 : Hp) : Prop :=
  ∃ ρ1 h1 d, Ex K ρ H ρ1 H1 ∧ Rh K G ρ1 H1 h1 ∧ Re K ρ1 H1 σ env ∧ rel ρ1 H1 v d ∧ PoS K G W ρ1 H1 D0 (f d h1)
theorem PoS.bind {r : R α} {f : α → Hh → SR} (he : Re K ρ H σ env) (p : PoS K G W ρ H D0 (bindS r env f)) : Po K G rel W ρ H σ r (ThnS K G rel W σ env f D0 ρ H) := by
  cases r with
  | ok d h' => exact fun ρ' H' v e a b => ⟨ρ', h', d, e, a, he.mono e, b, p.shift e⟩
  | exc c fs h' => exact fun ρ' H' d e a b => p ρ' H' σ d e a (he.mono e) b
  | bad => exact p
theorem tS_bind {m : Ev → Hh → R α} {f : α → Hh → SR} (hr : Rh K G ρ H h) (he : Re K ρ H σ env) (p : PoS K G W ρ H D0 (bindS (m env h) env f)) : tG K G rel W m σ H (ThnS K G rel W σ env f D0 ρ H) :=
  ⟨ρ, h, env, hr, he, p.bind he⟩
theorem PoS.nx_ {σ : L2.St} (p : PoS K G W ρ H D0 (.nx env h)) (hr : Rh K G ρ H h) (he : Re K ρ H σ env) : D0.nx σ H := p ρ H σ Ex.refl hr he
theorem PoS.rt_ {v : V} {d : D} (p : PoS K G W ρ H D0 (.rt d h)) (hr : Rh K G ρ H h) (r : Rv K ρ H v d) : D0.rt v H := p ρ H v Ex.refl hr r
end

/-! ### small statements -/
def sSkip : S := fun env h => .nx env h
def sSeq (a b : S) : S := fun env h => match a env h with
  | .nx env' h' => b env' h'
  | r => r
def sRet (m : M) : S := fun env h => bindS (m env h) env fun d h1 => .rt d h1
def sRetN : S := fun _ h => .rt .non h
def sExpr (m : M) : S := fun env h => bindS (m env h) env fun _ h1 => .nx env h1
def sSet (i : Nat) (m : M) : S := fun env h => bindS (m env h) env fun d h1 => .nx (env.set i (some d)) h1
def sIf (t : MT) (a b : S) : S := fun env h => bindS (t env h) env fun c h1 => if c = true then a env h1 else b env h1
def sBk : S := fun env h => .bk env h
def sCt : S := fun env h => .ct env h
def sNever : S := fun _ _ => .bad
def sAug (f : D → D → Hh → Option (D × Hh)) (i : Nat) (m : M) : S := fun env h => match env[i]? with
  | some (some x) => bindS (m env h) env fun y h1 => bindS (R.opt (f x y h1)) env fun z h2 => .nx (env.set i (some z)) h2
  | _ => .bad
section
variable {X : Cx} {G : Cl} {W : WX} {e a b c : Expr} {st : Stmt} {rest sa sb : List Stmt} {pos : Pos} {ma mb m : M} {s s1 s2 : S} {t : MT}
theorem ss_nil : PSs X [] (tS X.K G W sSkip) := pssImp pss_nil fun D0 σ H t => by
  obtain ⟨ρ, h, env, hr, he, p⟩ := t
  exact p.nx_ hr he
theorem seq_imp {t1 t2 : TS} (i1 : ∀ D σ H, tS X.K G W s1 D σ H → t1 D σ H) (i2 : ∀ D σ H, tS X.K G W s2 D σ H → t2 D σ H) (D0 : Ends) (σ : L2.St) (H : Hp) (t : tS X.K G W (sSeq s1 s2) D0 σ H) : tS X.K G W s1 { D0 with nx := fun σ H => tS X.K G W s2 D0 σ H } σ H := by
  obtain ⟨ρ, h, env, hr, he, p⟩ := t
  refine ⟨ρ, h, env, hr, he, ?_⟩
  unfold sSeq at p
  cases q : s1 env h with
  | nx env' h' =>
    rw [q] at p
    exact fun ρ' H' σ' e a b => ⟨ρ', h', env', a, b, PoS.shift p e⟩
  | rt d h' => rw [q] at p; exact p
  | bk env' h' => rw [q] at p; exact p
  | ct env' h' => rw [q] at p; exact p
  | exc c fs env' h' => rw [q] at p; exact p
  | bad => rw [q] at p; exact p
theorem ss_cons (h1 : PS X st (tS X.K G W s1)) (h2 : PSs X rest (tS X.K G W s2)) : PSs X (st :: rest) (tS X.K G W (sSeq s1 s2)) := pssImp (pss_cons h1 h2) fun D0 σ H t => seq_imp (fun _ _ _ z => z) (fun _ _ _ z => z) D0 σ H t
theorem ss_one (h1 : PS X st (tS X.K G W s1)) : PSs X [st] (tS X.K G W s1) := pss_one h1
theorem s_pass : PS X (.Pass pos) (tS X.K G W sSkip) := psImp ps_pass fun D0 σ H t => by
  obtain ⟨ρ, h, env, hr, he, p⟩ := t
  exact p.nx_ hr he
theorem s_break : PS X (.Break pos) (tS X.K G W sBk) := psImp ps_break fun D0 σ H t => by
  obtain ⟨ρ, h, env, hr, he, p⟩ := t
  exact p ρ H σ Ex.refl hr he
theorem s_continue : PS X (.Continue pos) (tS X.K G W sCt) := psImp ps_continue fun D0 σ H t => by
  obtain ⟨ρ, h, env, hr, he, p⟩ := t
  exact p ρ H σ Ex.refl hr he
theorem s_never : PS X st (tS X.K G W sNever) := psImp ps_never fun D0 σ H t => by
  obtain ⟨ρ, h, env, hr, he, p⟩ := t
  exact p
theorem s_ret (ha : PE X a (tM X.K G W m)) : PS X (.Return (some a) pos) (tS X.K G W (sRet m)) := psImp (ps_ret ha) fun D0 σ H t => by
  obtain ⟨ρ, h, env, hr, he, p⟩ := t
  refine tG_mono (tS_bind (rel := relV X.K) hr he p) fun x H1 ⟨ρ1, h1, d, e1, hr1, he1, r1, p1⟩ => ?_
  exact p1.rt_ hr1 r1
theorem s_retN : PS X (.Return none pos) (tS X.K G W sRetN) := psImp ps_retN fun D0 σ H t => by
  obtain ⟨ρ, h, env, hr, he, p⟩ := t
  exact p.rt_ hr .non
theorem s_expr (ha : PE X a (tM X.K G W m)) (hs : swapsWith a none pos.line X.env = pure false := by rfl) : PS X (.Expr a pos) (tS X.K G W (sExpr m)) := psImp (ps_expr ha hs) fun D0 σ H t => by
  obtain ⟨ρ, h, env, hr, he, p⟩ := t
  refine tG_mono (tS_bind (rel := relV X.K) hr he p) fun x H1 ⟨ρ1, h1, d, e1, hr1, he1, r1, p1⟩ => ?_
  exact p1.nx_ hr1 he1
theorem set_imp {i : Nat} (D0 : Ends) (σ : L2.St) (H : Hp) (t : tS X.K G W (sSet i m) D0 σ H) : tAsg (tM X.K G W m) (gName i) D0 σ H := by
  obtain ⟨ρ, h, env, hr, he, p⟩ := t
  refine tG_mono (tS_bind (rel := relV X.K) hr he p) fun x H1 ⟨ρ1, h1, d, e1, hr1, he1, r1, p1⟩ => ?_
  exact p1.nx_ hr1 (he1.set r1 i)
theorem s_set (i : Nat) {x : Str} {pos' : Pos} (hN : X.N.Nodup) (ha : PE X a (tM X.K G W m)) (hi : X.N[i]? = some x := by rfl) (hx : Loc X.env.scope x := by first | exact Or.inl rfl | exact Or.inr rfl) (hs : swapsWith a (some (.Name x pos')) pos.line X.env = pure false := by rfl)
    (hf : X.fn x = true ∨ X.env.scope.names.lookup x = some .local := by first | exact .inl rfl | exact .inr rfl) : PS X (.Assign [.Name x pos'] a pos) (tS X.K G W (sSet i m)) := psImp (ps_set hN hi hx ha hs hf) fun D0 σ H t => set_imp D0 σ H t
theorem s_if (hc : PT X c (tT X.K G W t)) (ha : PSs X sa (tS X.K G W s1)) (hb : PSs X sb (tS X.K G W s2)) : PS X (.If c sa sb pos) (tS X.K G W (sIf t s1 s2)) := psImp (ps_if hc ha hb) fun D0 σ H t => by
  obtain ⟨ρ, h, env, hr, he, p⟩ := t
  refine tG_mono (tS_bind (rel := relB) hr he p) fun x H1 ⟨ρ1, h1, d, e1, hr1, he1, r1, p1⟩ => ?_
  subst r1
  cases x with
  | true => exact ⟨ρ1, h1, env, hr1, he1, p1⟩
  | false => exact ⟨ρ1, h1, env, hr1, he1, p1⟩
theorem s_aug {op : Operator} {r : R2} {f : D → D → Hh → Option (D × Hh)} (i : Nat) {x : Str} {pos' : Pos} (hN : X.N.Nodup) (ho : OpR X (inplaceOp op) r) (im : Imp2 X.K G r f) (ha : PE X a (tM X.K G W m)) (hi : X.N[i]? = some x := by rfl) (hx : Loc X.env.scope x := by first | exact Or.inl rfl | exact Or.inr rfl)
    (hf : X.fn x = true ∨ X.env.scope.names.lookup x = some .local := by first | exact .inl rfl | exact .inr rfl) : PS X (.AugAssign (.Name x pos') op a pos) (tS X.K G W (sAug f i m)) := psImp (ps_aug (ti := r) hN hi hx ha ho hf) fun D0 σ H t => by
  obtain ⟨ρ, h, env, hr, he, p⟩ := t
  unfold sAug at p
  cases q : env[i]? with
  | none => rw [q] at p; exact p.elim
  | some o =>
    cases o with
    | none => rw [q] at p; exact p.elim
    | some d =>
      rw [q] at p
      obtain ⟨v, h1, h2⟩ := he.get i d q
      refine ⟨v, h1, tG_mono (tS_bind (rel := relV X.K) hr he p) fun y H1 ⟨ρ1, h1', d1, e1, hr1, he1, r1, p1⟩ => ?_⟩
      cases z : f d d1 h1' with
      | none => dsimp only at p1; rw [z] at p1; exact p1.elim
      | some zz =>
        obtain ⟨d2, h2'⟩ := zz
        dsimp only at p1
        rw [z] at p1
        exact im hr1 (h2.mono e1) r1 z fun ρ' H' v' e' a' b' => p1 ρ' H' _ e' a' ((he1.mono e').set b' i)
end

/-! ### a, b = .. -/
@[simp] def setAll : List Nat → List D → Ev → Ev
  | i :: is, d :: ds, env => setAll is ds (env.set i (some d))
  | _, _, env => env
/-- the parts of a tuple or a list -/
def partsOf : D → Hh → Option (List D)
  | .tup ds, _ => some ds
  | .fls ds, _ => some ds
  | .ref n, h => match h[n]? with
    | some (.lst ds) => some ds
    | _ => none
  | _, _ => none
/-- a target stores a value -/
abbrev TgM := D → Hh → Ev → Option Ev
def gtName (i : Nat) : TgM := fun d _ env => some (env.set i (some d))
def gtTup (is : List Nat) : TgM := fun d h env => match partsOf d h with
  | some ds => if ds.length = is.length then some (setAll is ds env) else none
  | none => none
def TgOk (K : PySem.W.Frag) (G : Cl) (g : TG) (s : TgM) : Prop := ∀ {ρ : List Addr} {H : Hp} {h : Hh} {σ : L2.St} {env env' : Ev} {v : V} {d : D} {Q : L2.St → Hp → Prop}, Rh K G ρ H h → Re K ρ H σ env → Rv K ρ H v d → s d h env = some env' → (∀ σ', Re K ρ H σ' env' → Q σ' H) → g v σ H Q
def sUnp (g : TgM) (m : M) : S := fun env h => bindS (m env h) env fun d h1 => match g d h1 env with
  | some env' => .nx env' h1
  | none => .bad
theorem PG.or {X : Cx} {tg : Expr} {t u : TG} (h1 : PG X tg t) (h2 : PG X tg u) : PG X tg (fun v σ H Q => t v σ H Q ∨ u v σ H Q) := ⟨fun pins s σ H v u Q I r q => by
  rcases q with q | q
  · exact h1.run pins s σ H v u Q I r q
  · exact h2.run pins s σ H v u Q I r q⟩
/-- the readings of names, one after another -/
def gNames : List Nat → TGs
  | [] => gNil
  | i :: is => gCons (gName i) (gNames is)
section
variable {X : Cx} {G : Cl} {W : WX} {e a b c tg : Expr} {es : List Expr} {st : Stmt} {pos : Pos} {m : M} {K : PySem.W.Frag}
theorem tg_name {i : Nat} : TgOk K G (gName i) (gtName i) := fun {ρ H h σ env env' v d Q} hr he r e k => by
  cases e
  exact k _ (he.set r i)
theorem names_imp {ρ : List Addr} {H : Hp} : ∀ {is : List Nat} {vs : List V} {ds : List D} {σ : L2.St} {env : Ev} {Q : L2.St → Hp → Prop}, ds.length = is.length → Re K ρ H σ env → Rvs K ρ H vs ds → (∀ σ', Re K ρ H σ' (setAll is ds env) → Q σ' H) → gNames is vs σ H Q
  | [], _, [], σ, env, Q, _, he, .nil, k => ⟨rfl, k σ he⟩
  | i :: is, _, d :: ds, σ, env, Q, l, he, .cons (v := v) (vs := vs) r rs, k => ⟨v, vs, rfl, names_imp (is := is) (by simpa using l) (he.set r i) rs k⟩
theorem tg_tup {is : List Nat} {n : Nat} (hn : n = is.length) : TgOk K G (fun v σ H Q => gTup K n (gNames is) v σ H Q ∨ gLst K n (gNames is) v σ H Q) (gtTup is) := fun {ρ H h σ env env' v d Q} hr he r e k => by
  unfold gtTup at e
  split at e
  · rename_i ds e1
    split at e
    · rename_i hl
      cases e
      unfold partsOf at e1
      split at e1
      · cases e1
        obtain ⟨a, vs, rfl, t, r⟩ := r.sqT
        exact .inl ⟨a, vs, rfl, t, by rw [r.length, hl, hn], names_imp hl he r k⟩
      · cases e1
        cases r with
        | fls t r => exact .inr ⟨_, _, rfl, t.sq, by rw [r.length, hl, hn], names_imp hl he r k⟩
      · cases r with
        | ref ra =>
          split at e1
          · rename_i e0
            cases e1
            obtain ⟨vs, q, r⟩ := ref_seq hr ra e0
            exact .inr ⟨_, vs, rfl, q, by rw [r.length, hl, hn], names_imp hl he r k⟩
          · cases e1
      · cases e1
    · cases e
  · cases e
theorem pgn_nil : PGs X [] (gNames []) := pgs_nil
theorem pgn_cons {i : Nat} {is : List Nat} {x : Str} {p : Pos} (hN : X.N.Nodup) (h2 : PGs X es (gNames is)) (hi : X.N[i]? = some x := by rfl) (hx : Loc X.env.scope x := by first | exact Or.inl rfl | exact Or.inr rfl) (hf : X.fn x = true ∨ X.env.scope.names.lookup x = some .local := by first | exact .inl rfl | exact .inr rfl)
    (hs : (assignEach (.Name x p :: es) X.env).map (·.2) = assign (.Name x p) X.env :: (assignEach es X.env).map (·.2) := by rfl) : PGs X (.Name x p :: es) (gNames (i :: is)) := pgs_cons (pg_name hN hi hx hf) h2 hs
theorem pgn_tup {is : List Nat} {k : Nat} (hc : X.calm = true) (h : PGs X es (gNames is)) (hn : (assignEach es X.env).length = is.length := by rfl) (hst : (assignEach es X.env).findIdx? (·.1) = none := by rfl) :
    PG X (.Tuple es k pos) (fun v σ H Q => gTup X.K is.length (gNames is) v σ H Q ∨ gLst X.K is.length (gNames is) v σ H Q) := PG.or (pg_tup hc h hn hst) (pg_lst hc h hn hst)
theorem s_unp {g : TG} {s : TgM} (ha : PE X a (tM X.K G W m)) (hg : PG X tg g) (ok : TgOk X.K G g s) (hs : swapsWithSole [tg] a pos.line X.env = pure false := by rfl) (hw : swappedStores [tg] a X.env = pure none := by rfl)
    (h1 : (assignEach [tg] X.env).map (·.2) = [assign tg X.env] := by rfl) : PS X (.Assign [tg] a pos) (tS X.K G W (sUnp s m)) := psImp (ps_asg ha hg hs hw h1) fun D0 σ H t => by
  obtain ⟨ρ, h, env, hr, he, p⟩ := t
  refine tG_mono (tS_bind (rel := relV X.K) hr he p) fun x H1 ⟨ρ1, h1, d, e1, hr1, he1, r1, p1⟩ => ?_
  dsimp only at p1
  cases q : s d h1 env with
  | none => rw [q] at p1; exact p1.elim
  | some env' =>
    rw [q] at p1
    exact ok hr1 he1 r1 q fun σ' he' => p1.nx_ hr1 he'
end

/-! ### for -/
/-- what a loop walks: its items, and the object that must stand still meanwhile -/
abbrev Src := List D × Option (Nat × O)
@[simp] def gdOk (gd : Option (Nat × O)) (h : Hh) : Prop := match gd with
  | none => True
  | some (n, o) => h[n]? = some o
open Classical in
noncomputable def forL (g : TgM) (body : S) (gd : Option (Nat × O)) : List D → Ev → Hh → SR
  | [], env, h => if gdOk gd h then .nx env h else .bad
  | x :: xs, env, h => if gdOk gd h then (match g x h env with
    | none => .bad
    | some env1 => match body env1 h with
      | .nx e' h' => forL g body gd xs e' h'
      | .ct e' h' => forL g body gd xs e' h'
      | .bk e' h' => .nx e' h'
      | r => r) else .bad
noncomputable def sFor (mi : Ev → Hh → R Src) (g : TgM) (body : S) : S := fun env h => bindS (mi env h) env fun src h1 => forL g body src.2 src.1 env h1
/-- what an iterator must do for its items -/
structure Walks (K : PySem.W.Frag) (G : Cl) (ρ0 : List Addr) (H0 : Hp) (J : It) (xs : List D) (gd : Option (Nat × O)) : Prop where
  go : ∀ (i : Nat) (ρ : List Addr) (H : Hp) (h : Hh), Rh K G ρ H h → Ex K ρ0 H0 ρ H → gdOk gd h → i < xs.length → J.go i H
  yld : ∀ (i : Nat) (ρ : List Addr) (H : Hp) (h : Hh) (x : V) (H' : Hp), Rh K G ρ H h → Ex K ρ0 H0 ρ H → gdOk gd h → J.yld i H x H' → ∀ d, xs[i]? = some d → H' = H ∧ Rv K ρ H x d
  stop : ∀ (ρ : List Addr) (H : Hp) (h : Hh), Rh K G ρ H h → Ex K ρ0 H0 ρ H → gdOk gd h → J.stop xs.length H
/-- an iterable's reading and its items -/
def ItOk (K : PySem.W.Frag) (G : Cl) (W : WX) (wi : TI) (mi : Ev → Hh → R Src) : Prop := ∀ (σ : L2.St) (H : Hp) (R : It → Hp → Prop),
  tG K G (fun ρ H (J : It) (s : Src) => Walks K G ρ H J s.1 s.2) W mi σ H R → wi σ H R
section
variable {X : Cx} {G : Cl} {W : WX} {e a b c tg iter : Expr} {es : List Expr} {st : Stmt} {body : List Stmt} {pos : Pos} {m : M} {K : PySem.W.Frag} {ρ : List Addr} {H : Hp} {h : Hh} {σ : L2.St} {env : Ev} {D0 : Ends}
theorem for_sound {J : It} {xs : List D} {gd : Option (Nat × O)} {g : TG} {s : TgM} {sb : S} (w : Walks K G ρ H J xs gd) (ok : TgOk K G g s) (hr : Rh K G ρ H h) (he : Re K ρ H σ env) (p : PoS K G W ρ H D0 (forL s sb gd xs env h)) :
    ∃ W' : Nat → Nat → L2.St → Hp → Prop, (∃ m, W' 0 m σ H) ∧ ∀ i m σ H, W' i m σ H →
      (J.stop i H ∧ D0.nx σ H) ∨ (J.go i H ∧ ∃ N : L2.St → Hp → Prop, (∀ σ' H', N σ' H' → ∃ m', m' < m ∧ W' (i + 1) m' σ' H') ∧ ∀ x H', J.yld i H x H' → g x σ H' fun σ2 H2 => tS K G W sb { D0 with nx := N, ct := N, bk := D0.nx } σ2 H2) := by
  refine ⟨fun i m σ' H' => i ≤ xs.length ∧ m = xs.length - i ∧ ∃ ρ' h' env', Ex K ρ H ρ' H' ∧ Rh K G ρ' H' h' ∧ Re K ρ' H' σ' env' ∧ PoS K G W ρ' H' D0 (forL s sb gd (xs.drop i) env' h'), ⟨_, Nat.zero_le _, rfl, ρ, h, env, Ex.refl, hr, he, p⟩, ?_⟩
  rintro i m σ1 H1 ⟨hi, rfl, ρ1, h1, env1, e1, hr1, he1, p1⟩
  by_cases hlt : i < xs.length
  · rw [List.drop_eq_getElem_cons hlt] at p1
    unfold forL at p1
    split at p1
    · rename_i hg
      refine .inr ⟨w.go i ρ1 H1 h1 hr1 e1 hg hlt, fun σ' H' => ∃ ρ' h' env', Ex K ρ1 H1 ρ' H' ∧ Rh K G ρ' H' h' ∧ Re K ρ' H' σ' env' ∧ PoS K G W ρ' H' D0 (forL s sb gd (xs.drop (i + 1)) env' h'), fun σ' H' ⟨ρ', h', env', e', hr', he', p'⟩ => ⟨_, by omega, hlt, rfl, ρ', h', env', e1.trans e', hr', he', p'⟩, fun x H' y => ?_⟩
      obtain ⟨rfl, rx⟩ := w.yld i ρ1 H1 h1 x H' hr1 e1 hg y xs[i] (by simp [hlt])
      split at p1
      · exact p1.elim
      · rename_i env2 q2
        refine ok hr1 he1 rx q2 fun σ2 he2 => ⟨ρ1, h1, env2, hr1, he2, ?_⟩
        cases q : sb env2 h1 with
        | nx e' h' => rw [q] at p1; exact fun ρ' H' σ' e a b => ⟨ρ', h', e', e, a, b, PoS.shift p1 e⟩
        | ct e' h' => rw [q] at p1; exact fun ρ' H' σ' e a b => ⟨ρ', h', e', e, a, b, PoS.shift p1 e⟩
        | bk e' h' => rw [q] at p1; exact p1
        | rt d h' => rw [q] at p1; exact p1
        | exc c fs e' h' => rw [q] at p1; exact p1
        | bad => rw [q] at p1; exact p1
    · exact p1.elim
  · have hl : i = xs.length := by omega
    subst hl
    rw [List.drop_length] at p1
    unfold forL at p1
    split at p1
    · rename_i hg
      exact .inl ⟨w.stop ρ1 H1 h1 hr1 e1 hg, p1.nx_ hr1 he1⟩
    · exact p1.elim
theorem s_for {wi : TI} {mi : Ev → Hh → R Src} {g : TG} {s : TgM} {sb : S} (hp : PassesOwn (model X.prog X.w) X.A X.env X.xe) (hc : X.calm = true) (hi : PI X tg iter wi) (oi : ItOk X.K G W wi mi) (hg : PG X tg g) (ok : TgOk X.K G g s) (hb : PSs X body (tS X.K G W sb))
    (hs : ∀ x, foldedSetIterable iter X.env x = pure x := by intro _; rfl) : PS X (.For tg iter body [] pos) (tS X.K G W (sFor mi s sb)) := psImp (ps_for hp hc hi hg hb hs) fun D0 σ H t => by
  obtain ⟨ρ, h, env, hr, he, p⟩ := t
  refine oi σ H _ (tG_mono (tS_bind hr he p) fun J H1 ⟨ρ1, h1, d, e1, hr1, he1, r1, p1⟩ => ?_)
  exact for_sound r1 ok hr1 he1 p1
theorem PI.or {wi wj : TI} (h1 : PI X tg iter wi) (h2 : PI X tg iter wj) : PI X tg iter (fun σ H R => wi σ H R ∨ wj σ H R) := ⟨fun pins s σ H R I q => by
  rcases q with q | q
  · exact h1.run pins s σ H R I q
  · exact h2.run pins s σ H R I q⟩
/-- a tuple or a list as it stands -/
def mSeq (m : M) : Ev → Hh → R Src := fun env h => (m env h).bind fun d h1 => match d with
  | .tup ds => .ok (ds, none) h1
  | .fls ds => .ok (ds, none) h1
  | .ref n => match h1[n]? with
    | some (.lst ds) => .ok (ds, some (n, .lst ds)) h1
    | _ => .bad
  | _ => .bad
theorem walks_tup {a : Addr} {ds : List D} (r : Rv K ρ H (.ref a) (.tup ds)) : Walks K G ρ H (Itt K a) ds none := by
  have get : ∀ {ρ' : List Addr} {H' : Hp}, Ex K ρ H ρ' H' → ∃ vs, SqT K H' a vs ∧ Rvs K ρ' H' vs ds := fun {ρ' H'} e => by
    obtain ⟨a', vs, e1, t, q⟩ := (r.mono e).sqT
    cases e1
    exact ⟨vs, t, q⟩
  refine ⟨fun i ρ' H' h' hr e _ hl => ?_, fun i ρ' H' h' x H2 hr e _ y d hd => ?_, fun ρ' H' h' hr e _ => ?_⟩
  · obtain ⟨vs, t, q⟩ := get e
    have hv : i < vs.length := by rw [q.length]; exact hl
    exact ⟨vs, vs[i], t, by simp [hv]⟩
  · obtain ⟨vs, t, q⟩ := get e
    obtain ⟨rfl, y⟩ := y
    have hx := y vs t
    obtain ⟨d', hd', rv⟩ := q.getV hx
    rw [hd] at hd'
    cases hd'
    exact ⟨rfl, rv⟩
  · obtain ⟨vs, t, q⟩ := get e
    exact ⟨vs, t, by rw [q.length]; exact Nat.le_refl _⟩
theorem walks_get {a : Addr} {ds : List D} {gd : Option (Nat × O)} (get : ∀ {ρ' : List Addr} {H' : Hp} {h' : Hh}, Rh K G ρ' H' h' → Ex K ρ H ρ' H' → gdOk gd h' → ∃ vs, SqL K H' a vs ∧ Rvs K ρ' H' vs ds) : Walks K G ρ H (Itl K a) ds gd := by
  refine ⟨fun i ρ' H' h' hr e g hl => ?_, fun i ρ' H' h' x H2 hr e g y d hd => ?_, fun ρ' H' h' hr e g => ?_⟩
  · obtain ⟨vs, t, q⟩ := get hr e g
    have hv : i < vs.length := by rw [q.length]; exact hl
    exact ⟨vs, vs[i], t, by simp [hv]⟩
  · obtain ⟨vs, t, q⟩ := get hr e g
    obtain ⟨rfl, y⟩ := y
    have hx := y vs t
    obtain ⟨d', hd', rv⟩ := q.getV hx
    rw [hd] at hd'
    cases hd'
    exact ⟨rfl, rv⟩
  · obtain ⟨vs, t, q⟩ := get hr e g
    exact ⟨vs, t, by rw [q.length]; exact Nat.le_refl _⟩
theorem walks_lst {a : Addr} {n : Nat} {ds : List D} (ra : ρ[n]? = some a) : Walks K G ρ H (Itl K a) ds (some (n, .lst ds)) :=
  walks_get fun {ρ' H' h'} hr e g => ref_seq hr (e.pre _ _ ra) g
theorem walks_fls {a : Addr} {ds : List D} (r : Rv K ρ H (.ref a) (.fls ds)) : Walks K G ρ H (Itl K a) ds none :=
  walks_get fun {ρ' H' h'} hr e g => by
    cases r.mono e with
    | fls t r => exact ⟨_, t.sq, r⟩
theorem io_seq : ItOk K G W (fun σ H R => iTup K (tM K G W m) σ H R ∨ iList K (tM K G W m) σ H R) (mSeq m) := fun σ H R0 t => by
  obtain ⟨ρ, h, env, hr, he, p⟩ := t
  unfold mSeq at p
  cases q : m env h with
  | bad => rw [q] at p; exact p.elim
  | exc c fs h' => rw [q] at p; exact .inl ⟨ρ, h, env, hr, he, by rw [q]; exact p⟩
  | ok d h1 =>
    rw [q] at p
    simp only [R.bind_ok] at p
    cases d with
    | tup ds =>
      refine .inl ⟨ρ, h, env, hr, he, ?_⟩
      rw [q]
      intro ρ' H' v e a r
      obtain ⟨x, vs, rfl, t, rs⟩ := r.sqT
      exact ⟨x, rfl, ⟨vs, t⟩, p ρ' H' _ e a (walks_tup r)⟩
    | fls ds =>
      refine .inr ⟨ρ, h, env, hr, he, ?_⟩
      rw [q]
      intro ρ' H' v e a r
      have w := r
      cases r with
      | fls t rs => exact ⟨_, rfl, ⟨_, t.sq⟩, p ρ' H' _ e a (walks_fls w)⟩
    | ref n =>
      dsimp only at p
      split at p
      · rename_i ds e0
        refine .inr ⟨ρ, h, env, hr, he, ?_⟩
        rw [q]
        intro ρ' H' v e a r
        cases r with
        | ref ra =>
          obtain ⟨vs, t, _⟩ := ref_seq a ra e0
          exact ⟨_, rfl, ⟨vs, t⟩, p ρ' H' _ e a (walks_lst ra)⟩
      · exact p.elim
    | _ => exact p.elim
theorem pi_seq (ha : PE X iter (tM X.K G W m)) : PI X tg iter (fun σ H R => iTup X.K (tM X.K G W m) σ H R ∨ iList X.K (tM X.K G W m) σ H R) := PI.or (pi_tup ha) (pi_list ha)
/-- range -/
def rngD (lo : Int) (n : Nat) : List D := (List.range n).map fun (i : Nat) => D.int (lo + (i : Int))
def inR (i : Int) : Bool := Nat.ble i.natAbs 4611686018427387903
def mRng1 (m : M) : Ev → Hh → R Src := fun env h => (m env h).bind fun d h1 => match d with
  | .int j => if inR j = true then .ok (rngD 0 j.toNat, none) h1 else .bad
  | _ => .bad
def mRng2 (ma mb : M) : Ev → Hh → R Src := fun env h => (ma env h).bind fun d h1 => (mb env h1).bind fun e h2 => match d, e with
  | .int i, .int j => if inR i = true ∧ inR j = true then .ok (rngD i (j - i).toNat, none) h2 else .bad
  | _, _ => .bad
theorem walks_rng {lo : Int} {n : Nat} : Walks K G ρ H (Itr lo n) (rngD lo n) none := by
  have hl : (rngD lo n).length = n := by unfold rngD; simp
  refine ⟨fun i ρ' H' h' hr e _ hi => by rw [hl] at hi; exact hi, fun i ρ' H' h' x H2 hr e _ y d hd => ?_, fun ρ' H' h' hr e _ => by rw [hl]; exact Nat.le_refl _⟩
  obtain ⟨rfl, rfl⟩ := y
  unfold rngD at hd
  rw [List.getElem?_map] at hd
  cases q : (List.range n)[i]? with
  | none => rw [q] at hd; cases hd
  | some j =>
    rw [q] at hd
    cases hd
    obtain ⟨h1, h2⟩ := List.getElem?_eq_some_iff.mp q
    simp at h2
    subst h2
    exact ⟨rfl, .int _⟩
theorem inR_of {i : Int} (e : inR i = true) : -(2 ^ 62) ≤ i ∧ i < 2 ^ 62 := by
  have h := Nat.le_of_ble_eq_true e
  omega
theorem io_rng1 : ItOk K G W (iRng1 (tL K G W (evs [m]))) (mRng1 m) := fun σ H R0 t => by
  obtain ⟨ρ, h, env, hr, he, p⟩ := t
  refine ⟨ρ, h, env, hr, he, ?_⟩
  unfold mRng1 at p
  show Po K G _ W ρ H σ ((m env h).bind fun d h1 => (evs [] env h1).bind fun ds h2 => .ok (d :: ds) h2) _
  cases q : m env h with
  | bad => rw [q] at p; exact p.elim
  | exc c fs h' => rw [q] at p; exact p
  | ok d h1 =>
    rw [q] at p
    cases d with
    | int j =>
      simp only [R.bind_ok] at p
      split at p
      · rename_i hj
        intro ρ' H' vs e a b
        cases b with
        | cons b1 b2 =>
          cases b1; cases b2
          exact ⟨j, rfl, (inR_of hj).1, (inR_of hj).2, p ρ' H' _ e a walks_rng⟩
      · exact p.elim
    | _ => exact p.elim
theorem io_rng2 {ma mb : M} : ItOk K G W (iRng2 (tL K G W (evs [ma, mb]))) (mRng2 ma mb) := fun σ H R0 t => by
  obtain ⟨ρ, h, env, hr, he, p⟩ := t
  refine ⟨ρ, h, env, hr, he, ?_⟩
  unfold mRng2 at p
  show Po K G _ W ρ H σ ((ma env h).bind fun d h1 => ((mb env h1).bind fun d2 h2 => (evs [] env h2).bind fun ds h3 => .ok (d2 :: ds) h3).bind fun ds h2 => .ok (d :: ds) h2) _
  cases q : ma env h with
  | bad => rw [q] at p; exact p.elim
  | exc c fs h' => rw [q] at p; exact p
  | ok d h1 =>
    rw [q] at p
    simp only [R.bind_ok] at p ⊢
    cases q2 : mb env h1 with
    | bad => rw [q2] at p; exact p.elim
    | exc c fs h' => rw [q2] at p; exact p
    | ok d2 h2 =>
      rw [q2] at p
      simp only [R.bind_ok] at p ⊢
      split at p
      · rename_i i j
        split at p
        · rename_i hj
          intro ρ' H' vs e a b
          cases b with
          | cons b1 b2 =>
            cases b2 with
            | cons b2 b3 =>
              cases b1; cases b2; cases b3
              exact ⟨i, j, rfl, ⟨(inR_of hj.1).1, (inR_of hj.1).2, (inR_of hj.2).1, (inR_of hj.2).2⟩, p ρ' H' _ e a walks_rng⟩
        · exact p.elim
      · exact p.elim
end

/-! ### while -/
def whileF (t : MT) (body : S) : Nat → Ev → Hh → SR
  | 0, _, _ => .bad
  | n + 1, env, h => bindS (t env h) env fun c h1 => if c = true then (match body env h1 with
    | .nx e' h' => whileF t body n e' h'
    | .ct e' h' => whileF t body n e' h'
    | .bk e' h' => .nx e' h'
    | r => r) else .nx env h1
def sWhile (fuel : Nat) (t : MT) (body : S) : S := fun env h => whileF t body fuel env h
theorem s_while {X : Cx} {G : Cl} {W : WX} {c : Expr} {body : List Stmt} {pos : Pos} {t : MT} {sb : S} (fuel : Nat) (hp : PassesOwn (model X.prog X.w) X.A X.env X.xe) (hc : PT X c (tT X.K G W t)) (hb : PSs X body (tS X.K G W sb)) : PS X (.While c body [] pos) (tS X.K G W (sWhile fuel t sb)) := psImp (ps_while hp hc hb) fun D0 σ H q => by
  obtain ⟨ρ, h, env, hr, he, p⟩ := q
  refine ⟨fun m σ' H' => ∃ ρ' h' env', Rh X.K G ρ' H' h' ∧ Re X.K ρ' H' σ' env' ∧ PoS X.K G W ρ' H' D0 (whileF t sb m env' h'), ⟨fuel, ρ, h, env, hr, he, p⟩, ?_⟩
  rintro m σ1 H1 ⟨ρ1, h1, env1, hr1, he1, p1⟩
  cases m with
  | zero => exact p1.elim
  | succ m =>
    unfold whileF at p1
    refine tG_mono (tS_bind (rel := relB) hr1 he1 p1) fun b H2 ⟨ρ2, h2, d, e2, hr2, he2, r2, p2⟩ => ?_
    subst r2
    cases b with
    | true =>
      refine ⟨fun σ' H' => ∃ ρ' h' env', Rh X.K G ρ' H' h' ∧ Re X.K ρ' H' σ' env' ∧ PoS X.K G W ρ' H' D0 (whileF t sb m env' h'), fun σ' H' w => ⟨m, Nat.lt_succ_self _, w⟩, ⟨ρ2, h2, env1, hr2, he2, ?_⟩⟩
      simp only [if_true] at p2
      cases q : sb env1 h2 with
      | nx e' h' => rw [q] at p2; exact fun ρ' H' σ' e a b => ⟨ρ', h', e', a, b, PoS.shift p2 e⟩
      | ct e' h' => rw [q] at p2; exact fun ρ' H' σ' e a b => ⟨ρ', h', e', a, b, PoS.shift p2 e⟩
      | bk e' h' => rw [q] at p2; exact p2
      | rt d h' => rw [q] at p2; exact p2
      | exc c fs e' h' => rw [q] at p2; exact p2
      | bad => rw [q] at p2; exact p2
    | false => exact p2.nx_ hr2 he2

/-! ### defs -/
abbrev Fm := List D → Hh → R D
def fnM (n : Nat) (body : S) : Fm := fun ds h => match body (ds.map some ++ List.replicate (n - ds.length) none) h with
  | .nx _ h' => .ok .non h'
  | .rt d h' => .ok d h'
  | .exc c fs _ h' => .exc c fs h'
  | _ => .bad
def spM (K : PySem.W.Frag) (G : Cl) (n : Nat) (f : Fm) : Sp := fun vs H Q E => ∃ ρ h ds, Rh K G ρ H h ∧ Rvs K ρ H vs ds ∧ vs.length = n ∧ Po K G (relV K) (fun c d _ H => E c d H) ρ H [] (f ds h) Q
/-- what the rules ask of the place where a body runs -/
structure Ct (X : Cx) (W : WX) (k : Nat) : Prop where
  tk : L2N.Takes X W
  po : PassesOwn (model X.prog X.w) X.A X.env X.xe
  hr : Room k X.A
  hc : X.calm = true
  nd : X.N.Nodup
theorem Ct.hu {X : Cx} {W : WX} {k : Nat} (c : Ct X W k) : X.A.units + 64 < cLine := c.hr.units
theorem Ct.hu1 {X : Cx} {W : WX} {k : Nat} (c : Ct X W k) : X.A.units + 1 < cLine := hu_of c.hr
/-- a def of the text, as its callers know it -/
def Ok (P : Program) (w : World) (K : PySem.W.Frag) (mg : Str → Option Value) (base : Heap) (G : Cl) (j : Nat) (x : Str) (ps : List Str) (fm : Fm) : Prop :=
  ∃ f fd, mg x = some (.ref f) ∧ PySem.W.keepIn K (.ref f) = true ∧ Binds K fd ps [] ∧ FnOk P w K mg base (L2N.CX P w) j f fd ps (spM K G ps.length fm)
def eCall (fm : Fm) (ms : List M) : M := fun env h => (evs ms env h).bind fun ds h1 => fm ds h1
section
variable {P : Program} {w : World} {K : PySem.W.Frag} {mg : Str → Option Value} {base : Heap} {G : Cl}
theorem start_re {ρ : List Addr} {H : Hp} {vs : List V} {ds : List D} {N : List Str} (r : Rvs K ρ H vs ds) : Re K ρ H (L2.start N vs) (ds.map some ++ List.replicate (N.length - ds.length) none) := by
  have hl := r.length
  refine ⟨by unfold L2.start; simp [hl], fun i d e => ?_⟩
  by_cases q : i < ds.length
  · rw [List.getElem?_append_left (by simpa using q), List.getElem?_map] at e
    cases z : ds[i]? with
    | none => rw [z] at e; cases e
    | some d' =>
      rw [z] at e
      cases e
      obtain ⟨v, h1, h2⟩ := r.get z
      refine ⟨v, ?_, h2⟩
      unfold L2.start
      rw [List.getElem?_append_left (by simp; omega), List.getElem?_map, h1]
      rfl
  · rw [List.getElem?_append_right (by simp; omega)] at e
    rw [List.getElem?_replicate] at e
    split at e <;> cases e
theorem okN {x qual : Str} {st : Stmt} {f : Addr} {fd : FuncData} {N ps : List Str} {k : Nat} {sp : Sp} (F : Fun K x qual st f fd) (S : FnScope N ps (defScope st)) (len : ∀ vs H Q E, sp vs H Q E → vs.length = ps.length)
    (hbd : ∀ (cdv : Value) (A : Around) (outer : List Env) (s : Shared) (H : Hp) (vs : List V) (Q : VK) (E : XK), Room k (A.deeper (envOfC qual (defScope st) s.heap.objs.size f cdv)) → sp vs H Q E →
      ∃ t, PSs (cxOf (L2N.CX P w) P w K mg base N qual (defScope st) f cdv A outer s H E) (defBody st) t ∧ t { nx := fun _ H1 => Q .non H1, rt := Q } (L2.start N vs) H) : FnOk P w K mg base (L2N.CX P w) (k + 1) f fd ps sp := by
  obtain ⟨oc, od, kV, doc, pm, an, cdv, ct, osl, rfl, h1, h2⟩ := F.ex
  exact fn_of h1 h2 S len fun A outer s H vs Q E a b => hbd cdv A outer s H vs Q E a b
theorem fn_ok {x qual : Str} {st : Stmt} {f : Addr} {fd : FuncData} {N ps : List Str} {k n np : Nat} {body : S} (hn : N.length = n) (hp : ps.length = np) (F : Fun K x qual st f fd) (S : FnScope N ps (defScope st))
    (hb : ∀ (cdv : Value) (A : Around) (outer : List Env) (s : Shared) (H : Hp) (E : XK), Ct (cxOf (L2N.CX P w) P w K mg base N qual (defScope st) f cdv A outer s H E) (fun c d _ H => E c d H) k →
      PSs (cxOf (L2N.CX P w) P w K mg base N qual (defScope st) f cdv A outer s H E) (defBody st) (tS K G (fun c d _ H => E c d H) body)) : FnOk P w K mg base (L2N.CX P w) (k + 1) f fd ps (spM K G np (fnM n body)) := by
  subst hn hp
  refine okN F S (fun vs H Q E ⟨_, _, _, _, _, l, _⟩ => l) fun cdv A outer s H vs Q E hr ⟨ρ, h, ds, rh, rs, l, p⟩ => ?_
  refine ⟨_, hb cdv A outer s H E ⟨L2N.takes_of rfl rfl rfl rfl, passes_of rfl, hr, rfl, S.nd⟩, ρ, h, _, rh, start_re rs, ?_⟩
  unfold fnM at p
  cases q : body (ds.map some ++ List.replicate (N.length - ds.length) none) h with
  | nx env h' => rw [q] at p; exact fun ρ' H' σ' e a b => p ρ' H' .non e a .non
  | rt d h' => rw [q] at p; exact p
  | exc c fs env h' => rw [q] at p; exact fun ρ' H' σ' d e a b z => p ρ' H' d e a z
  | bk env h' => rw [q] at p; exact p.elim
  | ct env h' => rw [q] at p; exact p.elim
  | bad => rw [q] at p; exact p.elim
end
section
variable {X : Cx} {G : Cl} {W : WX} {e a b c : Expr} {es : List Expr} {pos p : Pos} {ms : List M} {k j : Nat} {x : Str} {ps : List Str} {fm : Fm}
theorem se_call (ct : Ct X W k) (F : Ok X.prog X.w X.K X.mg X.base G j x ps fm) (hj : j ≤ k) (hg : Gl X x) (ha : PA X (e :: es) (tL X.K G W (evs ms))) (hl : ms.length = ps.length := by rfl) (hdb : (x == ("__debug__" : Str)) = false := by decide)
    (he : starEach (e :: es) X.env = (false, eval e X.env) :: starEach es X.env := by rfl) (hpl : (backTo pos (starEach es X.env)).any (·.1) = false := by rfl) : PE X (.Call (.Name x p) (e :: es) [] pos) (tM X.K G W (eCall fm ms)) := by
  obtain ⟨f, fd, hm, hk, hb, F⟩ := F
  refine peImp (pe_callS F (ct.hr.mono hj) hg hm hk hb (fun σ => L2N.passAt ct.tk σ) ha hdb he hpl) fun σ H Q t => ?_
  obtain ⟨ρ, h, env, hr, he, p⟩ := t
  refine ⟨ρ, h, env, hr, he, ?_⟩
  unfold eCall at p
  cases q : evs ms env h with
  | bad => rw [q] at p; exact p
  | exc c fs h' => rw [q] at p; exact p
  | ok ds h1 =>
    rw [q] at p
    simp only [R.bind_ok] at p
    intro ρ' H' vs e1 a1 b1
    refine ⟨ρ', h1, ds, a1, b1, by rw [b1.length, evs_len q, hl], ?_⟩
    have p' := p.shift e1
    cases q2 : fm ds h1 with
    | bad => rw [q2] at p'; exact p'
    | exc c fs h' => rw [q2] at p'; exact p'
    | ok d h' => rw [q2] at p'; exact p'
end
end Sm
/-! SmE: built-in functions, list methods, o[i] = v, dicts. -/
namespace Sm
open PySem L2 PyProof.Rows

section
variable {X : Cx} {G : Cl} {W : WX} {e a b c o : Expr} {es : List Expr} {st : Stmt} {pos p : Pos} {m ma mb mo : M} {ms : List M} {K : PySem.W.Frag} {ρ : List Addr} {H : Hp} {h : Hh} {k : Nat}
theorem Rvs.one {vs : List V} {d : D} (r : Rvs K ρ H vs [d]) : ∃ v, vs = [v] ∧ Rv K ρ H v d := by
  cases r with
  | cons r q => cases q; exact ⟨_, rfl, r⟩
theorem Rvs.two {vs : List V} {d e : D} (r : Rvs K ρ H vs [d, e]) : ∃ v w, vs = [v, w] ∧ Rv K ρ H v d ∧ Rv K ρ H w e := by
  cases r with
  | cons r q =>
    obtain ⟨w, rfl, q2⟩ := q.one
    exact ⟨_, _, rfl, r, q2⟩

/-! ### numbers -/
def opAbs : List D → Hh → Option (D × Hh)
  | [.int i], h => some (.int (if i < 0 then -i else i), h)
  | _, _ => none
theorem im_abs : ImpN K G (fun xs H Q => ∃ i, xs = [.int i] ∧ Q (.int (if i < 0 then -i else i)) H) opAbs := fun {ρ H h xs ds d h' Q} hr rs e k => by
  unfold opAbs at e
  split at e
  · cases e
    obtain ⟨v, rfl, r⟩ := rs.one
    cases r
    exact ⟨_, rfl, k _ _ _ Ex.refl hr (.int _)⟩
  · cases e
def opInt : List D → Hh → Option (D × Hh)
  | [.int i], h => some (.int i, h)
  | [.bl b], h => some (.int (if b = true then 1 else 0), h)
  | _, _ => none
theorem im_int : ImpN K G (fun xs H Q => (∃ i, xs = [.int i] ∧ Q (.int i) H) ∨ ∃ k, xs = [.bl k] ∧ Q (.int (if k then 1 else 0)) H) opInt := fun {ρ H h xs ds d h' Q} hr rs e k => by
  unfold opInt at e
  split at e
  · cases e
    obtain ⟨v, rfl, r⟩ := rs.one
    cases r
    exact .inl ⟨_, rfl, k _ _ _ Ex.refl hr (.int _)⟩
  · cases e
    obtain ⟨v, rfl, r⟩ := rs.one
    cases r
    exact .inr ⟨_, rfl, k _ _ _ Ex.refl hr (.int _)⟩
  · cases e
def opMax : List D → Hh → Option (D × Hh)
  | [.int i, .int j], h => some (.int (if j > i then j else i), h)
  | _, _ => none
theorem im_max : ImpN K G (fun xs H Q => ∃ i j, xs = [.int i, .int j] ∧ Q (.int (if j > i then j else i)) H) opMax := fun {ρ H h xs ds d h' Q} hr rs e k => by
  unfold opMax at e
  split at e
  · cases e
    obtain ⟨v, w, rfl, r, r2⟩ := rs.two
    cases r; cases r2
    exact ⟨_, _, rfl, k _ _ _ Ex.refl hr (.int _)⟩
  · cases e
def opMin : List D → Hh → Option (D × Hh)
  | [.int i, .int j], h => some (.int (if j < i then j else i), h)
  | _, _ => none
theorem im_min : ImpN K G (fun xs H Q => ∃ i j, xs = [.int i, .int j] ∧ Q (.int (if j < i then j else i)) H) opMin := fun {ρ H h xs ds d h' Q} hr rs e k => by
  unfold opMin at e
  split at e
  · cases e
    obtain ⟨v, w, rfl, r, r2⟩ := rs.two
    cases r; cases r2
    exact ⟨_, _, rfl, k _ _ _ Ex.refl hr (.int _)⟩
  · cases e

/-! ### lengths, lists, tuples -/
def opLen : List D → Hh → Option (D × Hh)
  | [.str y], h => if y.length ≤ sizeLine then some (.int y.length, h) else none
  | [.tup ds], h => some (.int ds.length, h)
  | [.fls ds], h => some (.int ds.length, h)
  | [.ref n], h => match h[n]? with
    | some (.lst ds) => some (.int ds.length, h)
    | some (.dK ds) => some (.int ds.length, h)
    | some (.dT ds) => some (.int ds.length, h)
    | _ => none
  | _, _ => none
abbrev rLenAll (K : PySem.W.Frag) : List V → Hp → VK → Prop := fun xs H Q => (∃ x n, xs = [x] ∧ LenV K x H n ∧ Q (.int n) H) ∨ ((∃ a kvs, xs = [V.ref a] ∧ H a = some (.dK kvs) ∧ Q (.int kvs.length) H) ∨ rLenT xs H Q)
theorem call_lenAll : CallR X (.builtin "len") (rLenAll X.K) := call_len.or (call_lenD.or call_len_dT)
theorem im_len : ImpN K G (rLenAll K) opLen := fun {ρ H h xs ds d h' Q} hr rs e k => by
  unfold opLen at e
  split at e
  · split at e
    · cases e
      obtain ⟨v, rfl, r⟩ := rs.one
      cases r
      exact .inl ⟨_, _, rfl, ⟨by assumption, rfl⟩, k _ _ _ Ex.refl hr (.int _)⟩
    · cases e
  · cases e
    obtain ⟨v, rfl, r⟩ := rs.one
    obtain ⟨a, vs, rfl, t, q⟩ := r.sqT
    refine .inl ⟨_, vs.length, rfl, .inr ⟨vs, t, rfl⟩, ?_⟩
    rw [q.length]
    exact k _ _ _ Ex.refl hr (.int _)
  · cases e
    obtain ⟨v, rfl, r⟩ := rs.one
    cases r with
    | @fls a vs _ t q =>
      refine .inl ⟨_, vs.length, rfl, .inl ⟨vs, t.sq, rfl⟩, ?_⟩
      rw [q.length]
      exact k _ _ _ Ex.refl hr (.int _)
  · obtain ⟨v, rfl, r⟩ := rs.one
    cases r with
    | ref ra =>
      split at e
      · rename_i e0
        cases e
        obtain ⟨vs, q, r⟩ := ref_seq hr ra e0
        refine .inl ⟨_, vs.length, rfl, .inl ⟨vs, q, rfl⟩, ?_⟩
        rw [r.length]
        exact k _ _ _ Ex.refl hr (.int _)
      · rename_i e0
        cases e
        have z := hr.at_ ra e0
        cases z with
        | dK q r =>
          refine .inr (.inl ⟨_, _, rfl, q, ?_⟩)
          rw [Paired.length r]
          exact k _ _ _ Ex.refl hr (.int _)
      · rename_i e0
        cases e
        have z := hr.at_ ra e0
        cases z with
        | dT q r =>
          refine .inr (.inr ⟨_, _, rfl, q, ?_⟩)
          rw [Paired.length r]
          exact k _ _ _ Ex.refl hr (.int _)
      · cases e
  · cases e
@[simp] def kD : Key → D
  | .inl i => .int i
  | .inr x => .str x
theorem rv_key (k : Key) : Rv K ρ H (kV k) (kD k) := by
  cases k with
  | inl i => exact .int i
  | inr x => exact .str x
def opList : List D → Hh → Option (D × Hh)
  | [.tup ds], h => some (.ref h.length, h ++ [.lst ds])
  | [.fls ds], h => some (.ref h.length, h ++ [.lst ds])
  | [.ref n], h => match h[n]? with
    | some (.lst ds) => some (.ref h.length, h ++ [.lst ds])
    | some (.dK kvs) => some (.ref h.length, h ++ [.lst (kvs.map fun kv => kD kv.1)])
    | some (.dT kvs) => some (.ref h.length, h ++ [.lst (kvs.map fun kv => .tup (kv.1.map kD))])
    | _ => none
  | _, _ => none
abbrev rListAll (K : PySem.W.Frag) : List V → Hp → VK → Prop := fun xs H Q => (∃ p ys, xs = [.ref p] ∧ (SqL K H p ys ∨ SqT K H p ys) ∧ ∀ l, H l = none → Q (.ref l) (upd H l (.lst ys))) ∨ (rListD xs H Q ∨
  (∃ d kvs, xs = [V.ref d] ∧ Rd H d (.dT kvs) ∧ ∀ p bs, H p = none → IsKeys H kvs bs → Q (.ref p) (upd H p (.lst (bs.map V.ref)))))
theorem call_listAll (hc : X.calm = true) : CallR X (.type "list") (rListAll X.K) := call_list_of.or ((call_list_dK hc).or (call_list_dT hc))
theorem rvs_keys : ∀ {kvs : List (Key × V)} {ds : List (Key × D)}, Paired (fun (p : Key × V) (q : Key × D) => p.1 = q.1 ∧ Rv K ρ H p.2 q.2) kvs ds → Rvs K ρ H (kvs.map fun kv => kV kv.1) (ds.map fun kv => kD kv.1)
  | _, _, .nil => .nil
  | _, _, .cons (l₁ := l1) (l₂ := l2) h t => .cons (by dsimp only; rw [h.1]; exact rv_key _) (rvs_keys t)
theorem rvs_kV : ∀ ks : List Key, Rvs K ρ H (ks.map kV) (ks.map kD)
  | [] => .nil
  | k :: ks => .cons (rv_key k) (rvs_kV ks)
theorem rvs_keysT : ∀ {kvs : List (List Key × V)} {ds : List (List Key × D)} {bs : List Addr}, Paired (fun (p : List Key × V) (q : List Key × D) => p.1 = q.1 ∧ Rv K ρ H p.2 q.2) kvs ds → IsKeys H kvs bs → Rvs K ρ H (bs.map V.ref) (ds.map fun kv => .tup (kv.1.map kD))
  | _, _, _, .nil, .nil => .nil
  | _, _, _, .cons h t, .cons z y => .cons (.tup z (by rw [h.1]; exact rvs_kV _)) (rvs_keysT t y)
theorem im_list : ImpN K G (rListAll K) opList := fun {ρ H h xs ds d h' Q} hr rs e k => by
  unfold opList at e
  split at e
  · cases e
    obtain ⟨v, rfl, r⟩ := rs.one
    obtain ⟨a, vs, rfl, t, q⟩ := r.sqT
    exact .inl ⟨a, vs, rfl, .inr t, new_lst hr q k⟩
  · cases e
    obtain ⟨v, rfl, r⟩ := rs.one
    cases r with
    | fls t q => exact .inl ⟨_, _, rfl, .inl t.sq, new_lst hr q k⟩
  · obtain ⟨v, rfl, r⟩ := rs.one
    cases r with
    | ref ra =>
      split at e
      · rename_i e0
        cases e
        obtain ⟨vs, q, r⟩ := ref_seq hr ra e0
        exact .inl ⟨_, vs, rfl, .inl q, new_lst hr r k⟩
      · rename_i e0
        cases e
        have z := hr.at_ ra e0
        cases z with
        | dK q r => exact .inr (.inl ⟨_, _, rfl, q, new_lst hr (rvs_keys r) k⟩)
      · rename_i e0
        cases e
        have z := hr.at_ ra e0
        cases z with
        | dT q r => exact .inr (.inr ⟨_, _, rfl, .inl q, fun p bs n hb => new_lst hr (rvs_keysT r hb) k p n⟩)
      · cases e
  · cases e
def opTupleOf : List D → Hh → Option (D × Hh)
  | [.tup ds], h => some (.tup ds, h)
  | [.fls ds], h => some (.tup ds, h)
  | [.ref n], h => match h[n]? with
    | some (.lst ds) => some (.tup ds, h)
    | _ => none
  | _, _ => none
theorem im_tuple : ImpN K G (fun xs H Q => ∃ p ys, xs = [.ref p] ∧ ((SqL K H p ys ∧ ∀ l, H l = none → Q (.ref l) (upd H l (.tup ys))) ∨ (SqT K H p ys ∧ Q (.ref p) H))) opTupleOf := fun {ρ H h xs ds d h' Q} hr rs e k => by
  unfold opTupleOf at e
  split at e
  · cases e
    obtain ⟨v, rfl, r⟩ := rs.one
    obtain ⟨a, vs, rfl, t, q⟩ := r.sqT
    exact ⟨a, vs, rfl, .inr ⟨t, k _ _ _ Ex.refl hr r⟩⟩
  · cases e
    obtain ⟨v, rfl, r⟩ := rs.one
    cases r with
    | fls t q => exact ⟨_, _, rfl, .inl ⟨t.sq, new_tup hr q k⟩⟩
  · obtain ⟨v, rfl, r⟩ := rs.one
    cases r with
    | ref ra =>
      split at e
      · rename_i e0
        cases e
        obtain ⟨vs, q, r⟩ := ref_seq hr ra e0
        exact ⟨_, vs, rfl, .inl ⟨q, new_tup hr r k⟩⟩
      · cases e
  · cases e
/-- the ints, rising -/
def sortI (ns : List Int) : List Int := ns.mergeSort (fun a b => decide (a ≤ b))
theorem sortI_perm (ns : List Int) : (sortI ns).Perm ns := List.mergeSort_perm ns _
theorem sortI_pair (ns : List Int) : (sortI ns).Pairwise (· ≤ ·) := by
  have h := List.pairwise_mergeSort (le := fun a b : Int => decide (a ≤ b)) (fun a b c h1 h2 => by simp only [decide_eq_true_eq] at *; omega) (fun a b => by simp only [Bool.or_eq_true, decide_eq_true_eq]; omega) ns
  exact h.imp fun h => by simpa using h
theorem sortI_eq {ns ms : List Int} (hp : ms.Perm ns) (hs : ms.Pairwise (· ≤ ·)) : ms = sortI ns := PySem.W.ksm_same (hp.trans (sortI_perm ns).symm) hs (sortI_pair ns)
def keyInts : List (Key × D) → Option (List Int)
  | [] => some []
  | (.inl i, _) :: r => (keyInts r).map (i :: ·)
  | _ :: _ => none
def opSorted : List D → Hh → Option (D × Hh)
  | [.fls ds], h => match intsOf ds with
    | some ns => some (.ref h.length, h ++ [.lst ((sortI ns).map D.int)])
    | none => none
  | [.ref n], h => match h[n]? with
    | some (.lst ds) => match intsOf ds with
      | some ns => some (.ref h.length, h ++ [.lst ((sortI ns).map D.int)])
      | none => none
    | some (.dK kvs) => match keyInts kvs with
      | some ns => if ns.length < 64 then some (.ref h.length, h ++ [.lst ((sortI ns).map D.int)]) else none
      | none => none
    | _ => none
  | _, _ => none
abbrev rSortedDI : List V → Hp → VK → Prop := fun xs H Q => ∃ (a : Addr) (kvs : List (Key × V)) (ks : List Int), xs = [.ref a] ∧ Rd H a (.dK kvs) ∧ kvs.map (·.1) = ks.map Sum.inl ∧ ks.length < 64 ∧
    ∀ (ys : List Int) (p : Addr), ys.Perm ks → ys.Pairwise (· ≤ ·) → H p = none → Q (.ref p) (upd H p (.lst (ys.map V.int)))
theorem keyInts_eq : ∀ {kvs : List (Key × V)} {ds : List (Key × D)} {ns : List Int}, Paired (fun (p : Key × V) (q : Key × D) => p.1 = q.1 ∧ Rv K ρ H p.2 q.2) kvs ds → keyInts ds = some ns → kvs.map (·.1) = ns.map Sum.inl
  | _, _, ns, .nil, e => by cases e; rfl
  | _, _, ns, .cons (b := (.inl i, y)) h t, e => by
    simp only [keyInts, Option.map_eq_some_iff] at e
    obtain ⟨ms, e1, rfl⟩ := e
    rw [List.map_cons, List.map_cons, keyInts_eq t e1, h.1]
  | _, _, ns, .cons (b := (.inr x, y)) h t, e => by simp [keyInts] at e
theorem im_sorted : ImpN K G (fun xs H Q => rSortedI K xs H Q ∨ rSortedDI xs H Q) opSorted := fun {ρ H h xs ds d h' Q} hr rs e k => by
  unfold opSorted at e
  split at e
  · obtain ⟨v, rfl, r⟩ := rs.one
    cases r with
    | fls t r =>
      split at e
      · rename_i ns e1
        cases e
        have z := intsOf_eq e1
        subst z
        have y := r.ints
        subst y
        refine .inl ⟨_, ns, rfl, t.sq, fun ns' p hp hs hn => ?_⟩
        rw [sortI_eq hp hs]
        exact new_lst hr (Rvs.of_ints _) k p hn
      · cases e
  · obtain ⟨v, rfl, r⟩ := rs.one
    cases r with
    | ref ra =>
      split at e
      · rename_i e0
        split at e
        · rename_i ns e1
          cases e
          have z := intsOf_eq e1
          subst z
          obtain ⟨vs, q, r⟩ := ref_seq hr ra e0
          have y := r.ints
          subst y
          refine .inl ⟨_, ns, rfl, q, fun ns' p hp hs hn => ?_⟩
          rw [sortI_eq hp hs]
          exact new_lst hr (Rvs.of_ints _) k p hn
        · cases e
      · rename_i e0
        split at e
        · rename_i ns e1
          split at e
          · rename_i hl
            cases e
            have z := hr.at_ ra e0
            cases z with
            | dK q r =>
              refine .inr ⟨_, _, ns, rfl, .inl q, keyInts_eq r e1, hl, fun ns' p hp hs hn => ?_⟩
              rw [sortI_eq hp hs]
              exact new_lst hr (Rvs.of_ints _) k p hn
          · cases e
        · cases e
      · cases e
  · cases e

/-! ### isinstance -/
inductive Ty where
  | int | bool | str | tuple | list | dict | none
  deriving DecidableEq
def Ty.name : Ty → String
  | .int => "int" | .bool => "bool" | .str => "str" | .tuple => "tuple" | .list => "list" | .dict => "dict" | .none => "NoneType"
def isT : Ty → Ty → Bool
  | .int, .int => true | .bool, .bool => true | .bool, .int => true | .str, .str => true | .tuple, .tuple => true | .list, .list => true | .dict, .dict => true | .none, .none => true
  | _, _ => false
theorem kit_isT (a b : Ty) (hb : b ≠ .none) : kitB a.name b.name = some (isT a b) := by
  cases a <;> cases b <;> first | (exact absurd rfl hb) | decide +kernel
def tyD : D → Hh → Option Ty
  | .non, _ => some .none
  | .bl _, _ => some .bool
  | .int _, _ => some .int
  | .str _, _ => some .str
  | .tup _, _ => some .tuple
  | .fls _, _ => some .list
  | .ref n, h => match h[n]? with
    | some (.lst _) => some .list
    | some (.dK _) => some .dict
    | some (.dT _) => some .dict
    | _ => none
theorem tyD_ok (hr : Rh K G ρ H h) {v : V} {d : D} {t : Ty} (r : Rv K ρ H v d) (e : tyD d h = some t) : TyX K H v (.type t.name) := by
  cases r with
  | non => cases e; exact .base .non
  | bl b => cases e; exact .base (.bl b)
  | int i => cases e; exact .base (.int i)
  | str x => cases e; exact .base (.str x)
  | tup q _ => cases e; exact .base (.tup q)
  | ktp q _ _ =>
    cases e
    obtain ⟨o, its, n, h1, h2, _⟩ := q
    exact .kTuple h1 h2
  | fls q _ =>
    cases e
    rcases q with ⟨o, q⟩ | ⟨o, its, n, h1, h2, _⟩
    · exact .base (.frz q)
    · exact .kList h1 h2
  | ref ra =>
    simp only [tyD] at e
    split at e
    · rename_i e0
      cases e
      have z := hr.at_ ra e0
      cases z with
      | lst q _ => exact .base (.lst q)
    · rename_i e0
      cases e
      have z := hr.at_ ra e0
      cases z with
      | dK q _ => exact .base (.dK q)
    · rename_i e0
      cases e
      have z := hr.at_ ra e0
      cases z with
      | dT q _ => exact .base (.dT q)
    · cases e
def opIsi (t : Ty) (d : D) (h : Hh) : Option (D × Hh) := (tyD d h).map fun u => (.bl (isT u t), h)
theorem se_isi (t : Ty) {ec : Expr} (hx : PE X e (tM X.K G W m)) (hc : PE X ec (tC (.ty t.name))) (hg : Gl X "isinstance") (hm : X.mg "isinstance" = none) (ht : t ≠ .none := by decide) (h1 : starEach [e, ec] X.env = (false, eval e X.env) :: starEach [ec] X.env := by rfl) (h2 : starEach [ec] X.env = (false, eval ec X.env) :: starEach [] X.env := by rfl)
    (hpl : (backTo pos (starEach [ec] X.env)).any (·.1) = false := by rfl) : PE X (.Call (.Name "isinstance" p) [e, ec] [] pos) (tM X.K G W (eU (opIsi t) m)) :=
  peImp (pe_callB call_isi hg hm boot_isinstance (pa_cons hx (pa_cons hc pa_nil h2) h1) (by decide) (by decide) h1 hpl) fun σ H Q t' => by
    obtain ⟨ρ, h, env, hr, he, p⟩ := t'
    refine tG_mono (tG_bind (rel := relV X.K) hr he p) fun x H1 ⟨ρ1, h1, d, e1, hr1, he1, r1, p1⟩ => ?_
    obtain ⟨d2, h2, eq, k⟩ := p1.opt
    unfold opIsi at eq
    simp only [Option.map_eq_some_iff, Prod.mk.injEq] at eq
    obtain ⟨u, eu, rfl, rfl⟩ := eq
    exact ⟨x, .ty t.name, .type u.name, .type t.name, _, rfl, .ty _, tyD_ok hr1 r1 eu, kit_ty (kit_isT u t ht), k _ _ _ Ex.refl hr1 (.bl _)⟩
theorem se_ty {x : Str} {T : String} (hg : Gl X x) (hm : X.mg x = none) (hv : bootBuiltins x = some (.type T)) (hn : x ≠ "__name__" := by decide) (hd : (x == ("__debug__" : Str)) = false := by decide) : PE X (.Name x pos) (tC (.ty T)) := pe_bltn hg hm hv rfl hn hd

/-! ### methods of lists -/
def isL (d : D) (h : Hh) : Bool := match d with
  | .ref n => match h[n]? with
    | some (.lst _) => true
    | _ => false
  | _ => false
def eMt (f : D → List D → Hh → Option (D × Hh)) (mo : M) (ms : List M) : M := fun env h => (mo env h).bind fun o h1 => if isL o h1 = true then (evs ms env h1).bind fun ds h2 => R.opt (f o ds h2) else .bad
def ImpM (K : PySem.W.Frag) (G : Cl) (r : V → List V → Hp → VK → Prop) (f : D → List D → Hh → Option (D × Hh)) : Prop := ∀ {ρ : List Addr} {H : Hp} {h : Hh} {x : V} {o : D} {xs : List V} {ds : List D} {d : D} {h' : Hh} {Q : VK}, Rh K G ρ H h → Rv K ρ H x o → Rvs K ρ H xs ds → f o ds h = some (d, h') →
  (∀ ρ' H' v, Ex K ρ H ρ' H' → Rh K G ρ' H' h' → Rv K ρ' H' v d → Q v H') → r x xs H Q
theorem isL_ok (hr : Rh K G ρ H h) {v : V} {d : D} (r : Rv K ρ H v d) (e : isL d h = true) : tyV K "list" v H := by
  cases d with
  | ref n =>
    cases r with
    | ref ra =>
      simp only [isL] at e
      split at e
      · rename_i e0
        obtain ⟨vs, q, _⟩ := ref_lst hr ra e0
        exact .inl ⟨rfl, vs, SqL.of q⟩
      · cases e
  | _ => cases e
theorem mt_imp {r : V → List V → Hp → VK → Prop} {f : D → List D → Hh → Option (D × Hh)} (i : ImpM X.K G r f) (σ : L2.St) (H : Hp) (Q : VK) (t : tM X.K G W (eMt f mo ms) σ H Q) : tBM X.K "list" r (tM X.K G W mo) (tL X.K G W (evs ms)) σ H Q := by
  obtain ⟨ρ, h, env, hr, he, p⟩ := t
  refine tG_mono (tG_bind (rel := relV X.K) hr he p) fun x H1 ⟨ρ1, h1, d, e1, hr1, he1, r1, p1⟩ => ?_
  dsimp only at p1
  split at p1
  · rename_i hl
    refine ⟨isL_ok hr1 r1 hl, tG_mono (tG_bind (rel := relVs X.K) hr1 he1 p1) fun xs H2 ⟨ρ2, h2, ds, e2, hr2, he2, r2, p2⟩ => ?_⟩
    obtain ⟨d3, h3, eq, k⟩ := p2.opt
    exact i hr2 (r1.mono e2) r2 eq k
  · exact p1.elim
theorem mt0_imp {r : V → List V → Hp → VK → Prop} {f : D → List D → Hh → Option (D × Hh)} (i : ImpM X.K G r f) (σ : L2.St) (H : Hp) (Q : VK) (t : tM X.K G W (eMt f mo []) σ H Q) : tBM0 X.K "list" r (tM X.K G W mo) σ H Q := by
  obtain ⟨ρ, h, env, hr, he, p⟩ := t
  refine tG_mono (tG_bind (rel := relV X.K) hr he p) fun x H1 ⟨ρ1, h1, d, e1, hr1, he1, r1, p1⟩ => ?_
  dsimp only at p1
  split at p1
  · rename_i hl
    refine ⟨isL_ok hr1 r1 hl, ?_⟩
    have p2 : Po X.K G (relV X.K) W ρ1 H1 σ (R.opt (f d [] h1)) Q := p1
    obtain ⟨d3, h3, eq, k⟩ := p2.opt
    exact i hr1 r1 .nil eq k
  · exact p1.elim
def opAppend : D → List D → Hh → Option (D × Hh)
  | .ref n, [y], h => match h[n]? with
    | some (.lst xs) => if xs.length < sizeLine then some (.non, h.set n (.lst (xs ++ [y]))) else none
    | _ => none
  | _, _, _ => none
/-- a list is written -/
theorem wr_lst {n : Nat} {a : Addr} {ds ds' : List D} {vs' : List V} {v : V} {d : D} {Q : VK} (hr : Rh K G ρ H h) (ra : ρ[n]? = some a) (e : h[n]? = some (.lst ds)) (r : Rvs K ρ H vs' ds') (rv : Rv K ρ H v d)
    (k : ∀ ρ' H' v, Ex K ρ H ρ' H' → Rh K G ρ' H' (h.set n (.lst ds')) → Rv K ρ' H' v d → Q v H') : Q v (upd H a (.lst vs')) :=
  have e1 : Ex K ρ H ρ (upd H a (.lst vs')) := Ex.write hr ra e
  k ρ _ _ e1 (hr.write ra e (.lst upd_same (r.mono e1))) (rv.mono e1)
theorem im_append : ImpM K G rAppend opAppend := fun {ρ H h x o xs ds d h' Q} hr ro rs e k => by
  unfold opAppend at e
  split at e
  · cases ro with
    | ref ra =>
      obtain ⟨v, rfl, r⟩ := rs.one
      split at e
      · rename_i zs e0
        split at e
        · rename_i hl
          cases e
          obtain ⟨vs, q, r2⟩ := ref_lst hr ra e0
          exact ⟨_, vs, v, rfl, rfl, q, by rw [r2.length]; exact hl, wr_lst hr ra e0 (r2.append (.cons r .nil)) .non k⟩
        · cases e
      · cases e
  · cases e
def opPop : D → List D → Hh → Option (D × Hh)
  | .ref n, [], h => match h[n]? with
    | some (.lst xs) => match xs[xs.length - 1]? with
      | some y => some (y, h.set n (.lst xs.dropLast))
      | none => none
    | _ => none
  | _, _, _ => none
theorem im_pop : ImpM K G rPop opPop := fun {ρ H h x o xs ds d h' Q} hr ro rs e k => by
  unfold opPop at e
  split at e
  · cases ro with
    | ref ra =>
      cases rs
      split at e
      · rename_i zs e0
        split at e
        · rename_i y ey
          cases e
          obtain ⟨vs, q, r2⟩ := ref_lst hr ra e0
          obtain ⟨v, hv, rv⟩ := r2.get ey
          exact ⟨_, vs, v, rfl, rfl, q, by rw [r2.length]; exact hv, wr_lst hr ra e0 r2.dropLast rv k⟩
        · cases e
      · cases e
  · cases e
theorem se_append (ho : PE X o (tM X.K G W mo)) (ha : PA X (e :: es) (tL X.K G W (evs ms))) {apos : Pos} (hbase : attributeBase o "append" X.env (eval o X.env) = eval o X.env := by rfl)
    (hfew : ((backTo pos (starEach (e :: es) X.env)).all (fun x => !x.1) && (backToKw pos (keywordEach [] X.env)).all (fun x => x.1.isSome)
      && decide ((e :: es).length + ([] : List Keyword).length + (if ([] : List Keyword).isEmpty then 0 else 1) < 30)) = true := by rfl)
    (hline : (apos.endLine == pos.line) = true := by rfl) (hs : starEach (e :: es) X.env = (false, eval e X.env) :: starEach es X.env := by rfl) (hplain : (backTo pos (starEach es X.env)).any (·.1) = false := by rfl) :
    PE X (.Call (.Attribute o "append" apos) (e :: es) [] pos) (tM X.K G W (eMt opAppend mo ms)) :=
  peImp (pe_bm PySem.F.plainAttrs_list PySem.F.slot_list_append PySem.F.type_list_append mt_append ho ha hbase hfew hline hs hplain) fun σ H Q t => mt_imp im_append σ H Q t
theorem se_pop (ho : PE X o (tM X.K G W mo)) {apos : Pos} (hbase : attributeBase o "pop" X.env (eval o X.env) = eval o X.env := by rfl) (hline : (apos.endLine == pos.line) = true := by rfl) :
    PE X (.Call (.Attribute o "pop" apos) [] [] pos) (tM X.K G W (eMt opPop mo [])) :=
  peImp (pe_bm0 PySem.F.plainAttrs_list PySem.F.slot_list_pop PySem.F.type_list_pop mt_pop ho hbase hline) fun σ H Q t => mt0_imp im_pop σ H Q t

/-! ### o[i] = v -/
@[simp] def keyOf : D → Option Key
  | .int i => some (.inl i)
  | .str x => some (.inr x)
  | _ => none
@[simp] def keysOf : List D → Option (List Key)
  | [] => some []
  | d :: ds => match keyOf d, keysOf ds with
    | some k, some ks => some (k :: ks)
    | _, _ => none
def putP {κ : Type} [DecidableEq κ] (kvs : List (κ × D)) (k : κ) (v : D) : List (κ × D) :=
  if (kvs.any fun kv => decide (kv.1 = k)) = true then kvs.map (fun kv => if kv.1 = k then (kv.1, v) else kv) else kvs ++ [(k, v)]
def valP {κ : Type} [DecidableEq κ] (kvs : List (κ × D)) (k : κ) : Option D := (kvs.find? fun kv => decide (kv.1 = k)).map (·.2)
theorem keyOf_eq {d : D} {k : Key} (e : keyOf d = some k) : d = kD k := by
  cases d with
  | int i => cases e; rfl
  | str x => cases e; rfl
  | _ => cases e
theorem keysOf_eq : ∀ {ds : List D} {ks : List Key}, keysOf ds = some ks → ds = ks.map kD
  | [], ks, e => by cases e; rfl
  | d :: ds, ks, e => by
    simp only [keysOf] at e
    split at e
    · rename_i k ks' e1 e2
      cases e
      rw [keyOf_eq e1, keysOf_eq e2]
      rfl
    · cases e
theorem rv_keyD {v : V} {k : Key} (r : Rv K ρ H v (kD k)) : v = kV k := by
  cases k with
  | inl i => cases r; rfl
  | inr x => cases r; rfl
theorem rvs_keyD : ∀ {vs : List V} {ks : List Key}, Rvs K ρ H vs (ks.map kD) → vs = ks.map kV
  | _, [], .nil => rfl
  | _, k :: ks, .cons r rs => by rw [rv_keyD r, rvs_keyD rs]; rfl
theorem any_rel {κ : Type} [DecidableEq κ] {k : κ} : ∀ {kvs : List (κ × V)} {ds : List (κ × D)}, Paired (fun (p : κ × V) (q : κ × D) => p.1 = q.1 ∧ Rv K ρ H p.2 q.2) kvs ds → (kvs.any fun kv => decide (kv.1 = k)) = ds.any fun kv => decide (kv.1 = k)
  | _, _, .nil => rfl
  | _, _, .cons h t => by rw [List.any_cons, List.any_cons, any_rel t, h.1]
theorem map_rel {κ : Type} [DecidableEq κ] {k : κ} {v : V} {d : D} (rv : Rv K ρ H v d) : ∀ {kvs : List (κ × V)} {ds : List (κ × D)}, Paired (fun (p : κ × V) (q : κ × D) => p.1 = q.1 ∧ Rv K ρ H p.2 q.2) kvs ds →
    Paired (fun (p : κ × V) (q : κ × D) => p.1 = q.1 ∧ Rv K ρ H p.2 q.2) (kvs.map fun kv => if kv.1 = k then (kv.1, v) else kv) (ds.map fun kv => if kv.1 = k then (kv.1, d) else kv)
  | _, _, .nil => .nil
  | _, _, .cons h t => by
    refine .cons ?_ (map_rel rv t)
    dsimp only
    rw [h.1]
    split
    · exact ⟨rfl, rv⟩
    · exact h
theorem app_rel {α β : Type} {F : α → β → Prop} : ∀ {l₁ : List α} {l₂ : List β} {a : α} {b : β}, Paired F l₁ l₂ → F a b → Paired F (l₁ ++ [a]) (l₂ ++ [b])
  | _, _, _, _, .nil, h => .cons h .nil
  | _, _, _, _, .cons r t, h => .cons r (app_rel t h)
theorem put_rel {κ : Type} [DecidableEq κ] {k : κ} {v : V} {d : D} {kvs : List (κ × V)} {ds : List (κ × D)} (rv : Rv K ρ H v d) (r : Paired (fun (p : κ × V) (q : κ × D) => p.1 = q.1 ∧ Rv K ρ H p.2 q.2) kvs ds) :
    Paired (fun (p : κ × V) (q : κ × D) => p.1 = q.1 ∧ Rv K ρ H p.2 q.2) (putK kvs k v) (putP ds k d) := by
  unfold putK putP
  rw [any_rel r]
  split
  · exact map_rel rv r
  · exact app_rel r ⟨rfl, rv⟩
def opSetIx : D → D → D → Hh → Option Hh
  | .ref n, .tup ds, v, h => match h[n]? with
    | some (.dT kvs) => match keysOf ds with
      | some ks => if isK ds = false ∧ kvs.length < sizeLine then some (h.set n (.dT (putP kvs ks v))) else none
      | none => none
    | _ => none
  | .ref n, i, v, h => match h[n]? with
    | some (.lst xs) => match i with
      | .int i => (ixN xs.length i).map fun j => h.set n (.lst (xs.set j v))
      | _ => none
    | some (.dK kvs) => match keyOf i with
      | some k => if kvs.length < sizeLine then some (h.set n (.dK (putP kvs k v))) else none
      | none => none
    | _ => none
  | _, _, _, _ => none
theorem PSet.or {t t' : TSet} (h1 : PSet X t) (h2 : PSet X t') : PSet X (fun o i v H Q => t o i v H Q ∨ t' o i v H Q) := fun pins s σ H o i v ov iv u Q I ro ri rv q => by
  rcases q with q | q
  · exact h1 pins s σ H o i v ov iv u Q I ro ri rv q
  · exact h2 pins s σ H o i v ov iv u Q I ro ri rv q
theorem im_setIx {x y z : V} {o i v : D} {h' : Hh} {Q : Hp → Prop} (hr : Rh K G ρ H h) (ro : Rv K ρ H x o) (ri : Rv K ρ H y i) (rv : Rv K ρ H z v) (e : opSetIx o i v h = some h') (k : ∀ H', Ex K ρ H ρ H' → Rh K G ρ H' h' → Q H') : rSetL x y z H Q ∨ rSetD x y z H Q := by
  unfold opSetIx at e
  split at e
  · cases ro with
    | ref ra =>
      split at e
      · rename_i kvs e0
        split at e
        · rename_i ks e1
          split at e
          · rename_i hl
            cases e
            have zz := keysOf_eq e1
            subst zz
            have q := hr.at_ ra e0
            cases q with
            | @dT vkvs _ q r =>
              cases ri with
              | tup t rk =>
                have ek := rvs_keyD rk
                subst ek
                have e1 := Ex.write (K := K) (u := .dT (putK vkvs ks z)) hr ra e0
                refine .inr ⟨_, _, rfl, DPut.t q t (by rw [Paired.length r]; exact hl.2), k _ e1 (hr.write ra e0 (.dT upd_same ?_))⟩
                exact Paired.mapP (put_rel rv r) fun _ _ z => ⟨z.1, z.2.mono e1⟩
              | ktp _ f _ => rw [hl.1] at f; cases f
          · cases e
        · cases e
      · cases e
  · cases ro with
    | ref ra =>
      split at e
      · rename_i xs e0
        split at e
        · simp only [Option.map_eq_some_iff] at e
          obtain ⟨j, ej, rfl⟩ := e
          cases ri
          obtain ⟨vs, q, r⟩ := ref_lst hr ra e0
          have e1 := Ex.write (K := K) (u := .lst (vs.set j z)) hr ra e0
          exact .inl ⟨_, vs, _, j, rfl, rfl, q, by rw [r.length]; exact ej, k _ e1 (hr.write ra e0 (.lst upd_same ((r.set rv j).mono e1)))⟩
        · cases e
      · rename_i kvs e0
        split at e
        · rename_i kk e1
          split at e
          · rename_i hl
            cases e
            have zz := keyOf_eq e1
            subst zz
            have q := hr.at_ ra e0
            cases q with
            | @dK vkvs _ q r =>
              have ek := rv_keyD ri
              subst ek
              have e1 := Ex.write (K := K) (u := .dK (putK vkvs kk z)) hr ra e0
              refine .inr ⟨_, _, rfl, DPut.k q (by rw [Paired.length r]; exact hl), k _ e1 (hr.write ra e0 (.dK upd_same ?_))⟩
              exact Paired.mapP (put_rel rv r) fun _ _ z => ⟨z.1, z.2.mono e1⟩
          · cases e
        · cases e
      · cases e
  · cases e
def sSetIx (mo mi mv : M) : S := fun env h => bindS (mv env h) env fun v h1 => bindS (mo env h1) env fun o h2 => bindS (mi env h2) env fun i h3 => match opSetIx o i v h3 with
  | some h' => .nx env h'
  | none => .bad
theorem s_setIx {mv : M} {value i : Expr} {pos' : Pos} (hu : X.A.units + 1 < cLine) (ho : PE X o (tM X.K G W mo)) (hi : PE X i (tM X.K G W m)) (hv : PE X value (tM X.K G W mv))
    (ha : ∀ v, assign (.Subscript o i pos') X.env v = (do
      let ov ← holding [v] (eval o X.env)
      let iv ← holding [v, ov] (eval i X.env)
      standAt pos'
      holding [v, ov, iv] (setItem ov iv v)
      release [v, ov, iv] []) := by intro _; rfl)
    (hs : swapsWithSole [.Subscript o i pos'] value pos.line X.env = pure false := by rfl) (hw : swappedStores [.Subscript o i pos'] value X.env = pure none := by rfl)
    (h1 : (assignEach [.Subscript o i pos'] X.env).map (·.2) = [assign (.Subscript o i pos') X.env] := by rfl) : PS X (.Assign [.Subscript o i pos'] value pos) (tS X.K G W (sSetIx mo m mv)) :=
  psImp (ps_asg hv (pg_sub ho hi (PSet.or set_list (set_dict hu)) ha) hs hw h1) fun D0 σ H t => by
    obtain ⟨ρ, h, env, hr, he, p⟩ := t
    refine tG_mono (tS_bind (rel := relV X.K) hr he p) fun z H1 ⟨ρ1, h1, v, e1, hr1, he1, r1, p1⟩ => ?_
    refine tG_mono (tS_bind (rel := relV X.K) hr1 he1 p1) fun x H2 ⟨ρ2, h2, o, e2, hr2, he2, r2, p2⟩ => ?_
    refine tG_mono (tS_bind (rel := relV X.K) hr2 he2 p2) fun y H3 ⟨ρ3, h3, i, e3, hr3, he3, r3, p3⟩ => ?_
    dsimp only at p3
    split at p3
    · rename_i h' eq
      exact im_setIx hr3 (r2.mono e3) r3 ((r1.mono e2).mono e3) eq fun H' e' hr' => p3 ρ3 H' σ e' hr' (he3.mono e')
    · exact p3.elim
/-- {} -/
def eDK : M := fun _ h => .ok (.ref h.length) (h ++ [.dK []])
def eDT : M := fun _ h => .ok (.ref h.length) (h ++ [.dT []])
theorem se_dK : PE X (.Dict [] [] pos) (tM X.K G W eDK) := peImp pe_dnewK fun σ H Q t => by
  obtain ⟨ρ, h, env, hr, he, p⟩ := t
  exact fun q n => p (ρ ++ [q]) _ _ (Ex.push n) (hr.new n (.dK upd_same .nil)) (.ref (by rw [← hr.len]; exact get_push_eq))
theorem se_dT : PE X (.Dict [] [] pos) (tM X.K G W eDT) := peImp pe_dnewT fun σ H Q t => by
  obtain ⟨ρ, h, env, hr, he, p⟩ := t
  exact fun q n => p (ρ ++ [q]) _ _ (Ex.push n) (hr.new n (.dT upd_same .nil)) (.ref (by rw [← hr.len]; exact get_push_eq))
end
end Sm
/-! SmF: constants of the module, the law's end. -/
namespace Sm
open PySem L2 PyProof.Rows
theorem bt_len : bootBuiltins "len" = some (.builtin "len") := by first | exact PyProof.Rows.boot_len | exact PySem.boot_len | decide +kernel
theorem bt_isinstance : bootBuiltins "isinstance" = some (.builtin "isinstance") := by first | exact PyProof.Rows.boot_isinstance | exact PySem.boot_isinstance | decide +kernel
theorem bt_int : bootBuiltins "int" = some (.type "int") := by first | exact PyProof.Rows.boot_int | exact PySem.boot_int | decide +kernel
theorem bt_bool : bootBuiltins "bool" = some (.type "bool") := by first | exact PyProof.Rows.boot_bool | exact PySem.boot_bool | decide +kernel
theorem bt_str : bootBuiltins "str" = some (.type "str") := by first | exact PyProof.Rows.boot_str | exact PySem.boot_str | decide +kernel
theorem bt_list : bootBuiltins "list" = some (.type "list") := by first | exact PyProof.Rows.boot_list | exact PySem.boot_list | decide +kernel
theorem bt_tuple : bootBuiltins "tuple" = some (.type "tuple") := by first | exact PyProof.Rows.boot_tuple | exact PySem.boot_tuple | decide +kernel
theorem bt_dict : bootBuiltins "dict" = some (.type "dict") := by first | exact PyProof.Rows.boot_dict | exact PySem.boot_dict | decide +kernel
theorem bt_abs : bootBuiltins "abs" = some (.builtin "abs") := by first | exact PyProof.Rows.boot_abs | exact PySem.boot_abs | decide +kernel
theorem bt_max : bootBuiltins "max" = some (.builtin "max") := by first | exact PyProof.Rows.boot_max | exact PySem.boot_max | decide +kernel
theorem bt_min : bootBuiltins "min" = some (.builtin "min") := by first | exact PyProof.Rows.boot_min | exact PySem.boot_min | decide +kernel
theorem bt_sum : bootBuiltins "sum" = some (.builtin "sum") := by first | exact PyProof.Rows.boot_sum | exact PySem.boot_sum | decide +kernel
theorem bt_all : bootBuiltins "all" = some (.builtin "all") := by first | exact PyProof.Rows.boot_all | exact PySem.boot_all | decide +kernel
theorem bt_any : bootBuiltins "any" = some (.builtin "any") := by first | exact PyProof.Rows.boot_any | exact PySem.boot_any | decide +kernel
theorem bt_ord : bootBuiltins "ord" = some (.builtin "ord") := by first | exact PyProof.Rows.boot_ord | exact PySem.boot_ord | decide +kernel
theorem bt_sorted : bootBuiltins "sorted" = some (.builtin "sorted") := by first | exact PyProof.Rows.boot_sorted | exact PySem.boot_sorted | decide +kernel
theorem bt_set : bootBuiltins "set" = some (.type "set") := by first | exact PyProof.Rows.boot_set | exact PySem.boot_set | decide +kernel
theorem bt_range : bootBuiltins "range" = some (.type "range") := by first | exact PyProof.Rows.boot_range | exact PySem.boot_range | decide +kernel
theorem bt_reversed : bootBuiltins "reversed" = some (.type "reversed") := by first | exact PyProof.Rows.boot_reversed | exact PySem.boot_reversed | decide +kernel
theorem bt_repr : bootBuiltins "repr" = some (.builtin "repr") := by first | exact PyProof.Rows.boot_repr | exact PySem.boot_repr | decide +kernel
theorem bt_type : bootBuiltins "type" = some (.type "type") := by first | exact PyProof.Rows.boot_type | exact PySem.boot_type | decide +kernel
section
variable {X : Cx} {G : Cl} {W : WX} {e a b c o : Expr} {es : List Expr} {st : Stmt} {pos p : Pos} {m ma mb mo : M} {ms : List M} {K : PySem.W.Frag} {ρ : List Addr} {H : Hp} {h : Hh} {k : Nat}
theorem se_globI' {x : Str} {i : Int} (hg : Gl X x) (hm : ∃ u, X.mg x = some (.int i u)) (hd : (x == ("__debug__" : Str)) = false := by decide) : PE X (.Name x pos) (tM X.K G W (eC (.int i))) := let ⟨_, h⟩ := hm; se_globI hg h hd
theorem se_globS' {x y : Str} (hg : Gl X x) (hm : ∃ u, X.mg x = some (.str y u)) (hd : (x == ("__debug__" : Str)) = false := by decide) : PE X (.Name x pos) (tM X.K G W (eC (.str y))) := let ⟨_, h⟩ := hm; se_globS hg h hd
end
theorem law_end {K : PySem.W.Frag} {G : Cl} {f : Fm} (main : ∀ ns : List Int, ns.length ≤ 63 → ∃ h', f [.fls (ns.map D.int)] [] = .ok (.bl true) h') (H : Hp) (a : Addr) (ns : List Int) (hl : ns.length ≤ 63) (hO : Only H) (hS : SqL K H a (ns.map V.int)) :
    spM K G 1 f [.ref a] H (fun v _ => v = .bl true) (fun _ _ _ => False) := by
  obtain ⟨h', e⟩ := main ns hl
  have fl : FL K H a (ns.map V.int) := by
    rcases hS with (q | ⟨o, q⟩) | q
    · rcases hO a with z | ⟨o, xs, z⟩
      · rw [z] at q; cases q
      · rw [z] at q; cases q
    · exact .inl ⟨o, q⟩
    · exact .inr q
  refine ⟨[], [], [.fls (ns.map D.int)], ⟨rfl, fun i j a h => by simp at h, fun n o h => by simp at h⟩, .cons (.fls fl (Rvs.of_ints ns)) .nil, rfl, ?_⟩
  rw [e]
  intro ρ' H' v _ _ r
  cases r
  rfl
theorem walk_law {l : PySem.W.OpenLaw} {k : Nat} {q : Program} {loose : List Str} {XP : (Str → Option Value) → Heap → Prop} {YP : World → Heap → Prop} {d : DefRec} {K : Params → PySem.W.Frag} {f : Fm} {G : Cl}
    (hn : l.most = some 63) (hdf : d.params.defaults = []) (hr : Room k callerA)
    (hY : ∀ (w : World) (h : Heap), YP w h → (K w.params).In h) (main : ∀ ns : List Int, ns.length ≤ 63 → ∃ h', f [.fls (ns.map D.int)] [] = .ok (.bl true) h')
    (F : ∀ (w : World) (mg : Str → Option Value) (fa : Addr) (h : Heap), (K w.params).In h → h.Ns mainGlobals mg → mg d.name = some (.ref fa) →
      ∃ fd : FuncData, (∀ (s : Shared) (u : Value), BindsTo s fd ⟨[u], []⟩ [("script", u)]) ∧
        ∀ base : Heap, (K w.params).In base → base.Ns mainGlobals mg → FnOk l.prog w (K w.params) mg base (L2N.CX l.prog w) k fa fd ["script"] (spM (K w.params) G 1 f)) :
    PySem.W.WalkO q loose XP YP l.row.toRowW d [] (fun f vs => PySem.call f vs) :=
  L2.walk_of (n := 63) (k := k) (x := "script") (CX := fun w => L2N.CX l.prog w) (sp := fun w => spM (K w.params) G 1 f) hn (by decide) hdf hr hY F (fun w H a ns h1 h2 h3 => law_end main H a ns h1 h2 h3)
    fun w H s e s' z => by
      obtain ⟨_, _, _, _, _, _, _, _, _, _, _, _, z⟩ := z
      exact z
end Sm
/-! SmG: running the mirrors. -/
namespace Sm
open PySem L2 PyProof.Rows

/-- a loop, by what holds of the rest -/
theorem forL_wp {g : TgM} {body : S} {gd : Option (Nat × O)} (I : List D → Ev → Hh → Prop) (Post : SR → Prop)
    (step : ∀ x rest env h, I (x :: rest) env h → gdOk gd h ∧ ∃ env1, g x h env = some env1 ∧ ((∃ e' h', (body env1 h = .nx e' h' ∨ body env1 h = .ct e' h') ∧ I rest e' h') ∨ (∃ e' h', body env1 h = .bk e' h' ∧ Post (.nx e' h')) ∨ (∃ d h', body env1 h = .rt d h' ∧ Post (.rt d h')) ∨ (∃ c fs e' h', body env1 h = .exc c fs e' h' ∧ Post (.exc c fs e' h'))))
    (done : ∀ env h, I [] env h → gdOk gd h ∧ Post (.nx env h)) : ∀ (xs : List D) (env : Ev) (h : Hh), I xs env h → Post (forL g body gd xs env h)
  | [], env, h, i => by
    obtain ⟨a, b⟩ := done env h i
    unfold forL
    rw [if_pos a]
    exact b
  | x :: xs, env, h, i => by
    obtain ⟨a, env1, e1, r⟩ := step x xs env h i
    unfold forL
    rw [if_pos a, e1]
    dsimp only
    rcases r with ⟨e', h', q | q, i'⟩ | ⟨e', h', q, i'⟩ | ⟨d, h', q, i'⟩ | ⟨c, fs, e', h', q, i'⟩
    · rw [q]; exact forL_wp I Post step done xs e' h' i'
    · rw [q]; exact forL_wp I Post step done xs e' h' i'
    · rw [q]; exact i'
    · rw [q]; exact i'
    · rw [q]; exact i'
/-- the plain case: every turn goes on -/
theorem forL_inv {g : TgM} {body : S} {gd : Option (Nat × O)} (I : List D → Ev → Hh → Prop) (xs : List D) (env : Ev) (h : Hh) (h0 : I xs env h) (hg : ∀ rest env h, I rest env h → gdOk gd h)
    (step : ∀ x rest env h, I (x :: rest) env h → ∃ env1, g x h env = some env1 ∧ ∃ e' h', body env1 h = .nx e' h' ∧ I rest e' h') : ∃ e' h', forL g body gd xs env h = .nx e' h' ∧ I [] e' h' := by
  refine forL_wp (g := g) (body := body) (gd := gd) I (fun r => ∃ e' h', r = .nx e' h' ∧ I [] e' h') (fun x rest env h i => ?_) (fun env h i => ⟨hg _ _ _ i, env, h, rfl, i⟩) xs env h h0
  obtain ⟨env1, e1, e', h', q, i'⟩ := step x rest env h i
  exact ⟨hg _ _ _ i, env1, e1, .inl ⟨e', h', .inl q, i'⟩⟩
/-! ### the combinators step by step, no function under a binder -/
section
variable (env : Ev) (h : Hh) (f g : D → D → Hh → Option (D × Hh)) (f1 : D → Hh → Option (D × Hh)) (fn : List D → Hh → Option (D × Hh)) (fm : D → List D → Hh → Option (D × Hh)) (a b c : M) (ms : List M) (d e : D) (ds : List D) (i : Nat) (s1 s2 : S) (t u : MT)
def rOpt (o : Option (D × Hh)) : R D := R.opt o
@[simp] theorem rOpt_some : rOpt (some (d, h)) = .ok d h := rfl
@[simp] theorem eV_eq : eV i env h = match env[i]? with | some (some d) => .ok d h | _ => .bad := rfl
@[simp] theorem eC_eq : eC d env h = .ok d h := rfl
def eU1 (r : R D) : R D := r.bind fun x h1 => R.opt (f1 x h1)
@[simp] theorem eU_eq : eU f1 a env h = eU1 f1 (a env h) := rfl
@[simp] theorem eU1_ok : eU1 f1 (.ok d h) = R.opt (f1 d h) := rfl
def eB1 (env : Ev) (r : R D) : R D := r.bind fun x h1 => (b env h1).bind fun y h2 => R.opt (f x y h2)
def eB2 (d : D) (r : R D) : R D := r.bind fun y h2 => R.opt (f d y h2)
@[simp] theorem eB_eq : eB f a b env h = eB1 f b env (a env h) := rfl
@[simp] theorem eB1_ok : eB1 f b env (.ok d h) = eB2 f d (b env h) := rfl
@[simp] theorem eB2_ok : eB2 f d (.ok e h) = R.opt (f d e h) := rfl
def eAnd1 (env : Ev) (r : R D) : R D := r.bind fun d h1 => match d with
  | .bl true => b env h1
  | .bl false => .ok (.bl false) h1
  | _ => .bad
@[simp] theorem eAnd_eq : eAnd a b env h = eAnd1 b env (a env h) := rfl
@[simp] theorem eAnd1_t : eAnd1 b env (.ok (.bl true) h) = b env h := rfl
@[simp] theorem eAnd1_f : eAnd1 b env (.ok (.bl false) h) = .ok (.bl false) h := rfl
theorem eAnd1_d (p : Bool) : eAnd1 b env (.ok (.bl p) h) = if p = true then b env h else .ok (.bl false) h := by cases p <;> rfl
def eOr1 (env : Ev) (r : R D) : R D := r.bind fun d h1 => match d with
  | .bl false => b env h1
  | .bl true => .ok (.bl true) h1
  | _ => .bad
@[simp] theorem eOr_eq : eOr a b env h = eOr1 b env (a env h) := rfl
@[simp] theorem eOr1_f : eOr1 b env (.ok (.bl false) h) = b env h := rfl
@[simp] theorem eOr1_t : eOr1 b env (.ok (.bl true) h) = .ok (.bl true) h := rfl
theorem eOr1_d (p : Bool) : eOr1 b env (.ok (.bl p) h) = if p = true then .ok (.bl true) h else b env h := by cases p <;> rfl
def eNot1 (r : R D) : R D := r.bind fun d h1 => match d with
  | .bl b => .ok (.bl (!b)) h1
  | _ => .bad
@[simp] theorem eNot_eq : eNot a env h = eNot1 (a env h) := rfl
@[simp] theorem eNot1_b (k : Bool) : eNot1 (.ok (.bl k) h) = .ok (.bl (!k)) h := rfl
def eIf1 (env : Ev) (r : R Bool) : R D := r.bind fun c h1 => if c = true then a env h1 else b env h1
@[simp] theorem eIf_eq : eIf t a b env h = eIf1 a b env (t env h) := rfl
@[simp] theorem eIf1_t : eIf1 a b env (.ok true h) = a env h := rfl
@[simp] theorem eIf1_f : eIf1 a b env (.ok false h) = b env h := rfl
theorem eIf1_d (p : Bool) : eIf1 a b env (.ok p h) = if p = true then a env h else b env h := by cases p <;> rfl
def eCh1 (env : Ev) (r : R D) : R D := r.bind fun x h1 => (b env h1).bind fun y h2 => (R.opt (f x y h2)).bind fun z h3 => match z with
  | .bl true => (c env h3).bind fun w h4 => R.opt (g y w h4)
  | .bl false => .ok (.bl false) h3
  | _ => .bad
def eCh2 (env : Ev) (x : D) (r : R D) : R D := r.bind fun y h2 => (R.opt (f x y h2)).bind fun z h3 => match z with
  | .bl true => (c env h3).bind fun w h4 => R.opt (g y w h4)
  | .bl false => .ok (.bl false) h3
  | _ => .bad
def eCh3 (env : Ev) (y : D) (r : R D) : R D := r.bind fun z h3 => match z with
  | .bl true => (c env h3).bind fun w h4 => R.opt (g y w h4)
  | .bl false => .ok (.bl false) h3
  | _ => .bad
@[simp] theorem eCh_eq : eCh f g a b c env h = eCh1 f g b c env (a env h) := rfl
@[simp] theorem eCh1_ok : eCh1 f g b c env (.ok d h) = eCh2 f g c env d (b env h) := rfl
@[simp] theorem eCh2_ok : eCh2 f g c env d (.ok e h) = eCh3 g c env e (R.opt (f d e h)) := rfl
@[simp] theorem eCh3_t : eCh3 g c env e (.ok (.bl true) h) = eB2 g e (c env h) := rfl
@[simp] theorem eCh3_f : eCh3 g c env e (.ok (.bl false) h) = .ok (.bl false) h := rfl
def tTru1 (r : R D) : R Bool := r.bind fun d h1 => optB (opTruth d h1) h1
@[simp] theorem tTru_eq : tTru a env h = tTru1 (a env h) := rfl
@[simp] theorem tTru1_ok : tTru1 (.ok d h) = optB (opTruth d h) h := rfl
def tBl1 (r : R D) : R Bool := r.bind fun d h1 => optB (opBl d) h1
@[simp] theorem tBl_eq : tBl a env h = tBl1 (a env h) := rfl
@[simp] theorem tBl1_ok : tBl1 (.ok d h) = optB (opBl d) h := rfl
def tAnd1 (env : Ev) (r : R Bool) : R Bool := r.bind fun c h1 => if c = true then u env h1 else .ok false h1
@[simp] theorem tAndM_eq : tAndM t u env h = tAnd1 u env (t env h) := rfl
@[simp] theorem tAnd1_t : tAnd1 u env (.ok true h) = u env h := rfl
@[simp] theorem tAnd1_f : tAnd1 u env (.ok false h) = .ok false h := rfl
theorem tAnd1_d (p : Bool) : tAnd1 u env (.ok p h) = if p = true then u env h else .ok false h := by cases p <;> rfl
def tOr1 (env : Ev) (r : R Bool) : R Bool := r.bind fun c h1 => if c = true then .ok true h1 else u env h1
@[simp] theorem tOrM_eq : tOrM t u env h = tOr1 u env (t env h) := rfl
@[simp] theorem tOr1_t : tOr1 u env (.ok true h) = .ok true h := rfl
@[simp] theorem tOr1_f : tOr1 u env (.ok false h) = u env h := rfl
theorem tOr1_d (p : Bool) : tOr1 u env (.ok p h) = if p = true then .ok true h else u env h := by cases p <;> rfl
def tNot1 (r : R Bool) : R Bool := r.bind fun c h1 => .ok (!c) h1
@[simp] theorem tNotM_eq : tNotM t env h = tNot1 (t env h) := rfl
@[simp] theorem tNot1_ok (k : Bool) : tNot1 (.ok k h) = .ok (!k) h := rfl
def evs1 (env : Ev) (r : R D) : R (List D) := r.bind fun d h1 => (evs ms env h1).bind fun ds h2 => .ok (d :: ds) h2
def evs2 (d : D) (r : R (List D)) : R (List D) := r.bind fun ds h2 => .ok (d :: ds) h2
@[simp] theorem evs_nil : evs [] env h = .ok [] h := rfl
@[simp] theorem evs_cons : evs (a :: ms) env h = evs1 ms env (a env h) := rfl
@[simp] theorem evs1_ok : evs1 ms env (.ok d h) = evs2 d (evs ms env h) := rfl
@[simp] theorem evs2_ok : evs2 d (.ok ds h) = .ok (d :: ds) h := rfl
def eN1 (r : R (List D)) : R D := r.bind fun ds h1 => R.opt (fn ds h1)
@[simp] theorem eN_eq : eN fn ms env h = eN1 fn (evs ms env h) := rfl
@[simp] theorem eN1_ok : eN1 fn (.ok ds h) = R.opt (fn ds h) := rfl
def eTup1 (r : R (List D)) : R D := r.bind fun ds h1 => .ok (.tup ds) h1
@[simp] theorem eTup_eq : eTup ms env h = eTup1 (evs ms env h) := rfl
@[simp] theorem eTup1_ok : eTup1 (.ok ds h) = .ok (.tup ds) h := rfl
def eLst1 (r : R (List D)) : R D := r.bind fun ds h1 => .ok (.ref h1.length) (h1 ++ [.lst ds])
@[simp] theorem eLst_eq : eLst ms env h = eLst1 (evs ms env h) := rfl
@[simp] theorem eLst1_ok : eLst1 (.ok ds h) = .ok (.ref h.length) (h ++ [.lst ds]) := rfl
def eCall1 (k : Fm) (r : R (List D)) : R D := r.bind fun ds h1 => k ds h1
@[simp] theorem eCall_eq (k : Fm) : eCall k ms env h = eCall1 k (evs ms env h) := rfl
@[simp] theorem eCall1_ok (k : Fm) : eCall1 k (.ok ds h) = k ds h := rfl
def eMt1 (env : Ev) (r : R D) : R D := r.bind fun o h1 => if isL o h1 = true then (evs ms env h1).bind fun ds h2 => R.opt (fm o ds h2) else .bad
def eMt2 (o : D) (r : R (List D)) : R D := r.bind fun ds h2 => R.opt (fm o ds h2)
@[simp] theorem eMt_eq : eMt fm a ms env h = eMt1 fm ms env (a env h) := rfl
@[simp] theorem eMt1_ok : eMt1 fm ms env (.ok d h) = if isL d h = true then eMt2 fm d (evs ms env h) else .bad := rfl
@[simp] theorem eMt2_ok : eMt2 fm d (.ok ds h) = R.opt (fm d ds h) := rfl
variable (lo hi : Option M) (l k : Option Int)
def evO1 (r : R D) : R (Option Int) := r.bind fun d h1 => match d with
  | .int i => .ok (some i) h1
  | _ => .bad
@[simp] theorem evO_none : evO none env h = .ok none h := rfl
@[simp] theorem evO_some : evO (some a) env h = evO1 (a env h) := rfl
@[simp] theorem evO1_ok (j : Int) : evO1 (.ok (.int j) h) = .ok (some j) h := rfl
def eSl1 (env : Ev) (r : R D) : R D := r.bind fun d h1 => (evO lo env h1).bind fun l h2 => (evO hi env h2).bind fun u h3 => R.opt (opSl d l u h3)
def eSl2 (env : Ev) (d : D) (r : R (Option Int)) : R D := r.bind fun l h2 => (evO hi env h2).bind fun u h3 => R.opt (opSl d l u h3)
def eSl3 (d : D) (l : Option Int) (r : R (Option Int)) : R D := r.bind fun u h3 => R.opt (opSl d l u h3)
@[simp] theorem eSl_eq : eSl a lo hi env h = eSl1 lo hi env (a env h) := rfl
@[simp] theorem eSl1_ok : eSl1 lo hi env (.ok d h) = eSl2 hi env d (evO lo env h) := rfl
@[simp] theorem eSl2_ok : eSl2 hi env d (.ok l h) = eSl3 d l (evO hi env h) := rfl
@[simp] theorem eSl3_ok : eSl3 d l (.ok k h) = R.opt (opSl d l k h) := rfl
@[simp] theorem eDK_eq : eDK env h = .ok (.ref h.length) (h ++ [.dK []]) := rfl
@[simp] theorem eDT_eq : eDT env h = .ok (.ref h.length) (h ++ [.dT []]) := rfl
/-! statements -/
@[simp] theorem sSkip_eq : sSkip env h = .nx env h := rfl
def sSeq1 (r : SR) : SR := match r with
  | .nx env' h' => s2 env' h'
  | r => r
@[simp] theorem sSeq_eq : sSeq s1 s2 env h = sSeq1 s2 (s1 env h) := by
  unfold sSeq sSeq1
  cases s1 env h <;> rfl
@[simp] theorem sSeq1_nx : sSeq1 s2 (.nx env h) = s2 env h := rfl
@[simp] theorem sSeq1_rt : sSeq1 s2 (.rt d h) = .rt d h := rfl
@[simp] theorem sSeq1_bk : sSeq1 s2 (.bk env h) = .bk env h := rfl
@[simp] theorem sSeq1_ct : sSeq1 s2 (.ct env h) = .ct env h := rfl
@[simp] theorem sSeq1_exc (n : Nat) : sSeq1 s2 (.exc n ds env h) = .exc n ds env h := rfl
def sRet1 (env : Ev) (r : R D) : SR := bindS r env fun d h1 => .rt d h1
@[simp] theorem sRet_eq : sRet a env h = sRet1 env (a env h) := rfl
@[simp] theorem sRet1_ok : sRet1 env (.ok d h) = .rt d h := rfl
@[simp] theorem sRet1_exc (n : Nat) : sRet1 env (.exc n ds h) = .exc n ds env h := rfl
@[simp] theorem sRetN_eq : sRetN env h = .rt .non h := rfl
def sExpr1 (env : Ev) (r : R D) : SR := bindS r env fun _ h1 => .nx env h1
@[simp] theorem sExpr_eq : sExpr a env h = sExpr1 env (a env h) := rfl
@[simp] theorem sExpr1_ok : sExpr1 env (.ok d h) = .nx env h := rfl
@[simp] theorem sExpr1_exc (n : Nat) : sExpr1 env (.exc n ds h) = .exc n ds env h := rfl
def sSet1 (i : Nat) (env : Ev) (r : R D) : SR := bindS r env fun d h1 => .nx (env.set i (some d)) h1
@[simp] theorem sSet_eq : sSet i a env h = sSet1 i env (a env h) := rfl
@[simp] theorem sSet1_ok : sSet1 i env (.ok d h) = .nx (env.set i (some d)) h := rfl
@[simp] theorem sSet1_exc (n : Nat) : sSet1 i env (.exc n ds h) = .exc n ds env h := rfl
def sIf1 (env : Ev) (r : R Bool) : SR := bindS r env fun c h1 => if c = true then s1 env h1 else s2 env h1
@[simp] theorem sIf_eq : sIf t s1 s2 env h = sIf1 s1 s2 env (t env h) := rfl
@[simp] theorem sIf1_t : sIf1 s1 s2 env (.ok true h) = s1 env h := rfl
@[simp] theorem sIf1_f : sIf1 s1 s2 env (.ok false h) = s2 env h := rfl
theorem sIf1_d (p : Bool) : sIf1 s1 s2 env (.ok p h) = if p = true then s1 env h else s2 env h := by cases p <;> rfl
@[simp] theorem sBk_eq : sBk env h = .bk env h := rfl
@[simp] theorem sCt_eq : sCt env h = .ct env h := rfl
variable (tg : TgM) (mi : Ev → Hh → R Src) (src : Src)
def sUnp1 (env : Ev) (r : R D) : SR := bindS r env fun d h1 => match tg d h1 env with
  | some env' => .nx env' h1
  | none => .bad
@[simp] theorem sUnp_eq : sUnp tg a env h = sUnp1 tg env (a env h) := rfl
@[simp] theorem sUnp1_ok : sUnp1 tg env (.ok d h) = match tg d h env with
  | some env' => .nx env' h
  | none => .bad := rfl
@[simp] theorem gtName_eq : gtName i d h env = some (env.set i (some d)) := rfl
noncomputable def sFor1 (env : Ev) (r : R Src) : SR := bindS r env fun src h1 => forL tg s1 src.2 src.1 env h1
@[simp] theorem sFor_eq : sFor mi tg s1 env h = sFor1 s1 tg env (mi env h) := rfl
@[simp] theorem sFor1_ok : sFor1 s1 tg env (.ok src h) = forL tg s1 src.2 src.1 env h := rfl
def mSeq1 (r : R D) : R Src := r.bind fun d h1 => match d with
  | .tup ds => .ok (ds, none) h1
  | .fls ds => .ok (ds, none) h1
  | .ref n => match h1[n]? with
    | some (.lst ds) => .ok (ds, some (n, .lst ds)) h1
    | _ => .bad
  | _ => .bad
@[simp] theorem mSeq_eq : mSeq a env h = mSeq1 (a env h) := rfl
@[simp] theorem mSeq1_t : mSeq1 (.ok (.tup ds) h) = .ok (ds, none) h := rfl
@[simp] theorem mSeq1_f : mSeq1 (.ok (.fls ds) h) = .ok (ds, none) h := rfl
@[simp] theorem mSeq1_r (n : Nat) : mSeq1 (.ok (.ref n) h) = match h[n]? with
    | some (.lst ds) => .ok (ds, some (n, .lst ds)) h
    | _ => .bad := rfl
def mRng11 (r : R D) : R Src := r.bind fun d h1 => match d with
  | .int j => if inR j = true then .ok (rngD 0 j.toNat, none) h1 else .bad
  | _ => .bad
@[simp] theorem mRng1_eq : mRng1 a env h = mRng11 (a env h) := rfl
@[simp] theorem mRng11_ok (j : Int) : mRng11 (.ok (.int j) h) = if inR j = true then .ok (rngD 0 j.toNat, none) h else .bad := rfl
def mRng21 (env : Ev) (r : R D) : R Src := r.bind fun d h1 => (b env h1).bind fun e h2 => match d, e with
  | .int i, .int j => if inR i = true ∧ inR j = true then .ok (rngD i (j - i).toNat, none) h2 else .bad
  | _, _ => .bad
def mRng22 (d : D) (r : R D) : R Src := r.bind fun e h2 => match d, e with
  | .int i, .int j => if inR i = true ∧ inR j = true then .ok (rngD i (j - i).toNat, none) h2 else .bad
  | _, _ => .bad
@[simp] theorem mRng2_eq : mRng2 a b env h = mRng21 b env (a env h) := rfl
@[simp] theorem mRng21_ok : mRng21 b env (.ok d h) = mRng22 d (b env h) := rfl
@[simp] theorem mRng22_ok (i j : Int) : mRng22 (.int i) (.ok (.int j) h) = if inR i = true ∧ inR j = true then .ok (rngD i (j - i).toNat, none) h else .bad := rfl
def sSetIx1 (mo mi : M) (env : Ev) (r : R D) : SR := bindS r env fun v h1 => bindS (mo env h1) env fun o h2 => bindS (mi env h2) env fun i h3 => match opSetIx o i v h3 with
  | some h' => .nx env h'
  | none => .bad
def sSetIx2 (mi : M) (env : Ev) (v : D) (r : R D) : SR := bindS r env fun o h2 => bindS (mi env h2) env fun i h3 => match opSetIx o i v h3 with
  | some h' => .nx env h'
  | none => .bad
def sSetIx3 (env : Ev) (v o : D) (r : R D) : SR := bindS r env fun i h3 => match opSetIx o i v h3 with
  | some h' => .nx env h'
  | none => .bad
@[simp] theorem sSetIx_eq : sSetIx a b c env h = sSetIx1 a b env (c env h) := rfl
@[simp] theorem sSetIx1_ok : sSetIx1 a b env (.ok d h) = sSetIx2 b env d (a env h) := rfl
@[simp] theorem sSetIx2_ok : sSetIx2 b env d (.ok e h) = sSetIx3 env d e (b env h) := rfl
@[simp] theorem sSetIx3_ok (z : D) : sSetIx3 env d e (.ok z h) = match opSetIx e z d h with
  | some h' => .nx env h'
  | none => .bad := rfl
def fnEnd (r : SR) : R D := match r with
  | .nx _ h' => .ok .non h'
  | .rt d h' => .ok d h'
  | .exc c fs _ h' => .exc c fs h'
  | _ => .bad
@[simp] theorem fnM_eq (n : Nat) : fnM n s1 ds h = fnEnd (s1 (ds.map some ++ List.replicate (n - ds.length) none) h) := by
  unfold fnM fnEnd
  cases s1 (ds.map some ++ List.replicate (n - ds.length) none) h <;> rfl
@[simp] theorem fnEnd_nx : fnEnd (.nx env h) = .ok .non h := rfl
@[simp] theorem fnEnd_rt : fnEnd (.rt d h) = .ok d h := rfl
@[simp] theorem fnEnd_exc (n : Nat) : fnEnd (.exc n ds env h) = .exc n ds h := rfl
def sAug1 (i : Nat) (x : D) (env : Ev) (r : R D) : SR := bindS r env fun y h1 => bindS (R.opt (f x y h1)) env fun z h2 => .nx (env.set i (some z)) h2
@[simp] theorem sAug_eq : sAug f i a env h = match env[i]? with
  | some (some x) => sAug1 f i x env (a env h)
  | _ => .bad := rfl
@[simp] theorem sAug1_ok : sAug1 f i d env (.ok e h) = sSet1 i env (R.opt (f d e h)) := rfl
end
section
variable (i j : Int) (x y : Str) (k l : Bool) (xs ys : List D) (n m : Nat) (h : Hh) (d e : D)
@[simp] theorem opAdd_ii : opAdd (.int i) (.int j) h = some (.int (i + j), h) := rfl
@[simp] theorem opAdd_ib : opAdd (.int i) (.bl k) h = some (.int (i + b2i k), h) := rfl
@[simp] theorem opAdd_ss : opAdd (.str x) (.str y) h = if x.length + y.length ≤ sizeLine then some (.str (x ++ y), h) else none := rfl
@[simp] theorem opAdd_tt : opAdd (.tup xs) (.tup ys) h = if xs.length + ys.length ≤ sizeLine then some (.tup (xs ++ ys), h) else none := rfl
@[simp] theorem opAdd_rr : opAdd (.ref m) (.ref n) h = match h[m]?, h[n]? with
    | some (.lst xs), some (.lst ys) => if xs.length + ys.length ≤ sizeLine then some (.ref h.length, h ++ [.lst (xs ++ ys)]) else none
    | _, _ => none := rfl
@[simp] theorem opSub_ii : opSub (.int i) (.int j) h = some (.int (i - j), h) := rfl
@[simp] theorem opMul_ii : opMul (.int i) (.int j) h = if mulOk i j = true then some (.int (i * j), h) else none := rfl
@[simp] theorem opMod_ii : opMod (.int i) (.int j) h = if 0 < j then some (.int (i % j), h) else none := rfl
@[simp] theorem opFdiv_ii : opFdiv (.int i) (.int j) h = if 0 < j ∧ j < 1073741824 then some (.int (i / j), h) else none := rfl
@[simp] theorem opPow_ii : opPow (.int i) (.int j) h = if 0 ≤ j ∧ j ≤ 1000000 ∧ i.natAbs < 18446744073709551616 then some (.int (i ^ j.toNat), h) else none := rfl
@[simp] theorem opNeg_i : opNeg (.int i) h = some (.int (-i), h) := rfl
@[simp] theorem opEq_ii : opEq (.int i) (.int j) h = some (.bl (decide (i = j)), h) := rfl
@[simp] theorem opEq_ss : opEq (.str x) (.str y) h = some (.bl (decide (x = y)), h) := rfl
@[simp] theorem opEq_bb : opEq (.bl k) (.bl l) h = some (.bl (decide (k = l)), h) := rfl
@[simp] theorem opEq_nn : opEq .non .non h = some (.bl true, h) := rfl
@[simp] theorem opNe_ii : opNe (.int i) (.int j) h = some (.bl (!decide (i = j)), h) := rfl
@[simp] theorem opNe_ss : opNe (.str x) (.str y) h = some (.bl (!decide (x = y)), h) := rfl
@[simp] theorem opNe_bb : opNe (.bl k) (.bl l) h = some (.bl (!decide (k = l)), h) := rfl
@[simp] theorem opNe_nn : opNe .non .non h = some (.bl false, h) := rfl
@[simp] theorem opLt_ii : opLt (.int i) (.int j) h = some (.bl (decide (i < j)), h) := rfl
@[simp] theorem opLt_ss : opLt (.str x) (.str y) h = some (.bl (decide (x.cps.toList < y.cps.toList)), h) := rfl
@[simp] theorem opLe_ii : opLe (.int i) (.int j) h = some (.bl (decide (i ≤ j)), h) := rfl
@[simp] theorem opGt_ii : opGt (.int i) (.int j) h = some (.bl (decide (j < i)), h) := rfl
@[simp] theorem opGe_ii : opGe (.int i) (.int j) h = some (.bl (decide (j ≤ i)), h) := rfl
@[simp] theorem opIsN_n : opIsN .non h = some (.bl true, h) := rfl
@[simp] theorem opIsN_i : opIsN (.int i) h = some (.bl false, h) := rfl
@[simp] theorem opIsN_b : opIsN (.bl k) h = some (.bl false, h) := rfl
@[simp] theorem opIsN_s : opIsN (.str x) h = some (.bl false, h) := rfl
@[simp] theorem opIsN_t : opIsN (.tup xs) h = some (.bl false, h) := rfl
@[simp] theorem opIsN_f : opIsN (.fls xs) h = some (.bl false, h) := rfl
@[simp] theorem opIsN_r : opIsN (.ref n) h = some (.bl false, h) := rfl
@[simp] theorem opNotN_n : opNotN .non h = some (.bl false, h) := rfl
@[simp] theorem opNotN_i : opNotN (.int i) h = some (.bl true, h) := rfl
@[simp] theorem opNotN_b : opNotN (.bl k) h = some (.bl true, h) := rfl
@[simp] theorem opNotN_s : opNotN (.str x) h = some (.bl true, h) := rfl
@[simp] theorem opNotN_t : opNotN (.tup xs) h = some (.bl true, h) := rfl
@[simp] theorem opNotN_f : opNotN (.fls xs) h = some (.bl true, h) := rfl
@[simp] theorem opNotN_r : opNotN (.ref n) h = some (.bl true, h) := rfl
@[simp] theorem opTruth_n : opTruth .non h = some false := rfl
@[simp] theorem opTruth_b : opTruth (.bl k) h = some k := rfl
@[simp] theorem opTruth_i : opTruth (.int i) h = some (i != 0) := rfl
@[simp] theorem opTruth_t : opTruth (.tup xs) h = some (!xs.isEmpty) := rfl
@[simp] theorem opTruth_f : opTruth (.fls xs) h = some (!xs.isEmpty) := rfl
@[simp] theorem opTruth_s : opTruth (.str y) h = if y.length ≤ sizeLine then some ((y.length : Int) != 0) else none := rfl
@[simp] theorem opTruth_r : opTruth (.ref n) h = match h[n]? with
    | some (.lst ds) => some (!ds.isEmpty)
    | some (.dK ds) => some (!ds.isEmpty)
    | _ => none := rfl
@[simp] theorem opBl_b : opBl (.bl k) = some k := rfl
@[simp] theorem opIx_t : opIx (.tup xs) (.int i) h = (atI xs i).map fun d => (d, h) := rfl
@[simp] theorem opIx_f : opIx (.fls xs) (.int i) h = (atI xs i).map fun d => (d, h) := rfl
@[simp] theorem opIx_s : opIx (.str x) (.int i) h = if x.length ≤ sizeLine then (atI x.cps.toList i).map fun c => (.str ⟨#[c]⟩, h) else none := rfl
@[simp] theorem opIx_r : opIx (.ref n) (.int i) h = match h[n]? with
    | some (.lst ds) => (atI ds i).map fun d => (d, h)
    | _ => none := rfl
variable (lo hi : Option Int)
@[simp] theorem opSl_t : opSl (.tup xs) lo hi h = some (.tup (cutD xs lo hi), h) := rfl
@[simp] theorem opSl_f : opSl (.fls xs) lo hi h = some (.ref h.length, h ++ [.lst (cutD xs lo hi)]) := rfl
@[simp] theorem opSl_s : opSl (.str x) lo hi h = if x.length ≤ sizeLine then some (.str (cutS x lo hi), h) else none := rfl
@[simp] theorem opSl_r : opSl (.ref n) lo hi h = match h[n]? with
    | some (.lst ds) => some (.ref h.length, h ++ [.lst (cutD ds lo hi)])
    | _ => none := rfl
@[simp] theorem opRev_f : opRev (.fls xs) h = some (.ref h.length, h ++ [.lst xs.reverse]) := rfl
@[simp] theorem opRev_r : opRev (.ref n) h = match h[n]? with
    | some (.lst ds) => some (.ref h.length, h ++ [.lst ds.reverse])
    | _ => none := rfl
@[simp] theorem partsOf_t : partsOf (.tup xs) h = some xs := rfl
@[simp] theorem partsOf_f : partsOf (.fls xs) h = some xs := rfl
@[simp] theorem partsOf_r : partsOf (.ref n) h = match h[n]? with
    | some (.lst ds) => some ds
    | _ => none := rfl
@[simp] theorem gtTup_eq (is : List Nat) (env : Ev) : gtTup is d h env = match partsOf d h with
  | some ds => if ds.length = is.length then some (setAll is ds env) else none
  | none => none := rfl
@[simp] theorem opAbs_i : opAbs [.int i] h = some (.int (if i < 0 then -i else i), h) := rfl
@[simp] theorem opInt_i : opInt [.int i] h = some (.int i, h) := rfl
@[simp] theorem opInt_b : opInt [.bl k] h = some (.int (if k = true then 1 else 0), h) := rfl
@[simp] theorem opMax_ii : opMax [.int i, .int j] h = some (.int (if j > i then j else i), h) := rfl
@[simp] theorem opMin_ii : opMin [.int i, .int j] h = some (.int (if j < i then j else i), h) := rfl
@[simp] theorem opLen_t : opLen [.tup xs] h = some (.int xs.length, h) := rfl
@[simp] theorem opLen_f : opLen [.fls xs] h = some (.int xs.length, h) := rfl
@[simp] theorem opLen_s : opLen [.str y] h = if y.length ≤ sizeLine then some (.int y.length, h) else none := rfl
@[simp] theorem opLen_r : opLen [.ref n] h = match h[n]? with
    | some (.lst ds) => some (.int ds.length, h)
    | some (.dK ds) => some (.int ds.length, h)
    | some (.dT ds) => some (.int ds.length, h)
    | _ => none := rfl
@[simp] theorem opList_t : opList [.tup xs] h = some (.ref h.length, h ++ [.lst xs]) := rfl
@[simp] theorem opList_f : opList [.fls xs] h = some (.ref h.length, h ++ [.lst xs]) := rfl
@[simp] theorem opList_r : opList [.ref n] h = match h[n]? with
    | some (.lst ds) => some (.ref h.length, h ++ [.lst ds])
    | some (.dK kvs) => some (.ref h.length, h ++ [.lst (kvs.map fun kv => kD kv.1)])
    | some (.dT kvs) => some (.ref h.length, h ++ [.lst (kvs.map fun kv => .tup (kv.1.map kD))])
    | _ => none := rfl
@[simp] theorem opTupleOf_t : opTupleOf [.tup xs] h = some (.tup xs, h) := rfl
@[simp] theorem opTupleOf_f : opTupleOf [.fls xs] h = some (.tup xs, h) := rfl
@[simp] theorem opTupleOf_r : opTupleOf [.ref n] h = match h[n]? with
    | some (.lst ds) => some (.tup ds, h)
    | _ => none := rfl
@[simp] theorem opSorted_r : opSorted [.ref n] h = match h[n]? with
    | some (.lst ds) => match intsOf ds with
      | some ns => some (.ref h.length, h ++ [.lst ((sortI ns).map D.int)])
      | none => none
    | some (.dK kvs) => match keyInts kvs with
      | some ns => if ns.length < 64 then some (.ref h.length, h ++ [.lst ((sortI ns).map D.int)]) else none
      | none => none
    | _ => none := rfl
@[simp] theorem isi_n (t : Ty) : opIsi t .non h = some (.bl (isT .none t), h) := rfl
@[simp] theorem isi_b (t : Ty) : opIsi t (.bl k) h = some (.bl (isT .bool t), h) := rfl
@[simp] theorem isi_i (t : Ty) : opIsi t (.int i) h = some (.bl (isT .int t), h) := rfl
@[simp] theorem isi_s (t : Ty) : opIsi t (.str x) h = some (.bl (isT .str t), h) := rfl
@[simp] theorem isi_t (t : Ty) : opIsi t (.tup xs) h = some (.bl (isT .tuple t), h) := rfl
@[simp] theorem isi_f (t : Ty) : opIsi t (.fls xs) h = some (.bl (isT .list t), h) := rfl
@[simp] theorem isi_r (t : Ty) : opIsi t (.ref n) h = (match h[n]? with
    | some (.lst _) => some .list
    | some (.dK _) => some .dict
    | some (.dT _) => some .dict
    | _ => none : Option Ty).map fun u => (.bl (isT u t), h) := rfl
@[simp] theorem isL_r : isL (.ref n) h = (match h[n]? with
    | some (.lst _) => true
    | _ => false) := rfl
@[simp] theorem opAppend_r : opAppend (.ref n) [d] h = match h[n]? with
    | some (.lst xs) => if xs.length < sizeLine then some (.non, h.set n (.lst (xs ++ [d]))) else none
    | _ => none := rfl
@[simp] theorem opPop_r : opPop (.ref n) [] h = match h[n]? with
    | some (.lst xs) => match xs[xs.length - 1]? with
      | some y => some (y, h.set n (.lst xs.dropLast))
      | none => none
    | _ => none := rfl
@[simp] theorem opSetIx_i : opSetIx (.ref n) (.int i) d h = match h[n]? with
    | some (.lst xs) => (ixN xs.length i).map fun j => h.set n (.lst (xs.set j d))
    | some (.dK kvs) => if kvs.length < sizeLine then some (h.set n (.dK (putP kvs (.inl i) d))) else none
    | _ => none := by
  cases e : h[n]? with
  | none => simp [opSetIx, e]
  | some o => cases o <;> simp [opSetIx, e]
@[simp] theorem opSetIx_s : opSetIx (.ref n) (.str x) d h = match h[n]? with
    | some (.dK kvs) => if kvs.length < sizeLine then some (h.set n (.dK (putP kvs (.inr x) d))) else none
    | _ => none := by
  cases e : h[n]? with
  | none => simp [opSetIx, e]
  | some o => cases o <;> simp [opSetIx, e]
@[simp] theorem opSetIx_t : opSetIx (.ref n) (.tup xs) d h = match h[n]? with
    | some (.dT kvs) => match keysOf xs with
      | some ks => if isK xs = false ∧ kvs.length < sizeLine then some (h.set n (.dT (putP kvs ks d))) else none
      | none => none
    | _ => none := rfl
end
@[simp] theorem isT_ii : isT .int .int = true := rfl
@[simp] theorem isT_ib : isT .int .bool = false := rfl
@[simp] theorem isT_bi : isT .bool .int = true := rfl
@[simp] theorem isT_bb : isT .bool .bool = true := rfl
@[simp] theorem isT_it : isT .int .tuple = false := rfl
@[simp] theorem isT_tt : isT .tuple .tuple = true := rfl
@[simp] theorem isT_nt : isT .none .tuple = false := rfl
theorem forL_nil {g : TgM} {body : S} {gd : Option (Nat × O)} {env : Ev} {h : Hh} (hg : gdOk gd h) : forL g body gd [] env h = .nx env h := by
  unfold forL
  rw [if_pos hg]
theorem forL_nx {g : TgM} {body : S} {gd : Option (Nat × O)} {x : D} {xs : List D} {env env1 e' : Ev} {h h' : Hh} (hg : gdOk gd h) (e1 : g x h env = some env1) (e2 : body env1 h = .nx e' h') : forL g body gd (x :: xs) env h = forL g body gd xs e' h' := by
  rw [forL, if_pos hg, e1]
  dsimp only
  rw [e2]
theorem forL_rt {g : TgM} {body : S} {gd : Option (Nat × O)} {x d : D} {xs : List D} {env env1 : Ev} {h h' : Hh} (hg : gdOk gd h) (e1 : g x h env = some env1) (e2 : body env1 h = .rt d h') : forL g body gd (x :: xs) env h = .rt d h' := by
  rw [forL, if_pos hg, e1]
  dsimp only
  rw [e2]
/-- a loop that folds -/
theorem forL_fold {α σ : Type} {g : TgM} {body : S} {gd : Option (Nat × O)} (f : α → D) (upd : σ → α → σ) (Inv : σ → Ev → Hh → Prop) (hg : ∀ s env h, Inv s env h → gdOk gd h) (s0 : σ) (xs : List α) (env : Ev) (h : Hh) (h0 : Inv s0 env h)
    (step : ∀ pre a post env h, xs = pre ++ a :: post → Inv (pre.foldl upd s0) env h → ∃ env1, g (f a) h env = some env1 ∧ ∃ e' h', body env1 h = .nx e' h' ∧ Inv (upd (pre.foldl upd s0) a) e' h') :
    ∃ e' h', forL g body gd (xs.map f) env h = .nx e' h' ∧ Inv (xs.foldl upd s0) e' h' := by
  obtain ⟨e', h', eq, pre, post, hx, hp, i⟩ := forL_inv (g := g) (body := body) (gd := gd) (fun rest env h => ∃ pre post, xs = pre ++ post ∧ rest = post.map f ∧ Inv (pre.foldl upd s0) env h) (xs.map f) env h ⟨[], xs, rfl, rfl, h0⟩
    (fun _ _ _ ⟨_, _, _, _, i⟩ => hg _ _ _ i) (fun x rest env h ⟨pre, post, hx, hp, i⟩ => by
      cases post with
      | nil => cases hp
      | cons a post =>
        obtain ⟨rfl, rfl⟩ := List.cons.inj hp
        obtain ⟨env1, e1, e', h', q, i'⟩ := step pre a post env h hx i
        exact ⟨env1, e1, e', h', q, pre ++ [a], post, by rw [hx, List.append_assoc]; rfl, rfl, by rw [List.foldl_append]; exact i'⟩)
  refine ⟨e', h', eq, ?_⟩
  cases post with
  | nil =>
    rw [List.append_nil] at hx
    rw [hx]
    exact i
  | cons _ _ => cases hp
/-- 0, 1, .. below n -/
def upto (n : Nat) : List Int := (List.range n).map fun (i : Nat) => (i : Int)
theorem rngD_upto (n : Nat) : rngD 0 n = (upto n).map D.int := by
  unfold rngD upto
  rw [List.map_map]
  apply List.map_congr_left
  intro a _
  simp
theorem mem_upto {n : Nat} {x : Int} : x ∈ upto n ↔ 0 ≤ x ∧ x < n := by
  unfold upto
  simp only [List.mem_map, List.mem_range]
  constructor
  · rintro ⟨a, h, rfl⟩
    omega
  · rintro ⟨h1, h2⟩
    exact ⟨x.toNat, by omega, by omega⟩
theorem len_upto (n : Nat) : (upto n).length = n := by unfold upto; simp
/-! ### places behind a heap -/
section
variable (h : Hh) (a b c d : O)
@[simp] theorem hp_at1 : (h ++ [a])[h.length]? = some a := by simp
@[simp] theorem hp_at2 : (h ++ [a, b])[h.length]? = some a := by simp
@[simp] theorem hp_at2b : (h ++ [a, b])[h.length + 1]? = some b := by
  rw [List.getElem?_append_right (by omega)]
  simp
@[simp] theorem hp_set1 : (h ++ [a]).set h.length c = h ++ [c] := by simp
@[simp] theorem hp_set2 : (h ++ [a, b]).set h.length c = h ++ [c, b] := by simp
end
theorem cut_to {xs : List D} {n : Nat} : cutD xs none (some (n : Int)) = xs.take n := by
  unfold cutD
  rw [HT.sIx_none, HT.sIx_nat]
  simp only [List.drop_zero, Nat.sub_zero]
  by_cases h : n ≤ xs.length
  · rw [Nat.min_eq_left h]
  · rw [Nat.min_eq_right (by omega), List.take_of_length_le (Nat.le_refl _), List.take_of_length_le (by omega)]
theorem cut_from {xs : List D} {n : Nat} : cutD xs (some (n : Int)) none = xs.drop n := by
  unfold cutD
  rw [HT.sIx_none, HT.sIx_nat]
  by_cases h : n ≤ xs.length
  · rw [Nat.min_eq_left h, List.take_of_length_le (by simp)]
  · rw [Nat.min_eq_right (by omega), List.drop_of_length_le (Nat.le_refl _), List.drop_of_length_le (by omega)]
    simp
/-- an int's range -/
theorem rngD_nil (lo : Int) : rngD lo 0 = [] := rfl
theorem rngD_succ (lo : Int) (n : Nat) : rngD lo (n + 1) = .int lo :: rngD (lo + 1) n := by
  unfold rngD
  rw [List.range_succ_eq_map]
  simp only [List.map_cons, List.map_map]
  congr 1
  · simp
  · apply List.map_congr_left
    intro a _
    simp only [Function.comp]
    congr 1
    push_cast
    omega
@[simp] theorem b2i_t : b2i true = 1 := rfl
@[simp] theorem b2i_f : b2i false = 0 := rfl
theorem mulOk_r {i j : Int} (h1 : -18446744073709551616 < j) (h2 : j < 18446744073709551616) : mulOk i j = true := by
  unfold mulOk
  simp [h1, h2]
theorem mulOk_l {i j : Int} (h1 : -18446744073709551616 < i) (h2 : i < 18446744073709551616) : mulOk i j = true := by
  unfold mulOk
  simp [h1, h2]
end Sm
/-! SmH: comprehensions, range with a step, extend, all, any, sum, is True, += -/
namespace Sm
open PySem L2 PyProof.Rows

/-! ### the slots of a comprehension's own names -/
theorem wipe_get (σ : L2.St) (j : Nat) : ∀ vs : List Nat, (wipe σ vs)[j]? = if j ∈ vs then (σ[j]?).map (fun _ => none) else σ[j]?
  | [] => by simp [wipe]
  | v :: vs => by
    unfold wipe
    by_cases e : v = j
    · subst e
      have h0 : v ∈ v :: vs := by simp
      rw [if_pos h0]
      by_cases l : v < σ.length
      · rw [List.getElem?_set_self (by rw [wipe_length]; exact l), List.getElem?_eq_getElem l]; rfl
      · rw [List.getElem?_eq_none (by rw [List.length_set, wipe_length]; omega), List.getElem?_eq_none (by omega)]; rfl
    · have e' : ¬ j = v := fun z => e z.symm
      rw [List.getElem?_set_ne e, wipe_get σ j vs]
      simp [e']
theorem wipe_idem (σ : L2.St) (vs : List Nat) : wipe (wipe σ vs) vs = wipe σ vs := by
  apply List.ext_getElem?
  intro j
  rw [wipe_get, wipe_get]
  split
  · rw [Option.map_map]; rfl
  · rfl
theorem wipe_set {σ : L2.St} {vs : List Nat} {i : Nat} {x : Option V} (h : i ∈ vs) : wipe (σ.set i x) vs = wipe σ vs := by
  apply List.ext_getElem?
  intro j
  rw [wipe_get, wipe_get]
  split
  · by_cases e : i = j
    · subst e
      rw [List.getElem?_set, if_pos rfl]
      by_cases l : i < σ.length
      · rw [if_pos l, List.getElem?_eq_getElem l]; rfl
      · rw [if_neg l, List.getElem?_eq_none (by omega)]
    · rw [List.getElem?_set_ne e]
  · rename_i n
    rw [List.getElem?_set_ne (fun e => by subst e; exact n h)]
@[simp] def wipeE (env : Ev) : List Nat → Ev
  | [] => env
  | v :: vs => (wipeE env vs).set v none
theorem Re.wipe {K : PySem.W.Frag} {ρ : List Addr} {H : Hp} {σ : L2.St} {env : Ev} (r : Re K ρ H σ env) : ∀ vs : List Nat, Re K ρ H (L2.wipe σ vs) (wipeE env vs)
  | [] => r
  | v :: vs => by
    have r' := Re.wipe r vs
    unfold L2.wipe wipeE
    refine ⟨by rw [List.length_set, List.length_set, r'.len], fun i d e => ?_⟩
    by_cases q : v = i
    · subst q
      rw [List.getElem?_set, if_pos rfl] at e
      split at e <;> cases e
    · rw [List.getElem?_set_ne q] at e ⊢
      exact r'.get i d e
/-- a target that stores at these slots alone -/
def TgOkW (K : PySem.W.Frag) (G : Cl) (vs : List Nat) (g : TG) (s : TgM) : Prop := ∀ {ρ : List Addr} {H : Hp} {h : Hh} {σ : L2.St} {env env' : Ev} {v : V} {d : D} {Q : L2.St → Hp → Prop}, Rh K G ρ H h → Re K ρ H σ env → Rv K ρ H v d → s d h env = some env' → (∀ σ', Re K ρ H σ' env' → L2.wipe σ' vs = L2.wipe σ vs → Q σ' H) → g v σ H Q
theorem tgw_name {K : PySem.W.Frag} {G : Cl} {vs : List Nat} {i : Nat} (hi : i ∈ vs) : TgOkW K G vs (gName i) (gtName i) := fun {ρ H h σ env env' v d Q} hr he r e k => by
  cases e
  exact k _ (he.set r i) (wipe_set hi)
theorem names_impW {K : PySem.W.Frag} {vs : List Nat} {ρ : List Addr} {H : Hp} : ∀ {is : List Nat} {us : List V} {ds : List D} {σ : L2.St} {env : Ev} {Q : L2.St → Hp → Prop}, (∀ i ∈ is, i ∈ vs) → ds.length = is.length → Re K ρ H σ env → Rvs K ρ H us ds → (∀ σ', Re K ρ H σ' (setAll is ds env) → L2.wipe σ' vs = L2.wipe σ vs → Q σ' H) → gNames is us σ H Q
  | [], _, [], σ, env, Q, _, _, he, .nil, k => ⟨rfl, k σ he rfl⟩
  | i :: is, _, d :: ds, σ, env, Q, hv, l, he, .cons (v := v) (vs := us) r rs, k => ⟨v, us, rfl, names_impW (is := is) (fun j hj => hv j (by simp [hj])) (by simpa using l) (he.set r i) rs fun σ' a b => k σ' a (b.trans (wipe_set (hv i (by simp))))⟩
theorem tgw_tup {K : PySem.W.Frag} {G : Cl} {vs is : List Nat} {n : Nat} (hn : n = is.length) (hv : ∀ i ∈ is, i ∈ vs) : TgOkW K G vs (fun v σ H Q => gTup K n (gNames is) v σ H Q ∨ gLst K n (gNames is) v σ H Q) (gtTup is) := fun {ρ H h σ env env' v d Q} hr he r e k => by
  unfold gtTup at e
  split at e
  · rename_i ds e1
    split at e
    · rename_i hl
      cases e
      unfold partsOf at e1
      split at e1
      · cases e1
        obtain ⟨a, vs, rfl, t, r⟩ := r.sqT
        exact .inl ⟨a, vs, rfl, t, by rw [r.length, hl, hn], names_impW hv hl he r k⟩
      · cases e1
        cases r with
        | fls t r => exact .inr ⟨_, _, rfl, t.sq, by rw [r.length, hl, hn], names_impW hv hl he r k⟩
      · cases r with
        | ref ra =>
          split at e1
          · rename_i e0
            cases e1
            obtain ⟨vs, q, r⟩ := ref_seq hr ra e0
            exact .inr ⟨_, vs, rfl, q, by rw [r.length, hl, hn], names_impW hv hl he r k⟩
          · cases e1
      · cases e1
    · cases e
  · cases e

/-! ### [e for x in xs if t] -/
/-- within a comprehension nothing raises -/
abbrev WN : WX := fun _ _ _ _ => False
theorem Ct.blk {X : Cx} {W : WX} {k : Nat} (c : Ct X W k) (s : Shared) (H : Hp) (scope : Scope) (cenv : Env) (fp : List Addr) : Ct (X.blk s H scope cenv fp) WN k :=
  ⟨fun _ _ ⟨_, _, _, _, _, _, _, _, _, _, _, _, _, _, _, _, w⟩ => w.elim, PassesOwn.never, c.hr, c.hc, c.nd⟩
open Classical in
noncomputable def lcL (g : TgM) (t : MT) (m : M) (vs : List Nat) (n : Nat) (gd : Option (Nat × O)) (env : Ev) : List D → Hh → R D
  | [], h => if gdOk gd h then .ok (.ref n) h else .bad
  | x :: xs, h => if gdOk gd h then (match g x h (wipeE env vs) with
    | none => .bad
    | some env1 => match t env1 h with
      | .ok true h1 => (match m env1 h1 with
        | .ok d h2 => (match h2[n]? with
          | some (.lst acc) => if acc.length < sizeLine then lcL g t m vs n gd env xs (h2.set n (.lst (acc ++ [d]))) else .bad
          | _ => .bad)
        | _ => .bad)
      | .ok false h1 => lcL g t m vs n gd env xs h1
      | _ => .bad) else .bad
noncomputable def eLc (mi : Ev → Hh → R Src) (g : TgM) (t : MT) (m : M) (vs : List Nat) : M := fun env h => (mi env h).bind fun src h1 => lcL g t m vs h1.length src.2 env src.1 (h1 ++ [.lst []])
def tYesM : MT := fun _ h => .ok true h
section
variable {X : Cx} {G : Cl} {W : WX} {e a b c elt tg iter : Expr} {ifs es : List Expr} {pos p : Pos} {m mo : M} {ms : List M} {t : MT} {K : PySem.W.Frag} {ρ : List Addr} {H : Hp} {h : Hh} {σ : L2.St} {env : Ev} {D0 : Ends}
theorem lc_sound {wi : TI} {mi : Ev → Hh → R Src} {g : TG} {s : TgM} {tt : TT} {te : TE} {vs : List Nat} (oi : ItOk K G W wi mi) (ok : TgOkW K G vs g s) (ht : ∀ σ H Q, tT K G WN t σ H Q → tt σ H Q) (hte : ∀ σ H Q, tM K G WN m σ H Q → te σ H Q) (σ : L2.St) (H : Hp) (Q : VK)
    (q : tM K G W (eLc mi s t m vs) σ H Q) : tLc wi g tt te vs σ H Q := by
  obtain ⟨ρ, h, env, hr, he, p⟩ := q
  refine oi σ H _ (tG_mono (tG_bind hr he p) fun J H1 ⟨ρ1, h1, src, e1, hr1, he1, w, p1⟩ => fun L hL => ?_)
  obtain ⟨xs, gd⟩ := src
  dsimp only at w p1
  have hr2 := Rh.new (o := .lst []) hr1 hL (Ro.lst upd_same .nil)
  have hx2 : Ex K ρ1 H1 (ρ1 ++ [L]) (upd H1 L (.lst [])) := Ex.push hL
  have hn : (ρ1 ++ [L])[h1.length]? = some L := by rw [← hr1.len]; exact get_push_eq
  generalize h1.length = n at hn p1
  refine ⟨fun i k H' => i ≤ xs.length ∧ k = xs.length - i ∧ ∃ ρ' h', Ex K ρ1 H1 ρ' H' ∧ Rh K G ρ' H' h' ∧ ρ'[n]? = some L ∧ Re K ρ' H' σ env ∧ Po K G (relV K) W ρ' H' σ (lcL s t m vs n gd env (xs.drop i) h') Q, ⟨_, Nat.zero_le _, rfl, _, _, hx2, hr2, hn, he1.mono hx2, p1.shift hx2⟩, ?_⟩
  rintro i k H' ⟨hi, rfl, ρ', h', ex, hr', hn', he', p'⟩
  by_cases hlt : i < xs.length
  · rw [List.drop_eq_getElem_cons hlt] at p'
    unfold lcL at p'
    split at p'
    · rename_i hg
      refine .inr ⟨w.go i ρ' H' h' hr' ex hg hlt, fun H'' => ∃ ρ2 h2, Ex K ρ' H' ρ2 H'' ∧ Rh K G ρ2 H'' h2 ∧ Po K G (relV K) W ρ2 H'' σ (lcL s t m vs n gd env (xs.drop (i + 1)) h2) Q, fun H'' ⟨ρ2, h2, e2, r2, p2⟩ => ⟨_, by omega, hlt, rfl, ρ2, h2, ex.trans e2, r2, e2.pre _ _ hn', he'.mono e2, p2⟩, fun x H'' y => ?_⟩
      obtain ⟨rfl, rx⟩ := w.yld i ρ' H' h' x H'' hr' ex hg y xs[i] (by simp [hlt])
      split at p'
      · exact p'.elim
      · rename_i env2 q2
        refine ok hr' (he'.wipe vs) rx q2 fun σ2 he2 hw => ⟨hw.trans (wipe_idem σ vs), ?_⟩
        refine ht σ2 _ _ ⟨ρ', h', env2, hr', he2, ?_⟩
        split at p'
        · rename_i h3 q3
          rw [q3]
          intro ρ3 H3 b e3 r3 hb
          subst hb
          simp only [if_true]
          refine hte σ2 _ _ ⟨ρ3, h3, env2, r3, he2.mono e3, ?_⟩
          split at p'
          · rename_i d h4 q4
            rw [q4]
            intro ρ4 H4 v e4 r4 rv
            split at p'
            · rename_i acc q5
              split at p'
              · rename_i hl
                have hn4 : ρ4[n]? = some L := e4.pre _ _ (e3.pre _ _ hn')
                obtain ⟨us, k1, k2⟩ := ref_lst r4 hn4 q5
                have e5 : Ex K ρ4 H4 ρ4 (upd H4 L (.lst (us ++ [v]))) := Ex.write r4 hn4 q5
                refine ⟨us, k1, by rw [k2.length]; exact hl, ρ4, _, (e3.trans e4).trans e5, r4.write hn4 q5 (.lst upd_same ((k2.append (.cons rv .nil)).mono e5)), p'.shift ((e3.trans e4).trans e5)⟩
              · exact p'.elim
            · exact p'.elim
          · exact p'.elim
        · rename_i h3 q3
          rw [q3]
          intro ρ3 H3 b e3 r3 hb
          subst hb
          simp only [Bool.false_eq_true, if_false]
          exact ⟨ρ3, h3, e3, r3, p'.shift e3⟩
        · exact p'.elim
    · exact p'.elim
  · have hl : i = xs.length := by omega
    subst hl
    rw [List.drop_length] at p'
    unfold lcL at p'
    split at p'
    · rename_i hg
      exact .inl ⟨w.stop ρ' H' h' hr' ex hg, p' ρ' H' _ Ex.refl hr' (.ref hn')⟩
    · exact p'.elim
theorem se_lc {scope : Scope} {own : List (Str × Nat)} {wi : TI} {mi : Ev → Hh → R Src} {g : TG} {s : TgM} {tt : TT} (hc : X.calm = true) (hN : X.N.Nodup) (hi : PI X tg iter wi) (oi : ItOk X.K G W wi mi) (bk : BlkOk X.N X.env.scope scope own)
    (hg : ∀ (s : Shared) (H : Hp) (C : Addr) (cl : List (Str × Addr)) (fp : List Addr), PG (X.blk s H scope (compEnvC scope cl C X.env) fp) tg g) (ok : TgOkW X.K G (own.map (·.2)) g s)
    (ht : ∀ (s : Shared) (H : Hp) (C : Addr) (cl : List (Str × Addr)) (fp : List Addr), PTs (X.blk s H scope (compEnvC scope cl C X.env) fp) ifs tt) (htt : ∀ σ H Q, tT X.K G WN t σ H Q → tt σ H Q)
    (he : ∀ (s : Shared) (H : Hp) (C : Addr) (cl : List (Str × Addr)) (fp : List Addr), PE (X.blk s H scope (compEnvC scope cl C X.env) fp) elt (tM X.K G WN m)) (hs : ∀ x, foldedSetIterable iter X.env x = pure x := by intro _; rfl) :
    PE X (.ListComp elt [⟨tg, iter, ifs, 0⟩] scope pos) (tM X.K G W (eLc mi s t m (own.map (·.2)))) :=
  peImp (pe_lc hc hN hi bk hg ht he hs) fun σ H Q q => lc_sound oi ok htt (fun _ _ _ z => z) σ H Q q
theorem s_setLc {i : Nat} {y : Str} {py spos : Pos} {scope : Scope} {own : List (Str × Nat)} {wi : TI} {mi : Ev → Hh → R Src} {g : TG} {s : TgM} {tt : TT} (hc : X.calm = true) (hN : X.N.Nodup)
    (hsw : swapsWith (.ListComp elt [⟨tg, iter, ifs, 0⟩] scope pos) (some (.Name y py)) spos.line X.env = pure true) (hi : PI X tg iter wi) (oi : ItOk X.K G W wi mi) (bk : BlkOk X.N X.env.scope scope own)
    (hg : ∀ (s : Shared) (H : Hp) (C : Addr) (cl : List (Str × Addr)) (fp : List Addr), PG (X.blk s H scope (compEnvC scope cl C X.env) fp) tg g) (ok : TgOkW X.K G (own.map (·.2)) g s)
    (ht : ∀ (s : Shared) (H : Hp) (C : Addr) (cl : List (Str × Addr)) (fp : List Addr), PTs (X.blk s H scope (compEnvC scope cl C X.env) fp) ifs tt) (htt : ∀ σ H Q, tT X.K G WN t σ H Q → tt σ H Q)
    (he : ∀ (s : Shared) (H : Hp) (C : Addr) (cl : List (Str × Addr)) (fp : List Addr), PE (X.blk s H scope (compEnvC scope cl C X.env) fp) elt (tM X.K G WN m)) (hs : ∀ x, foldedSetIterable iter X.env x = pure x := by intro _; rfl)
    (hy : X.N[i]? = some y := by rfl) (hyl : X.env.scope.names.lookup y = some .local := by rfl) :
    PS X (.Assign [.Name y py] (.ListComp elt [⟨tg, iter, ifs, 0⟩] scope pos) spos) (tS X.K G W (sSet i (eLc mi s t m (own.map (·.2))))) :=
  psImp (ps_setLc hc hN hy hyl hsw hi bk hg ht he hs) fun D0 σ H q => by
    obtain ⟨ρ, h, env, hr, he, p⟩ := q
    refine lc_sound oi ok htt (fun _ _ _ z => z) σ H _ (tG_mono (tS_bind (rel := relV X.K) hr he p) fun x H1 ⟨ρ1, h1, d, e1, hr1, he1, r1, p1⟩ => ?_)
    exact p1.nx_ hr1 (he1.set r1 i)
theorem inBlkE {k : Nat} {s : Shared} {H : Hp} {scope : Scope} {cenv : Env} {fp : List Addr} {t : TE} (c : Ct X W k) (f : Ct (X.blk s H scope cenv fp) WN k → PE (X.blk s H scope cenv fp) e t) : PE (X.blk s H scope cenv fp) e t := f (c.blk _ _ _ _ _)
theorem inBlkT {k : Nat} {s : Shared} {H : Hp} {scope : Scope} {cenv : Env} {fp : List Addr} {t : TT} (c : Ct X W k) (f : Ct (X.blk s H scope cenv fp) WN k → PT (X.blk s H scope cenv fp) e t) : PTs (X.blk s H scope cenv fp) [e] t := pts_one (f (c.blk _ _ _ _ _))
theorem yes_imp : ∀ σ H Q, tT K G WN tYesM σ H Q → tYes σ H Q := fun σ H Q ⟨ρ, h, env, hr, he, p⟩ => p ρ H true Ex.refl hr rfl
end
/-! ### range with a step -/
def rngS (lo c : Int) (n : Nat) : List D := (List.range n).map fun (i : Nat) => D.int (lo + (i : Int) * c)
def okR3 (i j c : Int) : Bool := decide (c ≠ 0) && decide (c.natAbs < 1073741824) && PySem.Builtin.Range.small i j c
def cntR3 (i j c : Int) : Nat := (PySem.Builtin.Range.rangeSize i j c).toNat
def mRng3 (ma mb mc : M) : Ev → Hh → R Src := fun env h => (ma env h).bind fun d h1 => (mb env h1).bind fun e h2 => (mc env h2).bind fun f h3 => match d, e, f with
  | .int i, .int j, .int c => if okR3 i j c = true then .ok (rngS i c (cntR3 i j c), none) h3 else .bad
  | _, _, _ => .bad
section
variable {X : Cx} {G : Cl} {W : WX} {K : PySem.W.Frag} {ρ : List Addr} {H : Hp} {h : Hh} {σ : L2.St} {env : Ev}
theorem walks_rngS {lo c : Int} {n : Nat} : Walks K G ρ H (Itc lo c n) (rngS lo c n) none := by
  have hl : (rngS lo c n).length = n := by unfold rngS; simp
  refine ⟨fun i ρ' H' h' hr e _ hi => by rw [hl] at hi; exact hi, fun i ρ' H' h' x H2 hr e _ y d hd => ?_, fun ρ' H' h' hr e _ => by rw [hl]; exact Nat.le_refl _⟩
  obtain ⟨rfl, rfl⟩ := y
  unfold rngS at hd
  rw [List.getElem?_map] at hd
  cases q : (List.range n)[i]? with
  | none => rw [q] at hd; cases hd
  | some j =>
    rw [q] at hd
    cases hd
    obtain ⟨h1, h2⟩ := List.getElem?_eq_some_iff.mp q
    simp at h2
    subst h2
    exact ⟨rfl, .int _⟩
theorem io_rng3 {ma mb mc : M} : ItOk K G W (iRng3 (tL K G W (evs [ma, mb, mc]))) (mRng3 ma mb mc) := fun σ H R0 t => by
  obtain ⟨ρ, h, env, hr, he, p⟩ := t
  refine ⟨ρ, h, env, hr, he, ?_⟩
  unfold mRng3 at p
  show Po K G _ W ρ H σ ((ma env h).bind fun d h1 => ((mb env h1).bind fun d2 h2 => ((mc env h2).bind fun d3 h3 => (evs [] env h3).bind fun ds h4 => .ok (d3 :: ds) h4).bind fun ds h3 => .ok (d2 :: ds) h3).bind fun ds h2 => .ok (d :: ds) h2) _
  cases q : ma env h with
  | bad => rw [q] at p; exact p.elim
  | exc c fs h' => rw [q] at p; exact p
  | ok d h1 =>
    rw [q] at p
    simp only [R.bind_ok] at p ⊢
    cases q2 : mb env h1 with
    | bad => rw [q2] at p; exact p.elim
    | exc c fs h' => rw [q2] at p; exact p
    | ok d2 h2 =>
      rw [q2] at p
      simp only [R.bind_ok] at p ⊢
      cases q3 : mc env h2 with
      | bad => rw [q3] at p; exact p.elim
      | exc c fs h' => rw [q3] at p; exact p
      | ok d3 h3 =>
        rw [q3] at p
        simp only [R.bind_ok] at p ⊢
        split at p
        · rename_i i j c
          split at p
          · rename_i hj
            intro ρ' H' vs e a b
            cases b with
            | cons b1 b2 =>
              cases b2 with
              | cons b2 b3 =>
                cases b3 with
                | cons b3 b4 =>
                  cases b1; cases b2; cases b3; cases b4
                  unfold okR3 at hj
                  simp only [Bool.and_eq_true, decide_eq_true_eq] at hj
                  exact ⟨i, j, c, cntR3 i j c, rfl, ⟨hj.1.1, hj.1.2, hj.2, rangeSize_toNat i j c⟩, p ρ' H' _ e a walks_rngS⟩
          · exact p.elim
        · exact p.elim
end
/-! ### all, any, sum -/
def bools : List D → Option (List Bool)
  | [] => some []
  | .bl b :: r => (bools r).map (b :: ·)
  | _ :: _ => none
theorem bools_eq {K : PySem.W.Frag} {ρ : List Addr} {H : Hp} : ∀ {vs : List V} {ds : List D} {bs : List Bool}, Rvs K ρ H vs ds → bools ds = some bs → vs = bs.map V.bl
  | _, _, _, .nil, e => by cases e; rfl
  | _, _, bs, .cons (d := .bl b) h t, e => by
    simp only [bools, Option.map_eq_some_iff] at e
    obtain ⟨ms, e1, rfl⟩ := e
    cases h
    rw [List.map_cons, ← bools_eq t e1]
  | _, _, _, .cons (d := .non) h t, e => by simp [bools] at e
  | _, _, _, .cons (d := .int _) h t, e => by simp [bools] at e
  | _, _, _, .cons (d := .str _) h t, e => by simp [bools] at e
  | _, _, _, .cons (d := .tup _) h t, e => by simp [bools] at e
  | _, _, _, .cons (d := .fls _) h t, e => by simp [bools] at e
  | _, _, _, .cons (d := .ref _) h t, e => by simp [bools] at e
def opAll : List D → Hh → Option (D × Hh)
  | [.fls ds], h => (bools ds).map fun bs => (.bl (bs.all id), h)
  | [.ref n], h => match h[n]? with
    | some (.lst ds) => (bools ds).map fun bs => (.bl (bs.all id), h)
    | _ => none
  | _, _ => none
def opAny : List D → Hh → Option (D × Hh)
  | [.fls ds], h => (bools ds).map fun bs => (.bl (bs.any id), h)
  | [.ref n], h => match h[n]? with
    | some (.lst ds) => (bools ds).map fun bs => (.bl (bs.any id), h)
    | _ => none
  | _, _ => none
def opSum : List D → Hh → Option (D × Hh)
  | [.fls ds], h => (intsOf ds).map fun ns => (.int ns.sum, h)
  | [.ref n], h => match h[n]? with
    | some (.lst ds) => (intsOf ds).map fun ns => (.int ns.sum, h)
    | _ => none
  | _, _ => none
section
variable {X : Cx} {G : Cl} {W : WX} {e o a b c : Expr} {es : List Expr} {pos p : Pos} {m mo : M} {ms : List M} {K : PySem.W.Frag}
theorem im_all : ImpN K G (rAll K) opAll := fun {ρ H h xs ds d h' Q} hr rs e k => by
  unfold opAll at e
  split at e
  · obtain ⟨v, rfl, r⟩ := rs.one
    cases r with
    | fls t r2 =>
      rw [Option.map_eq_some_iff] at e
      obtain ⟨bs, e1, e2⟩ := e
      cases e2
      have q := t.sq
      rw [bools_eq r2 e1] at q
      exact ⟨_, bs, rfl, q, k _ _ _ Ex.refl hr (.bl _)⟩
  · obtain ⟨v, rfl, r⟩ := rs.one
    cases r with
    | ref ra =>
      split at e
      · rename_i zs e0
        rw [Option.map_eq_some_iff] at e
        obtain ⟨bs, e1, e2⟩ := e
        cases e2
        obtain ⟨vs, q, r2⟩ := ref_seq hr ra e0
        rw [bools_eq r2 e1] at q
        exact ⟨_, bs, rfl, q, k _ _ _ Ex.refl hr (.bl _)⟩
      · cases e
  · cases e
theorem im_any : ImpN K G (rAny K) opAny := fun {ρ H h xs ds d h' Q} hr rs e k => by
  unfold opAny at e
  split at e
  · obtain ⟨v, rfl, r⟩ := rs.one
    cases r with
    | fls t r2 =>
      rw [Option.map_eq_some_iff] at e
      obtain ⟨bs, e1, e2⟩ := e
      cases e2
      have q := t.sq
      rw [bools_eq r2 e1] at q
      exact ⟨_, bs, rfl, q, k _ _ _ Ex.refl hr (.bl _)⟩
  · obtain ⟨v, rfl, r⟩ := rs.one
    cases r with
    | ref ra =>
      split at e
      · rename_i zs e0
        rw [Option.map_eq_some_iff] at e
        obtain ⟨bs, e1, e2⟩ := e
        cases e2
        obtain ⟨vs, q, r2⟩ := ref_seq hr ra e0
        rw [bools_eq r2 e1] at q
        exact ⟨_, bs, rfl, q, k _ _ _ Ex.refl hr (.bl _)⟩
      · cases e
  · cases e
theorem im_sum : ImpN K G (rSum K) opSum := fun {ρ H h xs ds d h' Q} hr rs e k => by
  unfold opSum at e
  split at e
  · obtain ⟨v, rfl, r⟩ := rs.one
    cases r with
    | fls t r2 =>
      rw [Option.map_eq_some_iff] at e
      obtain ⟨bs, e1, e2⟩ := e
      cases e2
      have q := t.sq
      have := intsOf_eq e1
      subst this
      rw [r2.ints] at q
      exact ⟨_, bs, rfl, q, k _ _ _ Ex.refl hr (.int _)⟩
  · obtain ⟨v, rfl, r⟩ := rs.one
    cases r with
    | ref ra =>
      split at e
      · rename_i zs e0
        rw [Option.map_eq_some_iff] at e
        obtain ⟨bs, e1, e2⟩ := e
        cases e2
        obtain ⟨vs, q, r2⟩ := ref_seq hr ra e0
        have := intsOf_eq e1
        subst this
        rw [r2.ints] at q
        exact ⟨_, bs, rfl, q, k _ _ _ Ex.refl hr (.int _)⟩
      · cases e
  · cases e
/-! ### is True -/
def opIsB : D → D → Hh → Option (D × Hh)
  | .bl a, .bl b, h => some (.bl (decide (a = b)), h)
  | _, _, _ => none
theorem im_isB : Imp2 K G (fun x y H Q => ∃ a b : Bool, x = .bl a ∧ y = .bl b ∧ Q (.bl (decide (a = b))) H) opIsB := fun {ρ H h x y dx dy d h' Q} hr rx ry e k => by
  cases rx <;> cases ry <;> simp only [opIsB] at e <;> cases e
  exact ⟨_, _, rfl, rfl, k _ _ _ Ex.refl hr (.bl _)⟩
theorem se_isB {ma mb : M} {a b : Expr} (hu : X.A.units + 64 < cLine) (ha : PE X a (tM X.K G W ma)) (hb : PE X b (tM X.K G W mb)) : PE X (.Compare a [.Is] [b] pos) (tM X.K G W (eB opIsB ma mb)) := se_cmp op_is_bl im_isB ha hb (nomark _)
theorem st_isB {ma mb : M} {a b : Expr} (hu : X.A.units + 64 < cLine) (ha : PE X a (tM X.K G W ma)) (hb : PE X b (tM X.K G W mb)) : PT X (.Compare a [.Is] [b] pos) (tT X.K G W (tBl (eB opIsB ma mb))) := st_cmp op_is_bl im_isB ha hb (nomark _)
/-! ### += of numbers -/
def opIAddI : D → D → Hh → Option (D × Hh)
  | .int a, .int b, h => some (.int (a + b), h)
  | _, _, _ => none
theorem im_iaddI : Imp2 K G (rI0 fun i j => .int (i + j)) opIAddI := fun {ρ H h x y dx dy d h' Q} hr rx ry e k => by
  cases rx <;> cases ry <;> simp only [opIAddI] at e <;> cases e
  exact ⟨_, _, rfl, rfl, k _ _ _ Ex.refl hr (.int _)⟩
/-! ### extend -/
def opExtend : D → List D → Hh → Option (D × Hh)
  | .ref n, [.ref k], h => match h[n]?, h[k]? with
    | some (.lst xs), some (.lst ys) => if xs.length + ys.length ≤ sizeLine then some (.non, h.set n (.lst (xs ++ ys))) else none
    | _, _ => none
  | _, _, _ => none
theorem im_extend : ImpM K G rExtend opExtend := fun {ρ H h x o xs ds d h' Q} hr ro rs e k => by
  unfold opExtend at e
  split at e
  · cases ro with
    | ref ra =>
      obtain ⟨v, rfl, r⟩ := rs.one
      cases r with
      | ref rb =>
        split at e
        · rename_i zs ys e0 e1
          split at e
          · rename_i hl
            cases e
            obtain ⟨vs, q, r2⟩ := ref_lst hr ra e0
            obtain ⟨us, q1, r3⟩ := ref_lst hr rb e1
            exact ⟨_, _, vs, us, rfl, rfl, q, q1, by rw [r2.length, r3.length]; exact hl, wr_lst hr ra e0 (r2.append r3) .non k⟩
          · cases e
        · cases e
  · cases e
theorem se_extend (ho : PE X o (tM X.K G W mo)) (ha : PA X (e :: es) (tL X.K G W (evs ms))) {apos : Pos} (hbase : attributeBase o "extend" X.env (eval o X.env) = eval o X.env := by rfl)
    (hfew : ((backTo pos (starEach (e :: es) X.env)).all (fun x => !x.1) && (backToKw pos (keywordEach [] X.env)).all (fun x => x.1.isSome)
      && decide ((e :: es).length + ([] : List Keyword).length + (if ([] : List Keyword).isEmpty then 0 else 1) < 30)) = true := by rfl)
    (hline : (apos.endLine == pos.line) = true := by rfl) (hs : starEach (e :: es) X.env = (false, eval e X.env) :: starEach es X.env := by rfl) (hplain : (backTo pos (starEach es X.env)).any (·.1) = false := by rfl) :
    PE X (.Call (.Attribute o "extend" apos) (e :: es) [] pos) (tM X.K G W (eMt opExtend mo ms)) :=
  peImp (pe_bm PySem.F.plainAttrs_list PySem.F.slot_list_extend PySem.F.type_list_extend mt_extend ho ha hbase hfew hline hs hplain) fun σ H Q t => mt_imp im_extend σ H Q t
end
end Sm
/-! SmI: running the mirrors of SmH -/
namespace Sm
open PySem L2 PyProof.Rows
section
variable (env : Ev) (h : Hh) (f g : D → D → Hh → Option (D × Hh)) (a b c m : M) (d e : D) (ds xs ys : List D) (i j k n : Nat) (s1 s2 : S) (t u : MT) (tg : TgM) (vs : List Nat) (mi : Ev → Hh → R Src) (src : Src)
noncomputable def eLc1 (env : Ev) (r : R Src) : R D := r.bind fun src h1 => lcL tg t m vs h1.length src.2 env src.1 (h1 ++ [.lst []])
@[simp] theorem eLc_eq : eLc mi tg t m vs env h = eLc1 m t tg vs env (mi env h) := rfl
@[simp] theorem eLc1_ok : eLc1 m t tg vs env (.ok src h) = lcL tg t m vs h.length src.2 env src.1 (h ++ [.lst []]) := rfl
@[simp] theorem tYesM_eq : tYesM env h = .ok true h := rfl
def mRng31 (env : Ev) (r : R D) : R Src := r.bind fun d h1 => (b env h1).bind fun e h2 => (c env h2).bind fun f h3 => match d, e, f with
  | .int i, .int j, .int c => if okR3 i j c = true then .ok (rngS i c (cntR3 i j c), none) h3 else .bad
  | _, _, _ => .bad
def mRng32 (env : Ev) (d : D) (r : R D) : R Src := r.bind fun e h2 => (c env h2).bind fun f h3 => match d, e, f with
  | .int i, .int j, .int c => if okR3 i j c = true then .ok (rngS i c (cntR3 i j c), none) h3 else .bad
  | _, _, _ => .bad
def mRng33 (d e : D) (r : R D) : R Src := r.bind fun f h3 => match d, e, f with
  | .int i, .int j, .int c => if okR3 i j c = true then .ok (rngS i c (cntR3 i j c), none) h3 else .bad
  | _, _, _ => .bad
@[simp] theorem mRng3_eq : mRng3 a b c env h = mRng31 b c env (a env h) := rfl
@[simp] theorem mRng31_ok : mRng31 b c env (.ok d h) = mRng32 c env d (b env h) := rfl
@[simp] theorem mRng32_ok : mRng32 c env d (.ok e h) = mRng33 d e (c env h) := rfl
@[simp] theorem mRng33_ok (x y z : Int) : mRng33 (.int x) (.int y) (.ok (.int z) h) = if okR3 x y z = true then .ok (rngS x z (cntR3 x y z), none) h else .bad := rfl
@[simp] theorem opAll_r : opAll [.ref n] h = match h[n]? with
    | some (.lst ds) => (bools ds).map fun bs => (.bl (bs.all id), h)
    | _ => none := rfl
@[simp] theorem opAny_r : opAny [.ref n] h = match h[n]? with
    | some (.lst ds) => (bools ds).map fun bs => (.bl (bs.any id), h)
    | _ => none := rfl
@[simp] theorem opSum_r : opSum [.ref n] h = match h[n]? with
    | some (.lst ds) => (intsOf ds).map fun ns => (.int ns.sum, h)
    | _ => none := rfl
@[simp] theorem opIsB_bb (p q : Bool) : opIsB (.bl p) (.bl q) h = some (.bl (decide (p = q)), h) := rfl
@[simp] theorem opIAddI_ii (x y : Int) : opIAddI (.int x) (.int y) h = some (.int (x + y), h) := rfl
@[simp] theorem opExtend_rr : opExtend (.ref n) [.ref k] h = match h[n]?, h[k]? with
    | some (.lst xs), some (.lst ys) => if xs.length + ys.length ≤ sizeLine then some (.non, h.set n (.lst (xs ++ ys))) else none
    | _, _ => none := rfl
end
/-- a comprehension that changes nothing -/
theorem lcL_pure {g : TgM} {t : MT} {m : M} {vs : List Nat} {gd : Option (Nat × O)} {env : Ev} (h : Hh) (f : D → D) (hg : ∀ acc, gdOk gd (h ++ [.lst acc])) : ∀ (xs acc : List D),
    (∀ x ∈ xs, ∀ acc, ∃ env1, g x (h ++ [.lst acc]) (wipeE env vs) = some env1 ∧ t env1 (h ++ [.lst acc]) = .ok true (h ++ [.lst acc]) ∧ m env1 (h ++ [.lst acc]) = .ok (f x) (h ++ [.lst acc])) →
    acc.length + xs.length ≤ sizeLine → lcL g t m vs h.length gd env xs (h ++ [.lst acc]) = .ok (.ref h.length) (h ++ [.lst (acc ++ xs.map f)])
  | [], acc, _, _ => by
    unfold lcL
    rw [if_pos (hg acc)]
    simp
  | x :: xs, acc, hx, hl => by
    obtain ⟨env1, e1, e2, e3⟩ := hx x (by simp) acc
    rw [List.length_cons] at hl
    unfold lcL
    rw [if_pos (hg acc), e1]
    dsimp only
    rw [e2]
    dsimp only
    rw [e3]
    simp only [hp_at1]
    rw [if_pos (by omega)]
    have := lcL_pure h f hg xs (acc ++ [f x]) (fun y hy => hx y (by simp [hy])) (by simp; omega)
    simpa using this
/-- a comprehension, by what holds of the rest and of the list so far -/
theorem lcL_inv {g : TgM} {t : MT} {m : M} {vs : List Nat} {n : Nat} {gd : Option (Nat × O)} {env : Ev} (I : List D → List D → Hh → Prop)
    (hg : ∀ rest acc h, I rest acc h → gdOk gd h)
    (step : ∀ x rest acc h, I (x :: rest) acc h → ∃ env1 d h2, g x h (wipeE env vs) = some env1 ∧ t env1 h = .ok true h ∧ m env1 h = .ok d h2 ∧ h2[n]? = some (.lst acc) ∧ acc.length < sizeLine ∧ I rest (acc ++ [d]) (h2.set n (.lst (acc ++ [d])))) :
    ∀ (xs acc : List D) (h : Hh), I xs acc h → ∃ acc' h', lcL g t m vs n gd env xs h = .ok (.ref n) h' ∧ I [] acc' h'
  | [], acc, h, i => by
    refine ⟨acc, h, ?_, i⟩
    unfold lcL
    rw [if_pos (hg _ _ _ i)]
  | x :: xs, acc, h, i => by
    obtain ⟨env1, d, h2, e1, e2, e3, e4, hl, i'⟩ := step x xs acc h i
    obtain ⟨acc', h', e, j⟩ := lcL_inv I hg step xs _ _ i'
    refine ⟨acc', h', ?_, j⟩
    unfold lcL
    rw [if_pos (hg _ _ _ i), e1]
    dsimp only
    rw [e2]
    dsimp only
    rw [e3]
    dsimp only
    rw [e4]
    dsimp only
    rw [if_pos hl]
    exact e
theorem inR_ok {i : Int} (h0 : -2000000 ≤ i) (h1 : i ≤ 2000000) : inR i = true := Nat.ble_eq_true_of_le (by omega)
theorem rngS_succ (lo c : Int) (n : Nat) : rngS lo c (n + 1) = .int lo :: rngS (lo + c) c n := by
  unfold rngS
  rw [List.range_succ_eq_map, List.map_cons, List.map_map]
  congr 1
  · simp
  · apply List.map_congr_left
    intro a _
    simp only [Function.comp]
    congr 1
    rw [Nat.succ_eq_add_one, Int.natCast_add, Int.add_mul]
    simp
    omega
theorem rngS_zero (lo c : Int) : rngS lo c 0 = [] := rfl
end Sm
/-! SmPool: the drawing functions that many laws share, once. -/
namespace SmPool
open PySem L2 PyProof.Rows Sm
noncomputable def b__law_pool_2 : S := (sIf (tBl (eB opGt (eV 4) (eC (.int 0)))) (sSeq (sExpr (eMt opAppend (eV 1) [(eB opMod (eN opInt [(eV 4)]) (eC (.int 1000)))]))
    (sSet 4 (eB opFdiv (eV 4) (eC (.int 1000))))) sSkip)
noncomputable def b__law_pool_1 : S := (sSeq (sSet 4 (eB opMod (eN opInt [(eB opAdd (eB opMul (eC (.int 2)) (eN opAbs [(eN opInt [(eV 3)])])) (eN opInt [(eB opLt (eV 3) (eC (.int 0)))]))]) (eB opPow (eC (.int 10)) (eC (.int 60)))))
    (sSeq (sSet 2 (eB opMod (eN opInt [(eB opAdd (eB opAdd (eB opMul (eV 2) (eC (.int 48271))) (eV 4)) (eC (.int 11)))]) (eC (.int 2147483647))))
    (sSeq (sIf (tBl (eB opLt (eV 4) (eB opPow (eC (.int 10)) (eC (.int 18))))) (sSeq (sExpr (eMt opAppend (eV 1) [(eB opFdiv (eB opMod (eN opInt [(eB opMul (eV 2) (eC (.int 742938285)))]) (eC (.int 2147483399))) (eC (.int 64)))]))
    (sSet 4 (eC (.int 0)))) sSkip)
    (sFor (mRng1 (eC (.int 20))) (gtName 5) b__law_pool_2))))
noncomputable def b__law_pool : S := (sSeq (sSet 1 (eLst []))
    (sSeq (sSet 2 (eC (.int 7)))
    (sSeq (sFor (mSeq (eSl (eV 0) none (some (eC (.int 63))))) (gtName 3) b__law_pool_1)
    (sRet (eB opAdd (eLst [(eV 2)]) (eU opRev (eV 1)))))))
noncomputable def m__law_pool : Fm := fnM 6 b__law_pool
noncomputable def b__law_take : S := (sSeq (sIf (tBl (eB opGt (eN opLen [(eV 0)]) (eC (.int 1)))) (sRet (eB opMod (eN opInt [(eMt opPop (eV 0) [])]) (eV 1))) sSkip)
    (sSeq (sSetIx (eV 0) (eC (.int 0)) (eB opMod (eN opInt [(eB opAdd (eB opMul (eB opIx (eV 0) (eC (.int 0))) (eC (.int 48271))) (eC (.int 11)))]) (eC (.int 2147483647))))
    (sRet (eB opMod (eN opInt [(eB opFdiv (eB opMod (eN opInt [(eB opMul (eB opIx (eV 0) (eC (.int 0))) (eC (.int 742938285)))]) (eC (.int 2147483399))) (eC (.int 64)))]) (eV 1)))))
noncomputable def m__law_take : Fm := fnM 2 b__law_take
noncomputable def b__law_wide : S := (sRet (eB opMod (eN opInt [(eB opAdd (eB opMul (eCall m__law_take [(eV 0), (eC (.int 1000))]) (eC (.int 1000))) (eCall m__law_take [(eV 0), (eC (.int 1000))]))]) (eV 1)))
noncomputable def m__law_wide : Fm := fnM 2 b__law_wide
noncomputable def b__law_edge : S := (sSeq (sSet 2 (eCall m__law_take [(eV 0), (eC (.int 6))]))
    (sSeq (sIf (tBl (eB opEq (eV 2) (eC (.int 0)))) (sRet (eC (.int 0))) sSkip)
    (sSeq (sIf (tBl (eB opEq (eV 2) (eC (.int 1)))) (sRet (eV 1)) sSkip)
    (sSeq (sIf (tBl (eB opEq (eV 2) (eC (.int 2)))) (sRet (eN opMax [(eC (.int 0)), (eB opSub (eV 1) (eCall m__law_take [(eV 0), (eC (.int 3))]))])) sSkip)
    (sSeq (sIf (tBl (eB opEq (eV 2) (eC (.int 3)))) (sRet (eN opMin [(eV 1), (eCall m__law_take [(eV 0), (eC (.int 8))])])) sSkip)
    (sRet (eCall m__law_wide [(eV 0), (eB opAdd (eV 1) (eC (.int 1)))])))))))
noncomputable def m__law_edge : Fm := fnM 3 b__law_edge
/-- a pool stands at n -/
def Pl (h : Hh) (n : Nat) : Prop := ∃ p : List Int, p ≠ [] ∧ p.length ≤ 2000 ∧ h[n]? = some (.lst (p.map D.int))
theorem take_spec {h : Hh} {n : Nat} {m : Int} {p : List Int} (hp : p ≠ []) (hl : p.length ≤ 2000) (e : h[n]? = some (.lst (p.map D.int))) (hm : 0 < m) :
    ∃ (r : Int) (q : List Int), q ≠ [] ∧ q.length ≤ 2000 ∧ 0 ≤ r ∧ r < m ∧ m__law_take [.ref n, .int m] h = .ok (.int r) (h.set n (.lst (q.map D.int))) := by
  obtain ⟨hn, e'⟩ := List.getElem?_eq_some_iff.mp e
  by_cases hlen : 1 < p.length
  · have hlen' : (1 : Int) < (p.length : Int) := by omega
    obtain ⟨y, hy⟩ : ∃ y, p[p.length - 1]? = some y := ⟨p[p.length - 1], by simp⟩
    refine ⟨y % m, p.dropLast, ?_, ?_, Int.emod_nonneg _ (by omega), Int.emod_lt_of_pos _ hm, ?_⟩
    · intro z
      have := congrArg List.length z
      simp at this
      omega
    · simp; omega
    · simp [m__law_take, b__law_take, e, hlen', hy, hm]
  · cases p with
    | nil => exact absurd rfl hp
    | cons x p =>
      have hp0 : p = [] := by
        cases p with
        | nil => rfl
        | cons _ _ => simp at hlen
      subst hp0
      refine ⟨(((x * 48271 + 11) % 2147483647) * 742938285 % 2147483399 / 64) % m, [(x * 48271 + 11) % 2147483647], by simp, by simp, Int.emod_nonneg _ (by omega), Int.emod_lt_of_pos _ hm, ?_⟩
      have hs : ∀ o : O, (h.set n o)[n]? = some o := fun o => List.getElem?_set_self hn
      simp [m__law_take, b__law_take, e, hm, mulOk_r, ixN, atI, hs]

theorem big_line {n : Nat} (h : n ≤ 3000) : n < sizeLine := by rw [sizeLine_eq]; omega
theorem inner_spec (h : Hh) (cells : O) (e0 e2 e3 : Option D) (num : Int) (e5 : Option D) (xs : List D) (p : List Int) (hl : p.length + xs.length ≤ 2900) :
    ∃ (q : List Int) (num' : Int) (e5' : Option D), q.length ≤ p.length + xs.length ∧ forL (gtName 5) b__law_pool_2 none xs [e0, some (.ref h.length), e2, e3, some (.int num), e5] (h ++ [.lst (p.map D.int), cells]) =
      .nx [e0, some (.ref h.length), e2, e3, some (.int num'), e5'] (h ++ [.lst (q.map D.int), cells]) := by
  obtain ⟨e', h', eq, q, num', e5', hq, rfl, rfl⟩ := forL_inv (g := gtName 5) (body := b__law_pool_2) (gd := none)
    (fun rest env h' => ∃ (q : List Int) (num' : Int) (e5' : Option D), q.length + rest.length ≤ p.length + xs.length ∧ env = [e0, some (.ref h.length), e2, e3, some (.int num'), e5'] ∧ h' = h ++ [.lst (q.map D.int), cells])
    xs _ _ ⟨p, num, e5, Nat.le_refl _, rfl, rfl⟩ (fun _ _ _ _ => trivial) (fun x rest env h' => by
      rintro ⟨q, num', e5', hq, rfl, rfl⟩
      rw [List.length_cons] at hq
      have hq' : q.length < sizeLine := big_line (by omega)
      refine ⟨_, rfl, ?_⟩
      by_cases hn : 0 < num'
      · exact ⟨[e0, some (.ref h.length), e2, e3, some (.int (num' / 1000)), some x], h ++ [.lst ((q ++ [num' % 1000]).map D.int), cells], by simp [b__law_pool_2, hn, hq'], q ++ [num' % 1000], num' / 1000, some x, by simp; omega, rfl, rfl⟩
      · exact ⟨[e0, some (.ref h.length), e2, e3, some (.int num'), some x], h ++ [.lst (q.map D.int), cells], by simp [b__law_pool_2, hn], q, num', some x, by omega, rfl, rfl⟩)
  exact ⟨q, num', e5', by simpa using hq, eq⟩
theorem rngD_len (lo : Int) (n : Nat) : (rngD lo n).length = n := by unfold rngD; simp
theorem pool_turn (h : Hh) (cells : O) (e0 : Option D) (seed y : Int) (e4 e5 : Option D) (q : List Int) (hq : q.length ≤ 1400) :
    ∃ (q2 : List Int) (seed' : Int) (e4' e5' : Option D), q2.length ≤ q.length + 21 ∧ b__law_pool_1 [e0, some (.ref h.length), some (.int seed), some (.int y), e4, e5] (h ++ [.lst (q.map D.int), cells]) =
      .nx [e0, some (.ref h.length), some (.int seed'), some (.int y), e4', e5'] (h ++ [.lst (q2.map D.int), cells]) := by
  have hq' : q.length < sizeLine := big_line (by omega)
  have h60 : (10 : Int) ^ 60 = 1000000000000000000000000000000000000000000000000000000000000 := by decide
  have h18 : (10 : Int) ^ 18 = 1000000000000000000 := by decide
  have hb : ∀ (b : Bool), (if b = true then (1 : Int) else 0) = (if b = true then (1 : Int) else 0) := fun _ => rfl
  generalize hN : (2 * (if y < 0 then -y else y) + (if decide (y < 0) = true then 1 else 0)) % (1000000000000000000000000000000000000000000000000000000000000 : Int) = N
  by_cases hn : N < 1000000000000000000
  · obtain ⟨q2, n2, e2, hl, eq⟩ := inner_spec h cells e0 (some (.int ((seed * 48271 + N + 11) % 2147483647))) (some (.int y)) 0 e5 (rngD 0 20) (q ++ [(seed * 48271 + N + 11) % 2147483647 * 742938285 % 2147483399 / 64]) (by rw [rngD_len]; simp; omega)
    rw [rngD_len, List.length_append] at hl
    refine ⟨q2, (seed * 48271 + N + 11) % 2147483647, some (.int n2), e2, by simp at hl; omega, ?_⟩
    rw [List.map_append, List.map_cons, List.map_nil] at eq
    rw [← eq]
    simp [b__law_pool_1, mulOk_r, mulOk_l, h60, h18, Sm.inR] at hN ⊢
    simp [hN, hn, hq', mulOk_r, mulOk_l, Sm.inR]
  · obtain ⟨q2, n2, e2, hl, eq⟩ := inner_spec h cells e0 (some (.int ((seed * 48271 + N + 11) % 2147483647))) (some (.int y)) N e5 (rngD 0 20) q (by rw [rngD_len]; omega)
    rw [rngD_len] at hl
    refine ⟨q2, (seed * 48271 + N + 11) % 2147483647, some (.int n2), e2, by omega, ?_⟩
    rw [← eq]
    simp [b__law_pool_1, mulOk_r, mulOk_l, h60, h18, Sm.inR] at hN ⊢
    simp [hN, hn, mulOk_r, mulOk_l, Sm.inR]
theorem pool_spec (ns : List Int) (hl : ns.length ≤ 63) (h : Hh) : ∃ (p : List Int) (a b c d : O), p ≠ [] ∧ p.length ≤ 2000 ∧
    m__law_pool [.fls (ns.map D.int)] h = .ok (.ref (h.length + 4)) (h ++ [a, b, c, d, .lst (p.map D.int)]) := by
  obtain ⟨e', h', eq, seed, q, e3, e4, e5, ⟨⟨r, hr⟩, hq⟩, rfl, rfl⟩ := forL_inv (g := gtName 3) (body := b__law_pool_1) (gd := some (h.length + 1, .lst (ns.map D.int)))
    (fun rest env h' => ∃ (seed : Int) (q : List Int) (e3 e4 e5 : Option D), ((∃ r : List Int, rest = r.map D.int) ∧ q.length + 21 * rest.length ≤ 1323) ∧ env = [some (.fls (ns.map D.int)), some (.ref h.length), some (.int seed), e3, e4, e5] ∧ h' = h ++ [.lst (q.map D.int), .lst (ns.map D.int)])
    (ns.map D.int) [some (.fls (ns.map D.int)), some (.ref h.length), some (.int 7), none, none, none] (h ++ [.lst [], .lst (ns.map D.int)]) ⟨7, [], none, none, none, ⟨⟨ns, rfl⟩, by simp; omega⟩, rfl, rfl⟩
    (fun rest env h' ⟨_, _, _, _, _, _, _, z⟩ => by subst z; simp) (fun x rest env h' => by
      rintro ⟨seed, q, e3, e4, e5, ⟨⟨r, hr⟩, hq⟩, rfl, rfl⟩
      cases r with
      | nil => cases hr
      | cons y r =>
        obtain ⟨rfl, rfl⟩ := List.cons.inj hr
        rw [List.length_cons] at hq
        obtain ⟨q2, seed', e4', e5', l2, eq⟩ := pool_turn h (.lst (ns.map D.int)) (some (.fls (ns.map D.int))) seed y e4 e5 q (by omega)
        exact ⟨_, rfl, _, _, eq, seed', q2, some (.int y), e4', e5', ⟨⟨r, rfl⟩, by omega⟩, rfl, rfl⟩)
  have hc : cutD (ns.map D.int) none (some 63) = ns.map D.int := by
    have := cut_to (xs := ns.map D.int) (n := 63)
    rw [List.take_of_length_le (by simpa using hl)] at this
    exact this
  have hz : 1 + q.length ≤ sizeLine := by rw [sizeLine_eq]; simp at hq; omega
  refine ⟨seed :: q.reverse, .lst (q.map D.int), .lst (ns.map D.int), .lst [.int seed], .lst (q.reverse.map D.int), by simp, by simp at hq ⊢; omega, ?_⟩
  simp [m__law_pool, b__law_pool, hc, eq, hz]
/-! ### draws: the pool at n -/
theorem set_at {h : Hh} {n : Nat} {o u : O} (e : h[n]? = some u) : (h.set n o)[n]? = some o := List.getElem?_set_self (List.getElem?_eq_some_iff.mp e).1
theorem wide_spec {h : Hh} {n : Nat} {m : Int} {p : List Int} (hp : p ≠ []) (hl : p.length ≤ 2000) (e : h[n]? = some (.lst (p.map D.int))) (hm : 0 < m) :
    ∃ (r : Int) (q : List Int), q ≠ [] ∧ q.length ≤ 2000 ∧ 0 ≤ r ∧ r < m ∧ m__law_wide [.ref n, .int m] h = .ok (.int r) (h.set n (.lst (q.map D.int))) := by
  obtain ⟨r1, q1, a1, b1, _, _, e1⟩ := take_spec (m := 1000) hp hl e (by decide)
  obtain ⟨r2, q2, a2, b2, _, _, e2⟩ := take_spec (h := h.set n (.lst (q1.map D.int))) (m := 1000) a1 b1 (set_at e) (by decide)
  refine ⟨(r1 * 1000 + r2) % m, q2, a2, b2, Int.emod_nonneg _ (by omega), Int.emod_lt_of_pos _ hm, ?_⟩
  simp [m__law_wide, b__law_wide, e1, e2, mulOk_r, hm]
theorem edge_spec {h : Hh} {n : Nat} {m : Int} {p : List Int} (hp : p ≠ []) (hl : p.length ≤ 2000) (e : h[n]? = some (.lst (p.map D.int))) (hm : 0 ≤ m) :
    ∃ (r : Int) (q : List Int), q ≠ [] ∧ q.length ≤ 2000 ∧ 0 ≤ r ∧ r ≤ m ∧ m__law_edge [.ref n, .int m] h = .ok (.int r) (h.set n (.lst (q.map D.int))) := by
  obtain ⟨k, q1, a1, b1, k1, k2, e1⟩ := take_spec (m := 6) hp hl e (by decide)
  have e' := set_at (o := .lst (q1.map D.int)) e
  by_cases h0 : k = 0
  · subst h0
    exact ⟨0, q1, a1, b1, by omega, by omega, by simp [m__law_edge, b__law_edge, e1]⟩
  by_cases h1 : k = 1
  · subst h1
    exact ⟨m, q1, a1, b1, by omega, by omega, by simp [m__law_edge, b__law_edge, e1]⟩
  by_cases h2 : k = 2
  · subst h2
    obtain ⟨r2, q2, a2, b2, _, _, e2⟩ := take_spec (m := 3) a1 b1 e' (by decide)
    exact ⟨if m - r2 > 0 then m - r2 else 0, q2, a2, b2, by split <;> omega, by split <;> omega, by simp [m__law_edge, b__law_edge, e1, e2]⟩
  by_cases h3 : k = 3
  · subst h3
    obtain ⟨r2, q2, a2, b2, _, _, e2⟩ := take_spec (m := 8) a1 b1 e' (by decide)
    exact ⟨if r2 < m then r2 else m, q2, a2, b2, by split <;> omega, by split <;> omega, by simp [m__law_edge, b__law_edge, e1, e2]⟩
  obtain ⟨r2, q2, a2, b2, _, _, e2⟩ := wide_spec (m := m + 1) a1 b1 e' (by omega)
  exact ⟨r2, q2, a2, b2, by omega, by omega, by simp [m__law_edge, b__law_edge, e1, e2, h0, h1, h2, h3]⟩
theorem wide_spec' {h : Hh} {n : Nat} {m : Int} {u : O} {p : List Int} (e : h[n]? = some u) (hp : p ≠ []) (hl : p.length ≤ 2000) (hm : 0 < m) :
    ∃ (r : Int) (q : List Int), q ≠ [] ∧ q.length ≤ 2000 ∧ 0 ≤ r ∧ r < m ∧ m__law_wide [.ref n, .int m] (h.set n (.lst (p.map D.int))) = .ok (.int r) (h.set n (.lst (q.map D.int))) := by
  obtain ⟨r, q, a, b, c, d, f⟩ := wide_spec hp hl (set_at e) hm
  exact ⟨r, q, a, b, c, d, by rw [f, List.set_set]⟩
theorem take_spec' {h : Hh} {n : Nat} {m : Int} {u : O} {p : List Int} (e : h[n]? = some u) (hp : p ≠ []) (hl : p.length ≤ 2000) (hm : 0 < m) :
    ∃ (r : Int) (q : List Int), q ≠ [] ∧ q.length ≤ 2000 ∧ 0 ≤ r ∧ r < m ∧ m__law_take [.ref n, .int m] (h.set n (.lst (p.map D.int))) = .ok (.int r) (h.set n (.lst (q.map D.int))) := by
  obtain ⟨r, q, a, b, c, d, f⟩ := take_spec hp hl (set_at e) hm
  exact ⟨r, q, a, b, c, d, by rw [f, List.set_set]⟩
theorem edge_spec' {h : Hh} {n : Nat} {m : Int} {u : O} {p : List Int} (e : h[n]? = some u) (hp : p ≠ []) (hl : p.length ≤ 2000) (hm : 0 ≤ m) :
    ∃ (r : Int) (q : List Int), q ≠ [] ∧ q.length ≤ 2000 ∧ 0 ≤ r ∧ r ≤ m ∧ m__law_edge [.ref n, .int m] (h.set n (.lst (p.map D.int))) = .ok (.int r) (h.set n (.lst (q.map D.int))) := by
  obtain ⟨r, q, a, b, c, d, f⟩ := edge_spec hp hl (set_at e) hm
  exact ⟨r, q, a, b, c, d, by rw [f, List.set_set]⟩
theorem get_app {h g : Hh} {n : Nat} {o : O} (e : h[n]? = some o) : (h ++ g)[n]? = some o := by
  rw [List.getElem?_append_left (List.getElem?_eq_some_iff.mp e).1]
  exact e
theorem set_app {h g : Hh} {n : Nat} {o u : O} (e : h[n]? = some o) : (h ++ g).set n u = h.set n u ++ g := List.set_append_left _ _ (List.getElem?_eq_some_iff.mp e).1

/-- what stood still stands, but the pool at p -/
def Xt (p : Nat) (h h' : Hh) : Prop := ∀ n o, n ≠ p → h[n]? = some o → h'[n]? = some o
theorem Xt.refl {p : Nat} {h : Hh} : Xt p h h := fun _ _ _ e => e
theorem Xt.trans {p : Nat} {h h1 h2 : Hh} (a : Xt p h h1) (b : Xt p h1 h2) : Xt p h h2 := fun n o q e => b n o q (a n o q e)
theorem Xt.app {p : Nat} {h g : Hh} : Xt p h (h ++ g) := fun _ _ _ e => get_app e
theorem Xt.set {p : Nat} {h : Hh} {o : O} : Xt p h (h.set p o) := fun n u q e => by rw [List.getElem?_set_ne (fun z => q z.symm)]; exact e
theorem Pl.app {h g : Hh} {p : Nat} (a : Pl h p) : Pl (h ++ g) p := by
  obtain ⟨q, x, y, z⟩ := a
  exact ⟨q, x, y, get_app z⟩
theorem Pl.lt {h : Hh} {p : Nat} (a : Pl h p) : p < h.length := by
  obtain ⟨q, x, y, z⟩ := a
  exact (List.getElem?_eq_some_iff.mp z).1
theorem take_x {h : Hh} {p : Nat} {m : Int} (a : Pl h p) (hm : 0 < m) : ∃ r h', 0 ≤ r ∧ r < m ∧ Pl h' p ∧ Xt p h h' ∧ h'.length = h.length ∧ m__law_take [.ref p, .int m] h = .ok (.int r) h' := by
  obtain ⟨q, x, y, z⟩ := a
  obtain ⟨r, q', x', y', c, d, e⟩ := take_spec x y z hm
  exact ⟨r, _, c, d, ⟨q', x', y', set_at z⟩, Xt.set, by simp, e⟩
theorem wide_x {h : Hh} {p : Nat} {m : Int} (a : Pl h p) (hm : 0 < m) : ∃ r h', 0 ≤ r ∧ r < m ∧ Pl h' p ∧ Xt p h h' ∧ h'.length = h.length ∧ m__law_wide [.ref p, .int m] h = .ok (.int r) h' := by
  obtain ⟨q, x, y, z⟩ := a
  obtain ⟨r, q', x', y', c, d, e⟩ := wide_spec x y z hm
  exact ⟨r, _, c, d, ⟨q', x', y', set_at z⟩, Xt.set, by simp, e⟩
theorem edge_x {h : Hh} {p : Nat} {m : Int} (a : Pl h p) (hm : 0 ≤ m) : ∃ r h', 0 ≤ r ∧ r ≤ m ∧ Pl h' p ∧ Xt p h h' ∧ h'.length = h.length ∧ m__law_edge [.ref p, .int m] h = .ok (.int r) h' := by
  obtain ⟨q, x, y, z⟩ := a
  obtain ⟨r, q', x', y', c, d, e⟩ := edge_spec x y z hm
  exact ⟨r, _, c, d, ⟨q', x', y', set_at z⟩, Xt.set, by simp, e⟩
theorem pool_x (ns : List Int) (hl : ns.length ≤ 63) : ∃ p h, Pl h p ∧ m__law_pool [.fls (ns.map D.int)] [] = .ok (.ref p) h := by
  obtain ⟨p, a, b, c, d, x, y, e⟩ := pool_spec ns hl []
  exact ⟨_, _, ⟨p, x, y, rfl⟩, e⟩
/-- all that stood stands -/
def Kp (h h' : Hh) : Prop := ∀ (n : Nat) (o : O), h[n]? = some o → h'[n]? = some o
theorem Kp.refl {h : Hh} : Kp h h := fun _ _ e => e
theorem Kp.trans {h h1 h2 : Hh} (a : Kp h h1) (b : Kp h1 h2) : Kp h h2 := fun n o e => b n o (a n o e)
theorem Kp.app {h g : Hh} : Kp h (h ++ g) := fun _ _ e => get_app e
theorem Kp.xt {h h' : Hh} {p : Nat} (a : Kp h h') : Xt p h h' := fun n o _ e => a n o e
theorem Kp.pl {h h' : Hh} {p : Nat} (a : Kp h h') (b : Pl h p) : Pl h' p := by
  obtain ⟨q, x, y, z⟩ := b
  exact ⟨q, x, y, a _ _ z⟩
theorem Kp.of_xt {h h' g : Hh} (a : Xt h.length (h ++ g) h') : Kp h h' := fun n o e => a n o (by have := (List.getElem?_eq_some_iff.mp e).1; omega) (get_app e)
theorem Pl.set_ne {H : Hh} {p j : Nat} {o : O} (P : Pl H p) (q : p ≠ j) : Pl (H.set j o) p := by
  obtain ⟨l, a, b, c⟩ := P
  exact ⟨l, a, b, by rw [List.getElem?_set_ne (fun z => q z.symm)]; exact c⟩
theorem Xt.set_new {p : Nat} {h H : Hh} {j : Nat} {o : O} (x : Xt p h H) (q : h.length ≤ j) : Xt p h (H.set j o) := fun n u hn e => by
  have := (List.getElem?_eq_some_iff.mp e).1
  rw [List.getElem?_set_ne (by omega)]
  exact x n u hn e
end SmPool
/-! SmX: own exceptions whose __init__ calls the built-in one through super() -/
namespace Sm
open PySem L2 PyProof.Rows
theorem bt_super : bootBuiltins "super" = some (.type "super") := by decide +kernel
section
variable {X : Cx} {pins : List (Addr × Obj)} {σ : L2.St} {H : Hp} {s : Shared} {E : Value → Shared → Prop}
/-- what K says of such a def and its class -/
structure SupK (X : Cx) (f cc cda D : Addr) (sn : Str) : Prop where
  hks : X.env.kindOf "super" = some .globalImplicit
  hkc : X.env.kindOf "__class__" = some .free
  hka : X.env.kindOf sn = some .local
  hfu : X.env.func = some f
  hco : X.env.code = .ref cda
  hcl : X.env.cells.lookup ("__class__" : Str) = some cc
  fd : ∃ o fd ar, X.K.lookup f = some o ∧ o.data = .func fd ∧ (fd.params.posonlyargs ++ fd.params.args).head? = some ar ∧ ar.arg = sn
  code : ∃ o vs file tf, X.K.lookup cda = some o ∧ o.data = .fields vs ∧ vs[2]? = some (.str file tf) ∧ ((X.prog.main.file : Str) == file) = true
  htop : (X.prog.main.scope.names.lookup ("super" : Str)).isSome = false
  cell : ∃ cl cld csl, X.K.lookup cc = some ⟨cl, cld, .cell (some (.ref D)), csl⟩
  cls : ∃ cdD, PySem.W.clsIn X.K D = some cdD
  mgs : X.mg "super" = none
  thi : PySem.W.nsIn X.K PySem.cStatics "thirdparty.any" = some none
/-- what K says of the class of the error that is made -/
structure SupC (K : PySem.W.Frag) (C D : Addr) : Prop where
  oex : OexC K C
  sub : PySem.W.mroIn K C (.ref D) = some true
  sup : PySem.W.ks_superIn K C D "__init__" = some (some (.builtin "ValueError.__init__"))
  val : PySem.W.subIn K (.ref C) (.type "ValueError") = some true
open PySem.W in
theorem wp_super_init {f cc cda D a C : Addr} {sn : Str} {body : List Stmt} {p0 p1 p2 p3 pos spos : Pos} {m : Str} {j : Nat} {pl : Sem Bool} (S : SupK X f cc cda D sn) (T : SupC X.K C D) (I : Inv X pins σ H s) (hN : X.N[0]? = some sn) (hσ : σ[0]? = some (some (.ref a))) (ha : H a = some (exo a C none)) {Q : Flow → Shared → Prop}
    (hq : ∀ s', Inv X pins σ H s' → Q .next s')
    (he : eval (.Call (.Attribute (.Call (.Name "super" p0) [] [] p1) "__init__" p2) [.Constant (.str m) j p3] [] pos) X.env = (do
      let ov ← attributeBase (.Call (.Name "super" p0) [] [] p1) "__init__" X.env (eval (.Call (.Name "super" p0) [] [] p1) X.env)
      standAt p2.atName
      let (f, first) ← holding [ov] (getMethod ov "__init__" pl)
      callWith pos f first (backTo pos (starEach [.Constant (.str m) j p3] X.env)) []))
    (hs : starEach [.Constant (.str m) j p3] X.env = (false, eval (.Constant (.str m) j p3) X.env) :: starEach [] X.env := by rfl) :
    _root_.PySem.wpAt (model X.prog X.w) X.A (.func body X.env) (exec (.Expr (.Call (.Attribute (.Call (.Name "super" p0) [] [] p1) "__init__" p2) [.Constant (.str m) j p3] [] pos) spos) X.env) Q X.xe s := by
  obtain ⟨oF, fd, ar, hf, hfd, hp, rfl⟩ := S.fd
  obtain ⟨oc, vs, file, tf, hcode, hoc, hvs, hfile⟩ := S.code
  obtain ⟨cl, cld, csl, hcell⟩ := S.cell
  obtain ⟨cdD, hD⟩ := S.cls
  have KX := I.kIn
  obtain ⟨t1, ho⟩ := exo_at I.hok ha
  refine ks_wpAt_Expr_any (hi := I.quiet) (ks_wpAt_MethodCall (pl := pl) ?_ he)
  refine ks_wpAt_super_base S.hks S.hkc rfl S.hfu (KX _ _ hf) hfd hp S.hco (KX _ _ hcode) hoc hvs hfile S.htop ?_
  obtain ⟨mb, b1, b2⟩ := I.mod.blt
  refine ks_loadName_global I.ok.kind S.hks (Calls.loadGlobal_builtin (by rw [I.ok.glob]; exact I.mod.glob.keeps I.bk) S.mgs (by rw [I.ok.blt]; exact b1.keeps I.bk) ((b2 _ (by decide)).trans bt_super) ⟨rfl, ?_⟩)
  refine wpAny_loadName_free I.ok.kind S.hkc S.hcl ⟨_, KX _ _ hcell, rfl⟩ ?_
  obtain ⟨mm, hn, hl⟩ := I.loc
  obtain ⟨u, ru, lk⟩ := hl 0 ar.arg (.ref a) hN hσ (.inl S.hka)
  obtain rfl : u = Value.ref a := ru
  have hmm : mm ar.arg = some (.ref a) := by
    rcases lk with ⟨_, z⟩ | ⟨z, _⟩
    · exact z
    · rw [S.hka] at z
      rcases z with z | z <;> cases z
  refine wpAny_loadName_local I.ok.kind S.hka hn hmm ?_
  obtain ⟨oD, hD1, hD2⟩ : ∃ oD, s.heap.get? D = some oD ∧ oD.data = .cls cdD := by
    unfold clsIn at hD
    split at hD
    · rename_i c d cd' sl ho'
      cases hD
      exact ⟨_, KX _ _ ho', rfl⟩
    · cases hD
  obtain ⟨hh, g, d, t, os⟩ := s
  refine ks_wpAny_isType_cls hD1 hD2 ⟨rfl, ?_⟩
  refine ks_wpAny_call_super hD1 hD2 ho rfl (fun c e => by cases e) (looks_mroIn KX T.sub) (fun h' e k => ?_)
  have I2 : Inv X pins σ H ⟨h', g, d, t, os⟩ := I.kept k
  have KX2 := I2.kIn
  have ho2 := k _ _ ho
  have Ia : InstAt h' a { cls := .ref C, dict := none, data := .fields #[.ref t1, .none, .none, .none, .bool false, .none] } C none := ⟨ho2, rfl, rfl, trivial⟩
  have hI : Looks (model X.prog X.w) h' (isInstance (.ref a) (.type "ValueError")) true := Ia.type.andThen (looks_subIn KX2 T.val)
  have hsup := T.sup
  obtain ⟨cdC, hcC⟩ : ∃ cdC, clsIn X.K C = some cdC := by
    cases hc : clsIn X.K C with
    | none => unfold ks_superIn at hsup; rw [hc] at hsup; cases hsup
    | some cd => exact ⟨cd, rfl⟩
  unfold ks_superIn at hsup
  rw [hcC] at hsup
  refine kxs_getMethod kxs_ValueError e (looks_opaque KX2 S.thi) (l₀ := cdC.mro) (fun A Q E s k q => wpAny_bind ((looks_clsIn KX2 hcC) A _ E s k (wpAny_pure q))) rfl KX2 hsup hI (ks_ne KX2 Ia hcC) (by decide) ?_
  have k3 : ∀ b o, h'.get? b = some o → (h'.push (kxs_mw "ValueError.__init__" a)).get? b = some o := fun b o e => Heap.get?_push_of_some _ e
  have I3 : Inv X pins σ H ⟨h'.push (kxs_mw "ValueError.__init__" a), g, d, t + 1, os⟩ := I2.kept k3
  have hu : (h'.push (kxs_mw "ValueError.__init__" a)).get? h'.objs.size = some (kxs_mw "ValueError.__init__" a) := Heap.get?_push_at rfl rfl
  dsimp only
  rw [hs]
  refine kxs_callWith (i := "ValueError.__init__") (x := a) rfl (Calls.evalArgs_plain ?_)
  show wpAny _ _ (spliced ((false, eval (.Constant (.str m) j p3) X.env) :: backTo pos (starEach [] X.env))) _ _ _
  refine Calls.spliced_cons (Calls.Constant_str ?_)
  refine Calls.spliced_nil ⟨hu, ?_⟩
  obtain ⟨nm, q, N, bs, bm, sn', sub, ab, col, dd, k0, k1, k2, k3', k5, hC, hbm⟩ := T.oex.cls
  have he3 := k3 _ _ ho2
  have hC3 := I3.kIn _ _ hC
  have fin : ∀ h4, (∀ b o, b ≠ a → (h'.push (kxs_mw "ValueError.__init__" a)).get? b = some o → h4.get? b = some o) → (∃ t2 : Addr, h4.get? a = some ({ cls := .ref C, dict := none, data := .fields #[.ref t2, .none, .none, .none, .bool false, .none] } : Obj)) → ∀ t4, Q .next ⟨h4, g, d, t4, os⟩ := fun h4 k4 ⟨t2, hx⟩ t4 => by
    have J := I3.write (t' := t4) (x := a) (e := a) (o := exo a C none) (by rw [ha]; exact True.intro) (.inl rfl) k4 ⟨_, hx⟩ (exo_ok hx)
    have eu : upd H a (exo a C none) = H := by
      funext b
      by_cases hb : b = a
      · rw [hb, upd_same, ha]
      · rw [upd_ne hb]
    rw [eu] at J
    exact hq _ J
  refine wpAny_call (codeAny_of_tree ?_)
  show wpAny _ X.A.in1 (callAny (.ref h'.objs.size) ⟨[.str m _], []⟩) _ _ _
  simp only [callAny]
  refine wpAny_bind (wpAny_load hu ?_)
  simp only [kxs_mw, show (Value.type "method-wrapper" == Value.type "method" || Value.type "method-wrapper" == Value.type "builtin_function_or_method" || Value.type "method-wrapper" == Value.type "method-wrapper") = true by decide, if_true]
  refine KFB.if_so (by decide) ?_
  refine wpAny_bind (check_bound_init F.excBase_ValueError.toExcCallFacts hC3 he3 rfl ?_)
  refine wpAny_bind (wpAny_pure (wpAny_pure ?_))
  refine ⟨plainId_quiet F.excBase_ValueError.init.plain _, codeAny_builtin F.excBase_ValueError.initEntry ?_⟩
  exact exc_init_tree (cls := .ref C) (t0 := t1) (dv := none) (c2 := .none) (c3 := .none) (b4 := .bool false) he3 (by rw [sizeLine_eq, List.length_singleton]; omega) (fun h4 k4 hx _ => fin h4 k4 ⟨_, hx⟩ _)
end
section
open NdefX
variable {CX : CXT} {P : Program} {w : World} {K : PySem.W.Frag} {mg : Str → Option Value} {base : Heap} {k : Nat} {N ps : List Str} {F : NF} {f cc D : Addr} {dV kV doc pm ct : Value} {an : Option Addr} {sp : Sp} {p0 p1 p2 p3 pos spos : Pos} {m sn : Str} {j : Nat} {rest : List Stmt}
abbrev fdx (F : NF) (dV kV doc pm : Value) (an : Option Addr) (ct : Value) : FuncData := PySem.W.fnX F.name F.qual F.params F.body F.scope F.cl dV kV doc pm an (.ref F.c) ct
theorem fn_init {pl : Sem Bool} {oc : Value} {od : Option Addr} {osl : Array (Option Value)} (lk : K.lookup f = some ⟨oc, od, .func (fdx F dV kV doc pm an ct), osl⟩) (hcd : PySem.W.codeIn K (.ref F.c) F.qual = true) (S : NScope N ps ["__class__"] F.scope)
    (hcl : F.cl = [(("__class__" : Str), cc)]) (hbd : F.body = .Expr (.Call (.Attribute (.Call (.Name "super" p0) [] [] p1) "__init__" p2) [.Constant (.str m) j p3] [] pos) spos :: rest)
    (hpar : ∃ ar, (F.params.posonlyargs ++ F.params.args).head? = some ar ∧ ar.arg = sn) (hsn : ps[0]? = some sn) (hks : F.scope.names.lookup ("super" : Str) = some .globalImplicit)
    (code : ∃ o vs file tf, K.lookup F.c = some o ∧ o.data = .fields vs ∧ vs[2]? = some (.str file tf) ∧ ((P.main.file : Str) == file) = true) (htop : (P.main.scope.names.lookup ("super" : Str)).isSome = false)
    (hcell : ∃ cl cld csl, K.lookup cc = some ⟨cl, cld, .cell (some (.ref D)), csl⟩) (hcls : ∃ cdD, PySem.W.clsIn K D = some cdD) (mgs : mg "super" = none) (thi : PySem.W.nsIn K PySem.cStatics "thirdparty.any" = some none)
    (he : ∀ L, eval (.Call (.Attribute (.Call (.Name "super" p0) [] [] p1) "__init__" p2) [.Constant (.str m) j p3] [] pos) (envF F f L) = (do
      let ov ← attributeBase (.Call (.Name "super" p0) [] [] p1) "__init__" (envF F f L) (eval (.Call (.Name "super" p0) [] [] p1) (envF F f L))
      standAt p2.atName
      let (fm, first) ← holding [ov] (getMethod ov "__init__" pl)
      callWith pos fm first (backTo pos (starEach [.Constant (.str m) j p3] (envF F f L))) []))
    (len : ∀ vs H Q E, sp vs H Q E → vs.length = ps.length)
    (hbody : ∀ (A : Around) (outer : List Env) (s : Shared) (H : Hp) (vs : List V) (Q : VK) (E : XK), Room k (A.deeper (envF F f s.heap.objs.size)) → sp vs H Q E →
      (∃ a C, vs[0]? = some (.ref a) ∧ SupC K C D ∧ H a = some (exo a C none)) ∧ ∃ t, PSs (ncx CX P w K mg base N F f A outer s H E) rest t ∧ t { nx := fun _ H' => Q .non H', rt := Q } (startF N vs [some (.ref D)]) H) :
    FnOk P w K mg base CX (k + 1) f (fdx F dV kV doc pm an ct) ps sp := by
  refine ⟨len, fun A outer s H args us vs Q E hr e0 hb r hsp => ?_⟩
  have KX : K.In s.heap := e0.mod.kin.keeps fun b o e => (e0.bs b o e).1
  have hl := len _ _ _ _ hsp
  have lim : s.heap.NoLimit := e0.mod.nolimit.keeps fun b o e => (e0.bs b o e).1
  obtain ⟨⟨a, C, hva, T, ha⟩, t, ht, hq⟩ := hbody A outer s H vs Q E (hr.deeper _) hsp
  obtain ⟨cl, cld, csl, hc⟩ := hcell
  have Cs : CellsAt F.cl ["__class__"] [some (.ref D)] s.heap H := by
    rw [hcl]
    have one : ∀ y c, List.lookup y [(("__class__" : Str), cc)] = some c → y = "__class__" ∧ c = cc := fun y c e => by
      simp only [List.lookup] at e
      split at e
      · rename_i q
        cases e
        exact ⟨by simpa using q, rfl⟩
      · cases e
    refine ⟨rfl, fun y c e => ?_, fun x y c e1 e2 => by rw [(one _ _ e1).1, (one _ _ e2).1], fun i y e => ?_⟩
    · obtain ⟨rfl, rfl⟩ := one _ _ e
      exact ⟨(e0.bs _ _ (e0.mod.kin _ _ hc)).2, _, _, KX _ _ hc, rfl⟩
    · cases i with
      | zero =>
        cases e
        refine ⟨cc, by simp [List.lookup], fun v e => ?_⟩
        cases e
        exact ⟨.ref D, rfl, _, KX _ _ hc, rfl⟩
      | succ i => simp at e
  refine PySem.ks_codeAny_call_defAt (binds := ps.zip us) hr.depth (KX _ _ lk) rfl lim (PySem.W.codeRec_of KX hcd) rfl hb S.nocell (fun ⟨n, _⟩ hy => S.par n (List.of_mem_zip hy).1) (fun h₁ hns kp => ?_) S.co S.gen S.kind
  have I : Inv (ncx CX P w K mg base N F f A outer s H E) [] (startF N vs [some (.ref D)]) H { s with heap := h₁, toks := s.toks + (ps.zip us).length } := inv_startN S hr.hd e0 hl r Cs hns kp
  obtain ⟨ar, hp1, hp2⟩ := hpar
  have SK : SupK (ncx CX P w K mg base N F f A outer s H E) f cc F.c D sn := by
    refine ⟨hks, S.frk _ (by simp), S.par sn (List.mem_of_getElem? hsn), rfl, rfl, ?_, ⟨_, _, ar, lk, rfl, hp1, hp2⟩, code, htop, ⟨cl, cld, csl, hc⟩, hcls, mgs, thi⟩
    show F.cl.lookup ("__class__" : Str) = some cc
    rw [hcl]
    simp [List.lookup]
  have hN : N[0]? = some sn := by
    have h1 := S.pre
    have h2 : (N.take (ps.length + 1))[0]? = (ps ++ [("__class__" : Str)])[0]? := by rw [← h1]; rfl
    rw [List.getElem?_take_of_lt (by omega)] at h2
    rw [h2, List.getElem?_append_left (List.getElem?_eq_some_iff.mp hsn).1]
    exact hsn
  have hσ : (startF N vs [some (V.ref D)])[0]? = some (some (.ref a)) := by
    unfold startF
    rw [List.getElem?_append_left (by simpa using (List.getElem?_eq_some_iff.mp hva).1), List.getElem?_map, hva]
    rfl
  have fin : ∀ {σ' : L2.St} {H' : Hp} {v : V} {u : Value} {s' : Shared}, Inv (ncx CX P w K mg base N F f A outer s H E) [] σ' H' s' → L2.RelV v u → Q v H' → CE outer P w H s Q u s' :=
    fun {σ' H' v u s'} J rv q => ⟨v, H', J.os, J.bare, J.base, J.hok, rv, q⟩
  show _root_.PySem.wpAt (model P w) (A.deeper (envF F f s.heap.objs.size)) (.func F.body (envF F f s.heap.objs.size)) (execs F.body (envF F f s.heap.objs.size)) _ _ _
  rw [hbd]
  refine PySem.ks_wpAt_execs_cons ?_
  refine wp_super_init (X := ncx CX P w K mg base N F f A outer s H E) SK T I hN hσ ha (fun s' J => ?_) (he _)
  dsimp only
  refine wpAt_of_wpAny ?_
  refine wpAny_mono (ht.run [] s' (startF N vs [some (.ref D)]) H _ J hq) (fun fl s'' hs => ?_) fun e s'' hs => hs
  cases fl with
  | ret u =>
    obtain ⟨v, σ', H', J, rv, q⟩ := hs
    exact fin J rv q
  | next =>
    obtain ⟨σ', H', J, q⟩ := hs
    exact fin (v := V.non) (u := Value.none) J rfl q
  | brk =>
    obtain ⟨_, _, _, q⟩ := hs
    exact False.elim q
  | cont =>
    obtain ⟨_, _, _, q⟩ := hs
    exact False.elim q
end
end Sm
/-! SmX2: raise C(..) of an own class whose __init__ says super().__init__('..'), self.f = f -/
namespace Sm
open PySem L2 PyProof.Rows
/-- what the __init__ of an error of the class at C with these fields does -/
def spI (C : Addr) (fs : List Str) : Sp := fun vs H Q _ => ∃ (a : Addr) (ys : List V), vs = .ref a :: ys ∧ ys.length = fs.length ∧ H a = some (exo a C none) ∧
  ∀ (H2 : Hp) (d : Addr), H2 a = some (exo a C (some d)) → H2 d = some (exd d (fs.zip ys).reverse) → H d = none → d ≠ a → (∀ b, b ≠ a → b ≠ d → H2 b = H b) → Q .non H2
/-- the readings of the stores, one after another -/
def tFs (K : PySem.W.Frag) : List (Str × Nat) → TS
  | [] => tNext
  | (f, i) :: r => tSeq (tOst K f (tVar 0) (tVar i)) (tFs K r)
theorem fs_read {K : PySem.W.Frag} {C a d : Addr} {σ : L2.St} {D : Ends} (T : OexC K C) (hσ : σ[0]? = some (some (.ref a))) (hda : d ≠ a) : ∀ (fis : List (Str × Nat)) (ys : List V) (L : List (Str × V)) (H : Hp), H a = some (exo a C (some d)) → H d = some (exd d L) → L.length + fis.length ≤ 900 → ys.length = fis.length →
    (∀ p ∈ fis.zip ys, σ[p.1.2]? = some (some p.2)) → (∀ p ∈ fis, PySem.W.findIn K (.ref C) p.1 = some none) →
    (∀ H2, H2 a = some (exo a C (some d)) → H2 d = some (exd d (((fis.map (·.1)).zip ys).reverse ++ L)) → (∀ b, b ≠ a → b ≠ d → H2 b = H b) → D.nx σ H2) → tFs K fis D σ H
  | [], [], L, H, ha, hd, hl, _, _, _, k => k H ha (by simpa using hd) fun _ _ _ => rfl
  | (f, i) :: fis, y :: ys, L, H, ha, hd, hl, hy, hs, hf, k => by
    refine ⟨y, hs ((f, i), y) (by simp), .ref a, hσ, a, C, rfl, T, hf (f, i) (by simp), .inr ⟨d, L, ha, hd, by simp at hl; omega, ?_⟩⟩
    refine fs_read T hσ hda fis ys ((f, y) :: L) _ (by rw [upd_ne hda.symm]; exact ha) upd_same (by simp at hl ⊢; omega) (by simpa using hy) (fun p hp => hs p (by simp [hp])) (fun p hp => hf p (by simp [hp])) fun H2 h1 h2 h3 => ?_
    refine k H2 h1 (by rw [h2]; simp) fun b b1 b2 => ?_
    rw [h3 b b1 b2, upd_ne b2]
theorem fs_read0 {K : PySem.W.Frag} {C a : Addr} {σ : L2.St} {D : Ends} (T : OexC K C) (hσ : σ[0]? = some (some (.ref a))) (f : Str) (i : Nat) (y : V) (fis : List (Str × Nat)) (ys : List V) (H : Hp) (ha : H a = some (exo a C none)) (hl : fis.length ≤ 800) (hy : ys.length = fis.length)
    (hs : ∀ p ∈ ((f, i) :: fis).zip (y :: ys), σ[p.1.2]? = some (some p.2)) (hf : ∀ p ∈ (f, i) :: fis, PySem.W.findIn K (.ref C) p.1 = some none)
    (k : ∀ H2 d, H2 a = some (exo a C (some d)) → H2 d = some (exd d ((((f, i) :: fis).map (·.1)).zip (y :: ys)).reverse) → H d = none → d ≠ a → (∀ b, b ≠ a → b ≠ d → H2 b = H b) → D.nx σ H2) : tFs K ((f, i) :: fis) D σ H := by
  refine ⟨y, hs ((f, i), y) (by simp), .ref a, hσ, a, C, rfl, T, hf (f, i) (by simp), .inl ⟨ha, fun d hd hda => ?_⟩⟩
  refine fs_read T hσ hda fis ys [(f, y)] _ upd_same (by rw [upd_ne hda]; exact upd_same) (by simp; omega) hy (fun p hp => hs p (by simp [hp])) (fun p hp => hf p (by simp [hp])) fun H2 h1 h2 h3 => ?_
  refine k H2 d h1 (by rw [h2]; simp) hd hda fun b b1 b2 => ?_
  rw [h3 b b1 b2, upd_ne b1, upd_ne b2]
/-- an error class of the program, as those who raise it know it -/
def ErrOk (P : Program) (w : World) (K : PySem.W.Frag) (mg : Str → Option Value) (base : Heap) (G : Cl) (j : Nat) (x : Str) (c : Nat) : Prop :=
  ∃ (fI : Addr) (fd : FuncData) (ps : List Str), mg x = some (.ref (G.at_ c)) ∧ OexC K (G.at_ c) ∧ PySem.W.findIn K (.ref (G.at_ c)) "__init__" = some (some (.ref fI)) ∧ PySem.W.typeIn K (.ref fI) = some (.type "function") ∧
    FnOk P w K mg base (L2N.CX P w) j fI fd ps (spI (G.at_ c) (G.nm c)) ∧ Binds K fd ps [] ∧ (G.nm c).Nodup ∧ (G.nm c).length ≤ 900
def sRaise (c : Nat) (ms : List M) : S := fun env h => bindS (evs ms env h) env fun ds h1 => .exc c ds env h1
theorem zip_sub : ∀ (fs : List Str) (ys : List V), ((fs.zip ys).map (·.1)).Sublist fs
  | [], _ => by simp
  | f :: fs, [] => by simp
  | f :: fs, y :: ys => by
    rw [List.zip_cons_cons, List.map_cons]
    exact List.Sublist.cons_cons f (zip_sub fs ys)
theorem lookup_zip : ∀ {fs : List Str} {ys : List V} {i : Nat} {f : Str} {y : V}, fs.Nodup → fs[i]? = some f → ys[i]? = some y → (fs.zip ys).reverse.lookup f = some y := by
  intro fs ys i f y nd h1 h2
  have key : ∀ (l : List (Str × V)), (l.map (·.1)).Nodup → (f, y) ∈ l → l.lookup f = some y := by
    intro l
    induction l with
    | nil => intro _ h; simp at h
    | cons p l ih =>
      intro nd h
      obtain ⟨g, z⟩ := p
      rw [lookup_put]
      rcases List.mem_cons.mp h with e | e
      · cases e; rw [if_pos rfl]
      · simp only [List.map_cons, List.nodup_cons] at nd
        have : f ≠ g := fun q => nd.1 (by rw [← q]; exact List.mem_map_of_mem (f := (·.1)) e)
        rw [if_neg this]
        exact ih nd.2 e
  refine key _ ?_ ?_
  · rw [List.map_reverse]
    refine (List.reverse_perm _).nodup_iff.mpr ?_
    exact nd.sublist (zip_sub fs ys)
  · rw [List.mem_reverse]
    refine List.mem_of_getElem? (i := i) ?_
    rw [List.getElem?_zip_eq_some]
    exact ⟨h1, h2⟩
section
variable {X : Cx} {e : Expr} {es : List Expr} {ta : TA} {p pos : Pos}
/-- C(e, ..), an error that carries no context -/
theorem pmkN {CX : CXT} {x : Str} {C fI : Addr} {k : Nat} {fd : FuncData} {ps : List Str} {sp : Sp} (T : OexC X.K C) (iC : PySem.W.findIn X.K (.ref C) "__init__" = some (some (.ref fI))) (tI : PySem.W.typeIn X.K (.ref fI) = some (.type "function"))
    (Fi : FnOk X.prog X.w X.K X.mg X.base CX k fI fd ps sp) (room : Room (k + 1) X.A) (bd : Binds X.K fd ps []) (hx : Passes CX X (fun _ _ _ => False)) (hg : Gl X x) (hm : X.mg x = some (.ref C)) (ha : PA X (e :: es) ta)
    (hdb : (x == ("__debug__" : Str)) = false) (he : starEach (e :: es) X.env = (false, eval e X.env) :: starEach es X.env) (hpl : (backTo pos (starEach es X.env)).any (·.1) = false) :
    L2N.PMk X (.Call (.Name x p) (e :: es) [] pos) (tMkO C sp [] ta) := fun pins s σ H Q I0 h0 => by
  obtain ⟨nm, q, N, bs, bm, sn, sub, ab, col, dd, k0, k1, k2, k3, k5, look, bmOk⟩ := T.cls
  refine wpAny_Call_Name_kw (ld_glob I0 hg hm ?_ hdb)
  refine PySem.W.callWith_K (h₀ := X.base) I0.ok.mod.kin T.kC (thn (ha.run pos pins s σ H _ I0 h0) fun us z1 ⟨vs, H1, J1, rel, short, want⟩ => ⟨J1.kIn, ?_⟩) he hpl
  show wpAny _ _ (call (.ref C) us) _ _ _
  obtain ⟨hp, gs, dr, tk, os⟩ := z1
  have up : hp.objs.size ≤ hp.objs.size + 1 := by omega
  have free : H1 (hp.objs.size + 1) = none := J1.hok.fresh up
  have go := want (hp.objs.size + 1) free
  have keep : ∀ b o, hp.get? b = some o → ((hp.push (PySem.W.kdv_tup us)).push (PySem.HandSPX.excO C hp.objs.size)).get? b = some o := fun b o z => Heap.get?_push_of_some _ (Heap.get?_push_of_some _ z)
  have there : ((hp.push (PySem.W.kdv_tup us)).push (PySem.HandSPX.excO C hp.objs.size)).get? (hp.objs.size + 1) = some (PySem.HandSPX.excO C hp.objs.size) := by heap_get
  have J2 : Inv X pins σ (upd H1 (hp.objs.size + 1) (exo (hp.objs.size + 1) C none)) ⟨(hp.push (PySem.W.kdv_tup us)).push (PySem.HandSPX.excO C hp.objs.size), gs, dr, tk, os⟩ :=
    J1.laid (t' := tk) (a := hp.objs.size + 1) (o := exo (hp.objs.size + 1) C none) (h' := (hp.push (PySem.W.kdv_tup us)).push (PySem.HandSPX.excO C hp.objs.size)) keep up (exo_ok there)
  have rel2 : Vals (V.ref (hp.objs.size + 1) :: (vs ++ [])) (Value.ref (hp.objs.size + 1) :: (us ++ [])) := .cons rfl (rel.append .nil)
  have cnt : (Value.ref (hp.objs.size + 1) :: us ++ []).length = ps.length := (rel2.length.symm.trans (Fi.len _ _ _ _ go))
  have few : us.length ≤ sizeLine := by
    rw [← Paired.length rel, sizeLine_eq]
    omega
  refine wpAny_call (PySem.HandSPX.call_own F.excBase_ValueError (fun Y => PySem.HandSPX.refsVE_contains Y bm bmOk) (J1.kIn _ _ look) (PySem.W.looks_findIn J1.kIn iC) (fun self => PySem.W.bind_fn J1.kIn self tI) few
    (codeAny_mono (Fi.run _ X.stack _ _ ⟨Value.ref (hp.objs.size + 1) :: us, []⟩ (Value.ref (hp.objs.size + 1) :: (us ++ [])) _ _ (fun _ _ _ => False) (room.make C us []) (J2.env0.make C us []) (by have b := bd _ (Value.ref (hp.objs.size + 1) :: us) J2.kIn cnt; rw [List.cons_append] at b; exact b) rel2 go) fun r z2 hz2 => ?_))
  match r, hz2 with
  | .error er, hz2 => exact hx pins σ _ _ er z2 J2 hz2
  | .ok (.next), hz2 => exact hz2.elim
  | .ok (.brk), hz2 => exact hz2.elim
  | .ok (.cont), hz2 => exact hz2.elim
  | .ok (.ret u), ⟨v, H2, os2, bare2, un2, hok2, rv, ev, d, fs, ea, ed, hd1, q2⟩ =>
    subst ev
    obtain ⟨h2, g2, d2, t2, os'⟩ := z2
    obtain ⟨t0, Gh, J3, kG, gone, hoe, na⟩ := mk_end0 (d2 := d2) (t2 := t2) J1 up keep un2 hok2 os2 bare2 ea ed hd1
    exact ⟨rv, _, _, _, ⟨Gh, g2, d2, t2, os'⟩, _, .ref C, some d, rfl, J3, kG, gone, hoe, ⟨rfl, rfl, fun _ z => by cases z; rfl⟩, rfl, rfl, na, rfl, bare2, raises_own T.exC T.tyC, q2⟩
end
section
variable {X : Cx} {G : Cl} {W : WX} {e : Expr} {es : List Expr} {pos pos' p : Pos} {ms : List M} {k j c : Nat} {x : Str}
theorem s_raise (ct : Ct X W k) (Er : ErrOk X.prog X.w X.K X.mg X.base G j x c) (hj : j + 1 ≤ k) (hg : Gl X x) (ha : PA X (e :: es) (tL X.K G W (evs ms))) (hl : ms.length = (G.nm c).length)
    (hdb : (x == ("__debug__" : Str)) = false := by decide) (he : starEach (e :: es) X.env = (false, eval e X.env) :: starEach es X.env := by rfl) (hpl : (backTo pos (starEach es X.env)).any (·.1) = false := by rfl) :
    PS X (.Raise (some (.Call (.Name x p) (e :: es) [] pos)) none pos') (tS X.K G W (sRaise c ms)) := by
  obtain ⟨fI, fd, ps, hm, T, iC, tI, F1, hb, nd, hn⟩ := Er
  refine psImp (L2N.ps_raise ct.hc ct.tk (pmkN T iC tI F1 (ct.hr.mono hj) hb (L2N.passes_call ct.tk fun _ _ _ _ z => z.elim) hg hm ha hdb he hpl)) fun D0 σ H t => ?_
  obtain ⟨ρ, h, env, hr, hE, q⟩ := t
  refine ⟨ρ, h, env, hr, hE, ?_⟩
  unfold sRaise at q
  cases qe : evs ms env h with
  | bad => rw [qe] at q; exact q
  | exc c' fs h' => rw [qe] at q; exact fun ρ' H' d e a z => q ρ' H' σ d e a (hE.mono e) z
  | ok ds h1 =>
    rw [qe] at q
    intro ρ' H1 vs e1 r1 rv
    have hlen : vs.length = (G.nm c).length := by rw [rv.length, evs_len qe, hl]
    refine ⟨by omega, fun a ha' => ⟨a, vs, by simp, hlen, upd_same, fun H2 d k1 k2 k3 k4 k5 => ⟨rfl, d, _, k1, k2, ?_, ?_⟩⟩⟩
    · rw [upd_ne k4] at k3; exact k3
    · have hd : H1 d = none := by rw [upd_ne k4] at k3; exact k3
      have hH : upd (L2.del H2 a) d (.xd ((G.nm c).zip vs).reverse) = upd H1 d (.xd ((G.nm c).zip vs).reverse) := by
        funext b
        by_cases b2 : b = d
        · rw [b2, upd_same, upd_same]
        · rw [upd_ne b2, upd_ne b2]
          by_cases b1 : b = a
          · rw [b1, del_same, ha']
          · rw [del_ne b1, k5 b b1 b2, upd_ne b1]
      rw [hH]
      have ex2 : Ex X.K ρ' H1 ρ' (upd H1 d (.xd ((G.nm c).zip vs).reverse)) := Ex.fresh hd
      have q' : PoS X.K G W ρ H D0 (.exc c ds env h1) := q
      refine q' ρ' _ σ (some d) (e1.trans ex2) (r1.aux hd) (hE.mono (e1.trans ex2)) ⟨d, _, rfl, upd_same, by rw [← rv.length, hlen], fun i f hf => ?_⟩
      have hi : i < vs.length := by rw [hlen]; exact (List.getElem?_eq_some_iff.mp hf).1
      obtain ⟨y, hy, ry⟩ := rv.getV (i := i) (v := vs[i]) (by simp [hi])
      exact ⟨vs[i], y, lookup_zip nd hf (by simp [hi]), hy, ry.mono ex2⟩
end
end Sm
/-! SmY: try: .. except C as e: return an expression of e's fields -/
namespace Sm
open PySem L2 PyProof.Rows
/-- where the exception is known: slot, address, dict, class -/
structure XCt where
  i : Nat
  a : Addr
  d : Option Addr
  c : Nat
def tX (K : PySem.W.Frag) (G : Cl) {α β : Type} (rel : List Addr → Hp → β → α → Prop) (C : XCt) (m : List D → Ev → Hh → R α) : L2.St → Hp → (β → Hp → Prop) → Prop := fun σ H Q =>
  ∃ fs ρ h env, σ[C.i]? = some (some (.ref C.a)) ∧ Rx K G ρ H C.d C.c fs ∧ Rh K G ρ H h ∧ Re K ρ H σ env ∧ Po K G rel WN ρ H σ (m fs env h) Q
abbrev tXM (K : PySem.W.Frag) (G : Cl) (C : XCt) (m : List D → M) : TE := tX K G (relV K) C m
abbrev tXL (K : PySem.W.Frag) (G : Cl) (C : XCt) (m : List D → Ev → Hh → R (List D)) : TA := tX K G (relVs K) C m
section
variable {X : Cx} {G : Cl} {C : XCt} {e : Expr} {es : List Expr} {pos : Pos} {m : List D → M} {ms : List (List D → M)} {K : PySem.W.Frag}
def eFd (k : Nat) (fs : List D) : M := fun env h => match fs[k]? with
  | some d => .ok d h
  | none => .bad
abbrev evsX (ms : List (List D → M)) (fs : List D) : Ev → Hh → R (List D) := evs (ms.map fun m => m fs)
theorem xe_of {m : M} (he : PE X e (tM X.K G WN m)) : PE X e (tXM X.K G C fun _ => m) := peImp he fun σ H Q ⟨fs, ρ, h, env, _, _, hr, hE, p⟩ => ⟨ρ, h, env, hr, hE, p⟩
theorem xa_nil : PA X [] (tXL X.K G C (evsX [])) := paImp pa_nil fun σ H Q ⟨fs, ρ, h, env, _, _, hr, hE, p⟩ => p ρ H [] Ex.refl hr .nil
theorem xa_cons (ha : PE X e (tXM X.K G C m)) (hb : PA X es (tXL X.K G C (evsX ms))) (hs : starEach (e :: es) X.env = (false, eval e X.env) :: starEach es X.env := by rfl) : PA X (e :: es) (tXL X.K G C (evsX (m :: ms))) := paImp (pa_cons ha hb hs) fun σ H Q ⟨fs, ρ, h, env, hσ, rx, hr, hE, p⟩ => by
  refine ⟨fs, ρ, h, env, hσ, rx, hr, hE, ?_⟩
  unfold evsX at p
  rw [List.map_cons] at p
  unfold evs at p
  cases q : m fs env h with
  | bad => rw [q] at p; exact p
  | exc c' fs' h' => rw [q] at p; exact p
  | ok d h1 =>
    rw [q] at p
    simp only [R.bind_ok] at p
    intro ρ1 H1 v e1 hr1 rv
    refine ⟨fs, ρ1, h1, env, hσ, rx.mono e1, hr1, hE.mono e1, ?_⟩
    unfold evsX
    cases q2 : evs (ms.map fun m => m fs) env h1 with
    | bad => rw [q2] at p; exact p.elim
    | exc c' fs' h' => rw [q2] at p; exact (p.shift e1)
    | ok ds h2 =>
      rw [q2] at p
      intro ρ2 H2 vs e2 hr2 rvs
      exact p ρ2 H2 _ (e1.trans e2) hr2 (.cons (rv.mono e2) rvs)
def eTupX (ms : List (List D → M)) (fs : List D) : M := eTup (ms.map fun m => m fs)
def eLstX (ms : List (List D → M)) (fs : List D) : M := eLst (ms.map fun m => m fs)
theorem xe_tup {x1} (ha : PA X es (tXL X.K G C (evsX ms))) (hl : ms.length ≤ sizeLine := by decide) : PE X (.Tuple es x1 pos) (tXM X.K G C (eTupX ms)) := peImp (pe_tup ha) fun σ H Q ⟨fs, ρ, h, env, hσ, rx, hr, hE, p⟩ => by
  refine ⟨fs, ρ, h, env, hσ, rx, hr, hE, ?_⟩
  unfold eTupX eTup at p
  cases q : evs (ms.map fun m => m fs) env h with
  | bad => unfold evsX; rw [q] at p ⊢; exact p
  | exc c' fs' h' => unfold evsX; rw [q] at p ⊢; exact p
  | ok ds h1 =>
    unfold evsX
    rw [q] at p ⊢
    simp only [R.bind_ok] at p
    intro ρ1 H1 vs e1 hr1 rvs
    exact ⟨by rw [rvs.length, evs_len q, List.length_map]; exact hl, new_tup hr1 rvs (p.shift e1)⟩
theorem xe_lst (ha : PA X es (tXL X.K G C (evsX ms))) (hl : ms.length ≤ sizeLine := by decide) : PE X (.List es pos) (tXM X.K G C (eLstX ms)) := peImp (pe_lst ha) fun σ H Q ⟨fs, ρ, h, env, hσ, rx, hr, hE, p⟩ => by
  refine ⟨fs, ρ, h, env, hσ, rx, hr, hE, ?_⟩
  unfold eLstX eLst at p
  cases q : evs (ms.map fun m => m fs) env h with
  | bad => unfold evsX; rw [q] at p ⊢; exact p
  | exc c' fs' h' => unfold evsX; rw [q] at p ⊢; exact p
  | ok ds h1 =>
    unfold evsX
    rw [q] at p ⊢
    simp only [R.bind_ok] at p
    intro ρ1 H1 vs e1 hr1 rvs
    exact ⟨by rw [rvs.length, evs_len q, List.length_map]; exact hl, new_lst hr1 rvs (p.shift e1)⟩
/-- e.f -/
theorem xe_fld {oe : Obj} {cls : Value} {pn : List (Addr × Obj)} {x f : Str} {ip : Pos} {k : Nat} (T : XfC X.K (G.at_ C.c)) (hno : PySem.W.findIn X.K (.ref (G.at_ C.c)) f = some none) (hcls : cls = .ref (G.at_ C.c)) (hz : Zc cls C.d oe) (hf : ∃ vs, oe.data = .fields vs)
    (hx : X.N[C.i]? = some x) (hv : Vis X.env.scope x) (hk : (G.nm C.c)[k]? = some f) (hd : (x == ("__debug__" : Str)) = false := by decide) (hcd : (x == ("__classdict__" : Str)) = false := by decide)
    (hb : attributeBase (.Name x ip) f X.env (eval (.Name x ip) X.env) = eval (.Name x ip) X.env := by rfl) :
    PE (X.suite C.a ((C.a, oe) :: pn)) (.Attribute (.Name x ip) f pos) (tXM X.K G C (eFd k)) := by
  subst hcls
  refine peImp (pe_xf T hno hz hf (pe_var (X := X.suite C.a ((C.a, oe) :: pn)) hx hv hd hcd) hb) fun σ H Q ⟨fs, ρ, h, env, hσ, rx, hr, hE, p⟩ => ?_
  obtain ⟨dx, vfs, h1, h2, h3, h4⟩ := rx
  obtain ⟨v, y, k1, k2, k3⟩ := h4 k f hk
  refine ⟨.ref C.a, hσ, rfl, rfl, dx, vfs, v, h1, h2, k1, ?_⟩
  unfold eFd at p
  rw [k2] at p
  exact p ρ H v Ex.refl hr k3
end
/-! ### try: body except C as e: return expr -/
/-- the clause C0: which of the classes it takes -/
def sTryX (body : S) (mt : Nat → Option Bool) (i : Nat) (suite : List D → M) : S := fun env h => match body env h with
  | .exc c fs env' h' => (match mt c with
    | some true => if i < env'.length then (match suite fs (env'.set i none) h' with
      | .ok d h2 => .rt d h2
      | _ => .bad) else .bad
    | some false => .exc c fs env' h'
    | none => .bad)
  | r => r
theorem Ct.tr {X : Cx} {W W' : WX} {k : Nat} (c : Ct X W k) (pn : List (Addr × Obj)) (xe : Value → Shared → Prop) (tk : L2N.Takes (X.tr pn xe) W') (po : PassesOwn (model X.prog X.w) X.A X.env xe) : Ct (X.tr pn xe) W' k := ⟨tk, po, c.hr, c.hc, c.nd⟩
theorem Re.drop {K : PySem.W.Frag} {ρ : List Addr} {H : Hp} {σ : L2.St} {env : Ev} (r : Re K ρ H σ env) (i : Nat) (x : Option V) : Re K ρ H (σ.set i x) (env.set i none) := by
  refine ⟨by rw [List.length_set, List.length_set, r.len], fun j d e => ?_⟩
  by_cases q : i = j
  · subst q
    rw [List.getElem?_set, if_pos rfl] at e
    split at e <;> cases e
  · rw [List.getElem?_set_ne q] at e ⊢
    exact r.get j d e
theorem pss_of {X : Cx} {st : List Stmt} {t : TS} {p : Prop} (f : p → PSs X st t) : PSs X st (fun D σ H => p ∧ t D σ H) := ⟨fun pins s σ H D I ⟨hp, q⟩ => (f hp).run pins s σ H D I q⟩
section
variable {X : Cx} {G : Cl} {W : WX} {x n : Str} {c i k : Nat} {body : List Stmt} {ex : Expr} {np pos pos' rp : Pos} {sb : S} {mt : Nat → Option Bool} {sm : List D → M}
theorem s_tryX (ct : Ct X W k) (hs : X.stack = X.env :: X.outer) (hf : X.env.frame = some X.env.locals) (hi : X.N[i]? = some n) (hln : X.env.kindOf n = some .local) (hc : Names X x (.ref (G.at_ c)))
    (hm : ∀ c' b, mt c' = some b → PySem.W.exmOne X.K (.ref (G.at_ c')) (.ref (G.at_ c)) = some b) (hone : ∀ c', mt c' = some true → c' = c)
    (hb : ∀ (W : WX) (pn : List (Addr × Obj)) (xe : Value → Shared → Prop), Ct (X.tr pn xe) W k → PSs (X.tr pn xe) body (tS X.K G W sb))
    (hsu : ∀ (a : Addr) (oe : Obj) (cls : Value) (d : Option Addr) (pn : List (Addr × Obj)), Zc cls d oe → (∃ vs, oe.data = .fields vs) → cls = .ref (G.at_ c) → PE (X.suite a ((a, oe) :: pn)) ex (tXM X.K G ⟨i, a, d, c⟩ sm)) :
    PS X (.Try body [.ExceptHandler (some (.Name x np)) (some n) [.Return (some ex) rp] pos'] [] [] pos) (tS X.K G W (sTryX sb mt i sm)) := by
  refine psImp (L2N.ps_try_as (c := .ref (G.at_ c)) (Wout := W) (tb := fun W => tS X.K G W sb) (ts := fun a cls d D σ H => cls = .ref (G.at_ c) ∧ tXM X.K G ⟨i, a, d, c⟩ sm σ H D.rt) hs hf ct.nd hi hln hc ct.tk
    (fun W' pn xe tk po => hb W' pn xe (ct.tr pn xe tk po)) (fun a oe cls d pn hz hfl => pss_of fun hcls => pss_one (ps_ret (hsu a oe cls d pn hz.zc hfl hcls)))) fun D0 σ H t => ?_
  obtain ⟨ρ, h, env, hr, he, q⟩ := t
  refine ⟨ρ, h, env, hr, he, ?_⟩
  unfold sTryX at q
  cases qb : sb env h with
  | bad => rw [qb] at q; exact q
  | nx e' h' => rw [qb] at q; exact q
  | rt d h' => rw [qb] at q; exact q
  | bk e' h' => rw [qb] at q; exact q
  | ct e' h' => rw [qb] at q; exact q
  | exc c' fs e' h' =>
    rw [qb] at q
    dsimp only at q
    intro ρ' H' σ' d e1 r1 re1 rx
    cases qm : mt c' with
    | none => rw [qm] at q; exact q.elim
    | some b =>
      rw [qm] at q
      cases b with
      | false => exact ⟨false, hm _ _ qm, (fun z => nomatch z), fun _ => q ρ' H' σ' d e1 r1 re1 rx⟩
      | true =>
        obtain rfl := hone _ qm
        dsimp only at q
        have hlen : i < e'.length := by
          refine Classical.byContradiction fun hn => ?_
          rw [if_neg hn] at q
          exact q
        rw [if_pos hlen] at q
        refine ⟨true, hm _ _ qm, fun _ a ha => ⟨rfl, fs, ρ', h', e'.set i none, ?_, rx, r1, re1.drop i _, ?_⟩, fun z => nomatch z⟩
        · have hl : i < σ'.length := by rw [re1.len]; exact hlen
          exact List.getElem?_set_self hl
        · cases qs : sm fs (e'.set i none) h' with
          | bad => rw [qs] at q; exact q.elim
          | exc c2 fs2 h2 => rw [qs] at q; exact q.elim
          | ok d2 h2 =>
            rw [qs] at q
            exact fun ρ2 H2 v e2 r2 rv => q ρ2 H2 v (e1.trans e2) r2 rv
end
end Sm
/-! SmZ: an error class from what K says of it; the law's end with classes -/
namespace Sm
open PySem L2 PyProof.Rows NdefX
theorem walk_lawG {l : PySem.W.OpenLaw} {k : Nat} {q : Program} {loose : List Str} {XP : (Str → Option Value) → Heap → Prop} {YP : World → Heap → Prop} {d : DefRec} {K : Params → PySem.W.Frag} {f : Fm}
    (hn : l.most = some 63) (hdf : d.params.defaults = []) (hr : Room k callerA)
    (hY : ∀ (w : World) (h : Heap), YP w h → (K w.params).In h) (main : ∀ ns : List Int, ns.length ≤ 63 → ∃ h', f [.fls (ns.map D.int)] [] = .ok (.bl true) h')
    (F : ∀ (w : World) (mg : Str → Option Value) (fa : Addr) (h : Heap), (K w.params).In h → h.Ns mainGlobals mg → mg d.name = some (.ref fa) →
      ∃ (G : Cl) (fd : FuncData), (∀ (s : Shared) (u : Value), BindsTo s fd ⟨[u], []⟩ [("script", u)]) ∧
        ∀ base : Heap, (K w.params).In base → base.Ns mainGlobals mg → FnOk l.prog w (K w.params) mg base (L2N.CX l.prog w) k fa fd ["script"] (spM (K w.params) G 1 f)) :
    PySem.W.WalkO q loose XP YP l.row.toRowW d [] (fun f vs => PySem.call f vs) :=
  L2.walk_of (n := 63) (k := k) (x := "script") (CX := fun w => L2N.CX l.prog w) (sp := fun w => fun vs H Q E => ∀ G, spM (K w.params) G 1 f vs H Q E) hn (by decide) hdf hr hY
    (fun w mg fa h a b c => by
      obtain ⟨G, fd, h1, h2⟩ := F w mg fa h a b c
      exact ⟨fd, h1, fun base x y => (h2 base x y).imp fun vs H Q E z => z G⟩)
    (fun w H a ns h1 h2 h3 => fun G => law_end main H a ns h1 h2 h3)
    fun w H s e s' z => by
      obtain ⟨_, _, _, _, _, _, _, _, _, _, _, _, z⟩ := z
      exact z
section
variable {P : Program} {w : World} {K : PySem.W.Frag} {mg : Str → Option Value} {base : Heap} {N ps : List Str} {F : NF} {f cc C : Addr} {dV kV doc pm ct : Value} {an : Option Addr} {p0 p1 p2 p3 pos spos : Pos} {m sn : Str} {j : Nat} {rest : List Stmt}
theorem init_ok {pl : Sem Bool} {oc : Value} {od : Option Addr} {osl : Array (Option Value)} {fis : List (Str × Nat)} (T : SupC K C C) (lk : K.lookup f = some ⟨oc, od, .func (fdx F dV kV doc pm an ct), osl⟩) (hcd : PySem.W.codeIn K (.ref F.c) F.qual = true) (S : NScope N ps ["__class__"] F.scope)
    (hcl : F.cl = [(("__class__" : Str), cc)]) (hbd : F.body = .Expr (.Call (.Attribute (.Call (.Name "super" p0) [] [] p1) "__init__" p2) [.Constant (.str m) j p3] [] pos) spos :: rest)
    (hpar : ∃ ar, (F.params.posonlyargs ++ F.params.args).head? = some ar ∧ ar.arg = sn) (hsn : ps[0]? = some sn) (hks : F.scope.names.lookup ("super" : Str) = some .globalImplicit)
    (code : ∃ o vs file tf, K.lookup F.c = some o ∧ o.data = .fields vs ∧ vs[2]? = some (.str file tf) ∧ ((P.main.file : Str) == file) = true) (htop : (P.main.scope.names.lookup ("super" : Str)).isSome = false)
    (hcell : ∃ cl cld csl, K.lookup cc = some ⟨cl, cld, .cell (some (.ref C)), csl⟩) (hcls : ∃ cdD, PySem.W.clsIn K C = some cdD) (mgs : mg "super" = none) (thi : PySem.W.nsIn K PySem.cStatics "thirdparty.any" = some none)
    (he : ∀ L, eval (.Call (.Attribute (.Call (.Name "super" p0) [] [] p1) "__init__" p2) [.Constant (.str m) j p3] [] pos) (envF F f L) = (do
      let ov ← attributeBase (.Call (.Name "super" p0) [] [] p1) "__init__" (envF F f L) (eval (.Call (.Name "super" p0) [] [] p1) (envF F f L))
      standAt p2.atName
      let (fm, first) ← holding [ov] (getMethod ov "__init__" pl)
      callWith pos fm first (backTo pos (starEach [.Constant (.str m) j p3] (envF F f L))) []))
    (hps : ps.length = fis.length + 1) (hne : fis ≠ []) (hfl : fis.length ≤ 800) (hix : ∀ (k : Nat) (p : Str × Nat), fis[k]? = some p → p.2 = k + 1) (hno : ∀ p ∈ fis, PySem.W.findIn K (.ref C) p.1 = some none)
    (hrest : ∀ (A : Around) (outer : List Env) (s : Shared) (H : Hp) (E : XK), PSs (ncx (L2N.CX P w) P w K mg base N F f A outer s H E) rest (tFs K fis)) :
    FnOk P w K mg base (L2N.CX P w) 1 f (fdx F dV kV doc pm an ct) ps (spI C (fis.map (·.1))) := by
  refine fn_init lk hcd S hcl hbd hpar hsn hks code htop hcell hcls mgs thi he (fun vs H Q E ⟨a, ys, h1, h2, _⟩ => by rw [h1, List.length_cons, h2, List.length_map, hps]) fun A outer s H vs Q E hr ⟨a, ys, h1, h2, h3, h4⟩ => ?_
  subst h1
  refine ⟨⟨a, C, rfl, T, h3⟩, tFs K fis, hrest A outer s H E, ?_⟩
  rw [List.length_map] at h2
  have hσ : ∀ k y, ys[k]? = some y → (startF N (V.ref a :: ys) [some (V.ref C)])[k + 1]? = some (some y) := fun k y e => by
    have hk : k < ys.length := (List.getElem?_eq_some_iff.mp e).1
    unfold startF
    rw [List.getElem?_append_left (by simp; omega), List.getElem?_map, List.getElem?_cons_succ, e]
    rfl
  cases fis with
  | nil => exact absurd rfl hne
  | cons p fis =>
    obtain ⟨f1, i1⟩ := p
    cases ys with
    | nil => simp at h2
    | cons y ys =>
      refine fs_read0 T.oex (by unfold startF; rfl) f1 i1 y fis ys H h3 (by simp at hfl; omega) (by simpa using h2) (fun q hq => ?_) hno fun H2 d k1 k2 k3 k4 k5 => h4 H2 d k1 k2 k3 k4 k5
      obtain ⟨k, hk⟩ := List.mem_iff_getElem?.mp hq
      rw [List.getElem?_zip_eq_some] at hk
      rw [hix k _ hk.1]
      exact hσ k _ hk.2
end
theorem exm_mk {K : PySem.W.Frag} {C : Addr} {t : Value} {b : Bool} {cd : ClassData} (e : PySem.W.subIn K (.ref C) (.type "BaseException") = some true) (cl : PySem.W.clsIn K C = some cd) (ty : PySem.W.typeIn K (.ref C) = some (.type "type")) (s : PySem.W.subIn K t (.ref C) = some b) : PySem.W.exmOne K t (.ref C) = some b := by
  unfold PySem.W.exmOne PySem.W.kitCls
  simp only [e, beq_self_eq_true, if_true, cl, ty, s, Option.isSome_some, Bool.and_self]
end Sm
/-! SmS: texts' methods with one argument: split, join -/
namespace Sm
open PySem L2 PyProof.Rows
def eM1 (f : D → D → Hh → Option (D × Hh)) (mo me : M) : M := fun env h => (mo env h).bind fun o h1 => match o with
  | .str a => (me env h1).bind fun d h2 => R.opt (f (.str a) d h2)
  | _ => .bad
def strsOf : List D → Option (List Str)
  | [] => some []
  | .str x :: r => (strsOf r).map (x :: ·)
  | _ :: _ => none
theorem strsOf_eq {K : PySem.W.Frag} {ρ : List Addr} {H : Hp} : ∀ {vs : List V} {ds : List D} {bs : List Str}, Rvs K ρ H vs ds → strsOf ds = some bs → vs = bs.map V.str
  | _, _, _, .nil, e => by cases e; rfl
  | _, _, bs, .cons (d := .str b) h t, e => by
    simp only [strsOf, Option.map_eq_some_iff] at e
    obtain ⟨ms, e1, rfl⟩ := e
    cases h
    rw [List.map_cons, ← strsOf_eq t e1]
  | _, _, _, .cons (d := .non) h t, e => by simp [strsOf] at e
  | _, _, _, .cons (d := .int _) h t, e => by simp [strsOf] at e
  | _, _, _, .cons (d := .bl _) h t, e => by simp [strsOf] at e
  | _, _, _, .cons (d := .tup _) h t, e => by simp [strsOf] at e
  | _, _, _, .cons (d := .fls _) h t, e => by simp [strsOf] at e
  | _, _, _, .cons (d := .ref _) h t, e => by simp [strsOf] at e
theorem Rvs.of_strs {K : PySem.W.Frag} {ρ : List Addr} {H : Hp} : ∀ xs : List Str, Rvs K ρ H (xs.map V.str) (xs.map D.str)
  | [] => .nil
  | x :: xs => .cons (.str x) (Rvs.of_strs xs)
def opSplit : D → D → Hh → Option (D × Hh)
  | .str a, .str b, h => if (b.length == 0) = false ∧ a.length + 2 ≤ sizeLine then some (.ref h.length, h ++ [.lst ((Txt.split a b).map D.str)]) else none
  | _, _, _ => none
def opJoin : D → D → Hh → Option (D × Hh)
  | .str a, d, h => match partsOf d h with
    | some ds => match strsOf ds with
      | some ys => if (ys.map (·.length)).sum + ys.length * a.length ≤ 16777216 then some (.str (Txt.join a ys), h) else none
      | none => none
    | none => none
  | _, _, _ => none
section
variable {X : Cx} {G : Cl} {W : WX} {e o : Expr} {pos : Pos} {mo me : M} {K : PySem.W.Frag}
def ImpS (K : PySem.W.Frag) (G : Cl) (r : V → List V → Hp → VK → Prop) (f : D → D → Hh → Option (D × Hh)) : Prop := ∀ {ρ : List Addr} {H : Hp} {h : Hh} {x y : V} {dx dy d : D} {h' : Hh} {Q : VK}, Rh K G ρ H h → Rv K ρ H x dx → Rv K ρ H y dy → f dx dy h = some (d, h') →
  (∀ ρ' H' v, Ex K ρ H ρ' H' → Rh K G ρ' H' h' → Rv K ρ' H' v d → Q v H') → r x [y] H Q
theorem m1_imp {r : V → List V → Hp → VK → Prop} {f : D → D → Hh → Option (D × Hh)} (i : ImpS X.K G r f) (σ : L2.St) (H : Hp) (Q : VK) (t : tM X.K G W (eM1 f mo me) σ H Q) : tM1 r (tM X.K G W mo) (tM X.K G W me) σ H Q := by
  obtain ⟨ρ, h, env, hr, he, p⟩ := t
  refine tG_mono (tG_bind (rel := relV X.K) hr he p) fun x H1 ⟨ρ1, h1, d, e1, hr1, he1, r1, p1⟩ => ?_
  cases d with
  | str a =>
    cases r1
    refine ⟨⟨a, rfl⟩, tG_mono (tG_bind (rel := relV X.K) hr1 he1 p1) fun y H2 ⟨ρ2, h2, d2, e2, hr2, he2, r2, p2⟩ => ?_⟩
    obtain ⟨d3, h3, eq, k⟩ := p2.opt
    exact i hr2 (.str a) r2 eq k
  | _ => exact p1.elim
theorem se_split {apos : Pos} (ho : PE X o (tM X.K G W mo)) (he : PE X e (tM X.K G W me)) (hs : starEach [e] X.env = [(false, eval e X.env)] := by rfl) (hbase : attributeBase o "split" X.env (eval o X.env) = eval o X.env := by rfl) (hline : (apos.endLine == pos.line) = true := by rfl) :
    PE X (.Call (.Attribute o "split" apos) [e] [] pos) (tM X.K G W (eM1 opSplit mo me)) := peImp (pe_split ho he hs hbase hline) fun σ H Q t => m1_imp (fun {ρ H h x y dx dy d h' Q} hr rx ry e k => by
  cases rx <;> cases ry <;> simp only [opSplit] at e <;> first | (cases e; done) | skip
  split at e
  · rename_i a b hab
    cases e
    refine ⟨a, b, rfl, rfl, hab.1, hab.2, fun p hp => ?_⟩
    refine k (ρ ++ [p]) _ _ (Ex.push hp) (hr.new hp (.lst upd_same (Rvs.of_strs _))) (.ref ?_)
    rw [← hr.len]
    exact get_push_eq
  · cases e) σ H Q t
theorem se_join {apos : Pos} (ho : PE X o (tM X.K G W mo)) (he : PE X e (tM X.K G W me)) (hs : starEach [e] X.env = [(false, eval e X.env)] := by rfl) (hbase : attributeBase o "join" X.env (eval o X.env) = eval o X.env := by rfl) (hline : (apos.endLine == pos.line) = true := by rfl) :
    PE X (.Call (.Attribute o "join" apos) [e] [] pos) (tM X.K G W (eM1 opJoin mo me)) := peImp (pe_join ho he hs hbase hline) fun σ H Q t => m1_imp (fun {ρ H h x y dx dy d h' Q} hr rx ry e k => by
  unfold opJoin at e
  split at e
  · cases rx
    split at e
    · rename_i ds e1
      split at e
      · rename_i ys e2
        split at e
        · rename_i hz
          cases e
          unfold partsOf at e1
          split at e1
          · cases e1
            obtain ⟨a, vs, rfl, t, r⟩ := ry.sqT
            rw [strsOf_eq r e2] at t
            exact ⟨_, a, ys, rfl, rfl, .inr t, hz, k _ _ _ Ex.refl hr (.str _)⟩
          · cases e1
            cases ry with
            | fls t r =>
              have t' := t.sq
              rw [strsOf_eq r e2] at t'
              exact ⟨_, _, ys, rfl, rfl, .inl t', hz, k _ _ _ Ex.refl hr (.str _)⟩
          · cases ry with
            | ref ra =>
              split at e1
              · rename_i e0
                cases e1
                obtain ⟨vs, q, r⟩ := ref_seq hr ra e0
                rw [strsOf_eq r e2] at q
                exact ⟨_, _, ys, rfl, rfl, .inl q, hz, k _ _ _ Ex.refl hr (.str _)⟩
              · cases e1
          · cases e1
        · cases e
      · cases e
    · cases e
  · cases e) σ H Q t
end
theorem fn_bad {P : Program} {w : World} {K : PySem.W.Frag} {mg : Str → Option Value} {base : Heap} {CX : CXT} {k : Nat} {f : Addr} {fd : FuncData} {ps : List Str} {G : Cl} {np : Nat} (hp : np = ps.length) : FnOk P w K mg base CX k f fd ps (spM K G np fun _ _ => .bad) :=
  ⟨fun vs H Q E ⟨_, _, _, _, _, l, _⟩ => l.trans hp, fun A outer s H args us vs Q E _ _ _ _ ⟨_, _, _, _, _, _, p⟩ => p.elim⟩
end Sm
/-! SmT: in, not in: a sign in a text; flat things in a list or tuple -/
namespace Sm
open PySem L2 PyProof.Rows
def toV : D → Option V
  | .non => some .non
  | .bl b => some (.bl b)
  | .int i => some (.int i)
  | .str x => some (.str x)
  | _ => none
def toVs : List D → Option (List V)
  | [] => some []
  | d :: ds => match toV d, toVs ds with
    | some v, some vs => some (v :: vs)
    | _, _ => none
theorem toV_eq {K : PySem.W.Frag} {ρ : List Addr} {H : Hp} {v v' : V} {d : D} (r : Rv K ρ H v d) (e : toV d = some v') : v = v' ∧ flatV v' = true := by
  cases d <;> simp only [toV] at e <;> cases e <;> cases r <;> exact ⟨rfl, rfl⟩
theorem toVs_eq {K : PySem.W.Frag} {ρ : List Addr} {H : Hp} : ∀ {vs vs' : List V} {ds : List D}, Rvs K ρ H vs ds → toVs ds = some vs' → vs = vs' ∧ vs'.all flatV = true
  | _, _, _, .nil, e => by cases e; exact ⟨rfl, rfl⟩
  | _, vs', _, .cons (d := d) (ds := ds) h t, e => by
    unfold toVs at e
    split at e
    · rename_i v vs e1 e2
      cases e
      obtain ⟨rfl, f1⟩ := toV_eq h e1
      obtain ⟨rfl, f2⟩ := toVs_eq t e2
      exact ⟨rfl, by simp [f1, f2]⟩
    · cases e
def opInB : D → D → Hh → Option Bool
  | .str x, .str z, _ => match x.cps.toList with
    | [c] => some (decide (c ∈ z.cps.toList))
    | _ => none
  | x, y, h => match toV x, partsOf y h with
    | some v, some ds => match toVs ds with
      | some vs => some (inV v vs)
      | none => none
    | _, _ => none
def opIn (x y : D) (h : Hh) : Option (D × Hh) := (opInB x y h).map fun b => (.bl b, h)
def opNin (x y : D) (h : Hh) : Option (D × Hh) := (opInB x y h).map fun b => (.bl (!b), h)
abbrev rSgn (neg : Bool) : R2 := fun x y H Q => ∃ (c : Nat) (z : Str), x = .str ⟨#[c]⟩ ∧ y = .str z ∧ Q (.bl (if neg then !decide (c ∈ z.cps.toList) else decide (c ∈ z.cps.toList))) H
section
variable {X : Cx} {G : Cl} {W : WX} {a b : Expr} {pos : Pos} {ma mb : M} {K : PySem.W.Frag}
theorem im_inB (neg : Bool) : Imp2 K G (fun x y H Q => rSgn neg x y H Q ∨ rIn K neg x y H Q) (fun x y h => (opInB x y h).map fun b => (.bl (if neg then !b else b), h)) := fun {ρ H h x y dx dy d h' Q} hr rx ry e k => by
  rw [Option.map_eq_some_iff] at e
  obtain ⟨bb, e1, e2⟩ := e
  cases e2
  unfold opInB at e1
  split at e1
  · rename_i x z
    cases rx; cases ry
    split at e1
    · rename_i c hc
      cases e1
      have hx : x = ⟨#[c]⟩ := by
        cases x with
        | mk cps =>
          simp only at hc
          congr 1
          apply Array.ext'
          simpa using hc
      exact .inl ⟨c, z, by rw [hx], rfl, k _ _ _ Ex.refl hr (.bl _)⟩
    · cases e1
  · split at e1
    · rename_i v ds e3 e4
      split at e1
      · rename_i vs e5
        cases e1
        obtain ⟨rfl, f1⟩ := toV_eq rx e3
        unfold partsOf at e4
        split at e4
        · cases e4
          obtain ⟨p, us, rfl, t, r⟩ := ry.sqT
          obtain ⟨rfl, f2⟩ := toVs_eq r e5
          exact .inr ⟨p, _, rfl, .inr t, f1, f2, k _ _ _ Ex.refl hr (.bl _)⟩
        · cases e4
          cases ry with
          | fls t r =>
            obtain ⟨rfl, f2⟩ := toVs_eq r e5
            exact .inr ⟨_, _, rfl, .inl t.sq, f1, f2, k _ _ _ Ex.refl hr (.bl _)⟩
        · cases ry with
          | ref ra =>
            split at e4
            · rename_i e0
              cases e4
              obtain ⟨us, q, r⟩ := ref_seq hr ra e0
              obtain ⟨rfl, f2⟩ := toVs_eq r e5
              exact .inr ⟨_, _, rfl, .inl q, f1, f2, k _ _ _ Ex.refl hr (.bl _)⟩
            · cases e4
        · cases e4
      · cases e1
    · cases e1
theorem im_in : Imp2 K G (fun x y H Q => (∃ (c : Nat) (z : Str), x = .str ⟨#[c]⟩ ∧ y = .str z ∧ Q (.bl (decide (c ∈ z.cps.toList))) H) ∨ rIn K false x y H Q) opIn := im_inB false
theorem im_nin : Imp2 K G (fun x y H Q => (∃ (c : Nat) (z : Str), x = .str ⟨#[c]⟩ ∧ y = .str z ∧ Q (.bl (!decide (c ∈ z.cps.toList))) H) ∨ rIn K true x y H Q) opNin := im_inB true
theorem se_in (hu : X.A.units + 64 < cLine) (ha : PE X a (tM X.K G W ma)) (hb : PE X b (tM X.K G W mb)) (hm : behindInMarks .In b = false := by rfl) : PE X (.Compare a [.In] [b] pos) (tM X.K G W (eB opIn ma mb)) := se_cmp (op_in_sign.or op_in_seq) im_in ha hb hm
theorem se_nin (hu : X.A.units + 64 < cLine) (ha : PE X a (tM X.K G W ma)) (hb : PE X b (tM X.K G W mb)) (hm : behindInMarks .NotIn b = false := by rfl) : PE X (.Compare a [.NotIn] [b] pos) (tM X.K G W (eB opNin ma mb)) := se_cmp (op_notIn_sign.or op_notIn_seq) im_nin ha hb hm
theorem st_in (hu : X.A.units + 64 < cLine) (ha : PE X a (tM X.K G W ma)) (hb : PE X b (tM X.K G W mb)) (hm : behindInMarks .In b = false := by rfl) : PT X (.Compare a [.In] [b] pos) (tT X.K G W (tBl (eB opIn ma mb))) := st_cmp (op_in_sign.or op_in_seq) im_in ha hb hm
theorem st_nin (hu : X.A.units + 64 < cLine) (ha : PE X a (tM X.K G W ma)) (hb : PE X b (tM X.K G W mb)) (hm : behindInMarks .NotIn b = false := by rfl) : PT X (.Compare a [.NotIn] [b] pos) (tT X.K G W (tBl (eB opNin ma mb))) := st_cmp (op_notIn_sign.or op_notIn_seq) im_nin ha hb hm
end
end Sm
/-! SmU: running the mirrors of SmX2, SmY, SmS, SmT -/
namespace Sm
open PySem L2 PyProof.Rows
section
variable (env : Ev) (h : Hh) (f : D → D → Hh → Option (D × Hh)) (mo me m : M) (d e : D) (ds fs : List D) (ms : List M) (mx : List (List D → M)) (c k i : Nat) (sb : S) (mt : Nat → Option Bool) (sm : List D → M) (x y z : Str) (n : Nat)
def sRaise1 (c : Nat) (env : Ev) (r : R (List D)) : SR := bindS r env fun ds h1 => .exc c ds env h1
@[simp] theorem sRaise_eq : sRaise c ms env h = sRaise1 c env (evs ms env h) := rfl
@[simp] theorem sRaise1_ok : sRaise1 c env (.ok ds h) = .exc c ds env h := rfl
def sTryX1 (mt : Nat → Option Bool) (i : Nat) (sm : List D → M) (r : SR) : SR := match r with
  | .exc c fs env' h' => (match mt c with
    | some true => if i < env'.length then (match sm fs (env'.set i none) h' with
      | .ok d h2 => .rt d h2
      | _ => .bad) else .bad
    | some false => .exc c fs env' h'
    | none => .bad)
  | r => r
@[simp] theorem sTryX_eq : sTryX sb mt i sm env h = sTryX1 mt i sm (sb env h) := rfl
@[simp] theorem sTryX1_rt : sTryX1 mt i sm (.rt d h) = .rt d h := rfl
@[simp] theorem sTryX1_nx : sTryX1 mt i sm (.nx env h) = .nx env h := rfl
@[simp] theorem sTryX1_exc : sTryX1 mt i sm (.exc c fs env h) = match mt c with
    | some true => if i < env.length then (match sm fs (env.set i none) h with
      | .ok d h2 => .rt d h2
      | _ => .bad) else .bad
    | some false => .exc c fs env h
    | none => .bad := rfl
@[simp] theorem eTupX_eq : eTupX mx fs = eTup (mx.map fun m => m fs) := rfl
@[simp] theorem eLstX_eq : eLstX mx fs = eLst (mx.map fun m => m fs) := rfl
def eM11 (f : D → D → Hh → Option (D × Hh)) (me : M) (env : Ev) (r : R D) : R D := r.bind fun o h1 => match o with
  | .str a => (me env h1).bind fun d h2 => R.opt (f (.str a) d h2)
  | _ => .bad
def eM12 (f : D → D → Hh → Option (D × Hh)) (a : Str) (r : R D) : R D := r.bind fun d h2 => R.opt (f (.str a) d h2)
@[simp] theorem eM1_eq : eM1 f mo me env h = eM11 f me env (mo env h) := rfl
@[simp] theorem eM11_ok : eM11 f me env (.ok (.str x) h) = eM12 f x (me env h) := rfl
@[simp] theorem eM12_ok : eM12 f x (.ok d h) = R.opt (f (.str x) d h) := rfl
@[simp] theorem opSplit_ss : opSplit (.str x) (.str y) h = if (y.length == 0) = false ∧ x.length + 2 ≤ sizeLine then some (.ref h.length, h ++ [.lst ((Txt.split x y).map D.str)]) else none := rfl
theorem strsOf_map : ∀ xs : List Str, strsOf (xs.map D.str) = some xs
  | [] => rfl
  | x :: xs => by simp [strsOf, strsOf_map xs]
theorem opJoin_l {xs : List Str} (e : h[n]? = some (.lst (xs.map D.str))) (hz : (xs.map (·.length)).sum + xs.length * x.length ≤ 16777216) : opJoin (.str x) (.ref n) h = some (.str (Txt.join x xs), h) := by
  have h1 : partsOf (.ref n) h = some (xs.map D.str) := by
    show (match h[n]? with
      | some (.lst ds) => some ds
      | _ => none) = _
    rw [e]
  have h2 := strsOf_map xs
  simp only [opJoin, h1, h2, if_pos hz]
-- an exception passes through
@[simp] theorem rexc_eU1 (g : D → Hh → Option (D × Hh)) : eU1 g (.exc c fs h) = .exc c fs h := rfl
@[simp] theorem rexc_eB1 (b : M) : eB1 f b env (.exc c fs h) = .exc c fs h := rfl
@[simp] theorem rexc_eB2 : eB2 f d (.exc c fs h) = .exc c fs h := rfl
@[simp] theorem rexc_evs1 : evs1 ms env (.exc c fs h) = .exc c fs h := rfl
@[simp] theorem rexc_evs2 : evs2 d (.exc c fs h) = .exc c fs h := rfl
@[simp] theorem rexc_eTup1 : eTup1 (.exc c fs h) = .exc c fs h := rfl
@[simp] theorem rexc_eLst1 : eLst1 (.exc c fs h) = .exc c fs h := rfl
@[simp] theorem rexc_eCall1 (g : Fm) : eCall1 g (.exc c fs h) = .exc c fs h := rfl
@[simp] theorem rexc_eN1 (g : List D → Hh → Option (D × Hh)) : eN1 g (.exc c fs h) = .exc c fs h := rfl
end
end Sm
/-! SmV: a walk over a tuple, a list or a text -/
namespace Sm
open PySem L2 PyProof.Rows
def signs (z : Str) : List D := z.cps.toList.map fun c => .str ⟨#[c]⟩
def mSeqS (m : M) : Ev → Hh → R Src := fun env h => (m env h).bind fun d h1 => match d with
  | .tup ds => .ok (ds, none) h1
  | .fls ds => .ok (ds, none) h1
  | .str z => .ok (signs z, none) h1
  | .ref n => match h1[n]? with
    | some (.lst ds) => .ok (ds, some (n, .lst ds)) h1
    | _ => .bad
  | _ => .bad
section
variable {X : Cx} {G : Cl} {W : WX} {tg iter : Expr} {m : M} {K : PySem.W.Frag} {ρ : List Addr} {H : Hp}
theorem walks_str {z : Str} : Walks K G ρ H (Its z) (signs z) none := by
  have hl : (signs z).length = z.cps.size := by unfold signs; simp
  refine ⟨fun i ρ' H' h' hr e _ hi => by rw [hl] at hi; exact hi, fun i ρ' H' h' x H2 hr e _ y d hd => ?_, fun ρ' H' h' hr e _ => by rw [hl]; exact Nat.le_refl _⟩
  obtain ⟨rfl, c, hc, rfl⟩ := y
  unfold signs at hd
  rw [List.getElem?_map, Array.getElem?_toList, hc] at hd
  cases hd
  exact ⟨rfl, .str _⟩
theorem io_seqS : ItOk K G W (fun σ H R => (iTup K (tM K G W m) σ H R ∨ iList K (tM K G W m) σ H R) ∨ iStr (tM K G W m) σ H R) (mSeqS m) := fun σ H R0 t => by
  obtain ⟨ρ, h, env, hr, he, p⟩ := t
  cases q : m env h with
  | bad => unfold mSeqS at p; rw [q] at p; exact p.elim
  | exc c fs h' => unfold mSeqS at p; rw [q] at p; exact .inl (.inl ⟨ρ, h, env, hr, he, by rw [q]; exact p⟩)
  | ok d h1 =>
    cases d with
    | str z =>
      unfold mSeqS at p
      rw [q] at p
      refine .inr ⟨ρ, h, env, hr, he, ?_⟩
      rw [q]
      intro ρ' H' v e a r
      cases r
      exact ⟨z, rfl, p ρ' H' _ e a walks_str⟩
    | _ => exact .inl (io_seq σ H R0 ⟨ρ, h, env, hr, he, by unfold mSeqS at p; unfold mSeq; rw [q] at p ⊢; exact p⟩)
theorem pi_seqS (ha : PE X iter (tM X.K G W m)) : PI X tg iter (fun σ H R => (iTup X.K (tM X.K G W m) σ H R ∨ iList X.K (tM X.K G W m) σ H R) ∨ iStr (tM X.K G W m) σ H R) := PI.or (pi_seq ha) (pi_str ha)
end
end Sm
/-! SmW: text * int -/
namespace Sm
open PySem L2 PyProof.Rows
section
variable {X : Cx} {G : Cl} {W : WX} {a b : Expr} {pos : Pos} {ma mb : M} {K : PySem.W.Frag}
abbrev rMulS : R2 := fun x y H Q => ∃ (z : Str) (n : Int), x = .str z ∧ y = .int n ∧ PySem.MulOk z n ∧ Q (.str (Txt.mul z n)) H
theorem op_mul_str : OpR X (binaryOp .Mult) rMulS := by
  intro pins s σ H x y v u Q I rx ry h
  obtain ⟨i, j, rfl, rfl, hz, q⟩ := h
  obtain ⟨t, rfl⟩ := rx
  obtain ⟨t', rfl⟩ := ry
  exact SB.mul hz fun t' k => ⟨.str (Txt.mul i j), H, I.tok _, ⟨_, rfl⟩, q⟩
def opMulA : D → D → Hh → Option (D × Hh)
  | .str z, .int n, h => if z.length ≤ 16 ∧ 0 ≤ n ∧ n ≤ 1048576 then some (.str (Txt.mul z n), h) else none
  | x, y, h => opMul x y h
theorem im_mulA : Imp2 K G (fun x y H Q => rI CMul (fun i j => .int (i * j)) x y H Q ∨ rMulS x y H Q) opMulA := fun {ρ H h x y dx dy d h' Q} hr rx ry e k => by
  unfold opMulA at e
  split at e
  · split at e
    · rename_i q
      cases e
      cases rx; cases ry
      exact .inr ⟨_, _, rfl, rfl, PyProof.Rows.mulOk_of 16 1048576 (by omega) (by omega) (by omega) (by decide) (by decide), k _ _ _ Ex.refl hr (.str _)⟩
    · cases e
  · exact .inl (im_mul hr rx ry e k)
theorem se_mulA (ha : PE X a (tM X.K G W ma)) (hb : PE X b (tM X.K G W mb)) : PE X (.BinOp a .Mult b pos) (tM X.K G W (eB opMulA ma mb)) := se_bin (op_mul.or op_mul_str) im_mulA ha hb
end
section
variable (env : Ev) (h : Hh) (m : M) (i j : Int) (z : Str) (ds : List D) (n : Nat)
@[simp] theorem opMulA_ii : opMulA (.int i) (.int j) h = if mulOk i j = true then some (.int (i * j), h) else none := rfl
@[simp] theorem opMulA_si : opMulA (.str z) (.int i) h = if z.length ≤ 16 ∧ 0 ≤ i ∧ i ≤ 1048576 then some (.str (Txt.mul z i), h) else none := rfl
def mSeqS1 (r : R D) : R Src := r.bind fun d h1 => match d with
  | .tup ds => .ok (ds, none) h1
  | .fls ds => .ok (ds, none) h1
  | .str z => .ok (signs z, none) h1
  | .ref n => match h1[n]? with
    | some (.lst ds) => .ok (ds, some (n, .lst ds)) h1
    | _ => .bad
  | _ => .bad
@[simp] theorem mSeqS_eq : mSeqS m env h = mSeqS1 (m env h) := rfl
@[simp] theorem mSeqS1_t : mSeqS1 (.ok (.tup ds) h) = .ok (ds, none) h := rfl
@[simp] theorem mSeqS1_f : mSeqS1 (.ok (.fls ds) h) = .ok (ds, none) h := rfl
@[simp] theorem mSeqS1_s : mSeqS1 (.ok (.str z) h) = .ok (signs z, none) h := rfl
@[simp] theorem mSeqS1_r : mSeqS1 (.ok (.ref n) h) = match h[n]? with
    | some (.lst ds) => .ok (ds, some (n, .lst ds)) h
    | _ => .bad := rfl
end
end Sm
/-! SmFz: a list that is no longer changed becomes a value (it is locked in the abstract heap for good); a call leaves no new objects behind. -/
namespace Sm
open PySem L2 PyProof.Rows
mutual
/-- all places in it lie below n -/
def lo (n : Nat) : D → Bool
  | .tup ds => los n ds
  | .fls ds => los n ds
  | .ref m => decide (m < n)
  | _ => true
def los (n : Nat) : List D → Bool
  | [] => true
  | d :: ds => lo n d && los n ds
end
section
variable {K : PySem.W.Frag} {G : Cl} {ρ ρ' : List Addr} {H H' : Hp} {h h' : Hh} {n : Nat}
mutual
theorem Rv.cutR (hp : ∀ (m : Nat) (a : Addr), m < n → ρ'[m]? = some a → ρ[m]? = some a) : ∀ {v : V} {d : D}, Rv K ρ' H v d → lo n d = true → Rv K ρ H v d
  | _, _, .non, _ => .non
  | _, _, .bl b, _ => .bl b
  | _, _, .int i, _ => .int i
  | _, _, .str x, _ => .str x
  | _, _, .tup h r, l => .tup h (Rvs.cutR hp r (by simpa [lo] using l))
  | _, _, .ktp h q r, l => .ktp h q (Rvs.cutR hp r (by simpa [lo] using l))
  | _, _, .fls h r, l => .fls h (Rvs.cutR hp r (by simpa [lo] using l))
  | _, _, .ref h, l => .ref (hp _ _ (by simpa [lo] using l) h)
theorem Rvs.cutR (hp : ∀ (m : Nat) (a : Addr), m < n → ρ'[m]? = some a → ρ[m]? = some a) : ∀ {vs : List V} {ds : List D}, Rvs K ρ' H vs ds → los n ds = true → Rvs K ρ H vs ds
  | _, _, .nil, _ => .nil
  | _, _, .cons h r, l => .cons (Rv.cutR hp h (by simp [los] at l; exact l.1)) (Rvs.cutR hp r (by simp [los] at l; exact l.2))
end
theorem Ex.take (e : Ex K ρ H ρ' H') (hn : ρ.length ≤ n) : Ex K ρ H (ρ'.take n) H' := ⟨fun m a z => by
  have l : m < ρ.length := (List.getElem?_eq_some_iff.mp z).1
  rw [List.getElem?_take, if_pos (by omega)]
  exact e.pre m a z, e.tup, e.frz, e.xds⟩
/-- the plain heap's objects, read with fewer places: an object whose parts lie below -/
def loO (n : Nat) : O → Bool
  | .lst ds => los n ds
  | .dK kvs => kvs.all fun p => lo n p.2
  | .dT kvs => kvs.all fun p => lo n p.2
  | .ins _ fs => fs.all fun o => match o with
    | some d => lo n d
    | none => true
  | .dead => true
/-- what stands in h2 stood in h or has its parts below n -/
def Kq (n : Nat) (h h2 : Hh) : Prop := ∀ (i : Nat) (o : O), h2[i]? = some o → h[i]? = some o ∨ loO n o = true
mutual
theorem Rv.loR : ∀ {v : V} {d : D}, Rv K ρ H v d → lo ρ.length d = true
  | _, _, .non => rfl
  | _, _, .bl b => rfl
  | _, _, .int i => rfl
  | _, _, .str x => rfl
  | _, _, .tup h r => by simpa [Sm.lo] using Rvs.losR r
  | _, _, .ktp h q r => by simpa [Sm.lo] using Rvs.losR r
  | _, _, .fls h r => by simpa [Sm.lo] using Rvs.losR r
  | _, _, .ref h => by simpa [Sm.lo] using (List.getElem?_eq_some_iff.mp h).1
theorem Rvs.losR : ∀ {vs : List V} {ds : List D}, Rvs K ρ H vs ds → los ρ.length ds = true
  | _, _, .nil => rfl
  | _, _, .cons h r => by simp [Sm.los, Rv.loR h, Rvs.losR r]
end
theorem Paired.loK {β : Type} : ∀ {kvs : List (β × V)} {ds : List (β × D)}, Paired (fun (p : β × V) (q : β × D) => p.1 = q.1 ∧ Rv K ρ H p.2 q.2) kvs ds → (ds.all fun p => lo ρ.length p.2) = true
  | _, _, .nil => rfl
  | _, _, .cons h t => by simp only [List.all_cons, Bool.and_eq_true]; exact ⟨h.2.loR, Paired.loK t⟩
theorem Ro.loR {a : Addr} {o : O} (r : Ro K G ρ H a o) : loO ρ.length o = true := by
  cases r with
  | lst q r => simpa [loO] using r.losR
  | dK q r => simpa [loO] using Paired.loK r
  | dT q r => simpa [loO] using Paired.loK r
  | @ins c dx fs ds q e r nn z =>
    show (ds.all fun o => match o with
      | some d => lo ρ.length d
      | none => true) = true
    rw [List.all_eq_true]
    intro o ho
    obtain ⟨i, hi⟩ := List.getElem?_of_mem ho
    have hl : i < (G.nm c).length := by rw [← e]; exact (List.getElem?_eq_some_iff.mp hi).1
    have q1 := r i _ (List.getElem?_eq_getElem hl)
    rw [hi] at q1
    cases o with
    | none => rfl
    | some d =>
      cases e2 : fs.lookup (G.nm c)[i] with
      | none => rw [e2] at q1; exact q1.elim
      | some v => rw [e2] at q1; exact Rv.loR q1
  | dead q => rfl
theorem lo_mono {m n : Nat} (hmn : m ≤ n) {d : D} (l : lo m d = true) : lo n d = true := by
  have key : (∀ d, lo m d = true → lo n d = true) ∧ (∀ ds, los m ds = true → los n ds = true) := by
    constructor
    · intro d
      refine lo.induct (motive_1 := fun d => lo m d = true → lo n d = true) (motive_2 := fun ds => los m ds = true → los n ds = true) ?_ ?_ ?_ ?_ ?_ ?_ d
      · intro ds ih l; simp [lo] at l ⊢; exact ih l
      · intro ds ih l; simp [lo] at l ⊢; exact ih l
      · intro k l; simp [lo] at l ⊢; omega
      · intro d h1 h2 h3 l; unfold lo; split <;> simp_all
      · intro _; rfl
      · intro d ds ih1 ih2 l; simp [los] at l ⊢; exact ⟨ih1 l.1, ih2 l.2⟩
    · intro ds
      refine los.induct (motive_1 := fun d => lo m d = true → lo n d = true) (motive_2 := fun ds => los m ds = true → los n ds = true) ?_ ?_ ?_ ?_ ?_ ?_ ds
      · intro ds ih l; simp [lo] at l ⊢; exact ih l
      · intro ds ih l; simp [lo] at l ⊢; exact ih l
      · intro k l; simp [lo] at l ⊢; omega
      · intro d h1 h2 h3 l; unfold lo; split <;> simp_all
      · intro _; rfl
      · intro d ds ih1 ih2 l; simp [los] at l ⊢; exact ⟨ih1 l.1, ih2 l.2⟩
  exact key.1 d l
theorem los_mono {m n : Nat} (hmn : m ≤ n) : ∀ {ds : List D}, los m ds = true → los n ds = true
  | [], _ => rfl
  | d :: ds, l => by simp only [los, Bool.and_eq_true] at l ⊢; exact ⟨lo_mono hmn l.1, los_mono hmn l.2⟩
theorem loO_mono {m n : Nat} (hmn : m ≤ n) {o : O} (l : loO m o = true) : loO n o = true := by
  cases o with
  | lst ds => exact los_mono hmn l
  | dK kvs =>
    simp only [loO, List.all_eq_true] at l ⊢
    exact fun x hx => lo_mono hmn (l x hx)
  | dT kvs =>
    simp only [loO, List.all_eq_true] at l ⊢
    exact fun x hx => lo_mono hmn (l x hx)
  | ins c fs =>
    simp only [loO, List.all_eq_true] at l ⊢
    intro x hx
    have := l x hx
    cases x with
    | none => rfl
    | some d => exact lo_mono hmn this
  | dead => rfl
theorem Paired.cutK {β : Type} (hp : ∀ (m : Nat) (a : Addr), m < n → ρ'[m]? = some a → ρ[m]? = some a) : ∀ {kvs : List (β × V)} {ds : List (β × D)}, Paired (fun (p : β × V) (q : β × D) => p.1 = q.1 ∧ Rv K ρ' H p.2 q.2) kvs ds → (ds.all fun p => lo n p.2) = true → Paired (fun (p : β × V) (q : β × D) => p.1 = q.1 ∧ Rv K ρ H p.2 q.2) kvs ds
  | _, _, .nil, _ => .nil
  | _, _, .cons h t, l => by
    simp only [List.all_cons, Bool.and_eq_true] at l
    exact .cons ⟨h.1, h.2.cutR hp l.1⟩ (Paired.cutK hp t l.2)
theorem Ro.cutR (hp : ∀ (m : Nat) (a : Addr), m < n → ρ'[m]? = some a → ρ[m]? = some a) {a : Addr} {o : O} (r : Ro K G ρ' H a o) (l : loO n o = true) : Ro K G ρ H a o := by
  cases r with
  | lst q r => exact .lst q (r.cutR hp (by simpa [loO] using l))
  | dK q r => exact .dK q (Paired.cutK hp r (by simpa [loO] using l))
  | dT q r => exact .dT q (Paired.cutK hp r (by simpa [loO] using l))
  | @ins c dx fs ds q e r nn z =>
    refine .ins q e (fun i f hf => ?_) nn z
    have q1 := r i f hf
    cases e2 : fs.lookup f with
    | none =>
      rw [e2] at q1
      cases e1 : ds[i]? with
      | none => trivial
      | some o1 =>
        rw [e1] at q1
        cases o1 with
        | none => trivial
        | some d => exact q1.elim
    | some v =>
      rw [e2] at q1
      cases e1 : ds[i]? with
      | none => rw [e1] at q1; exact q1.elim
      | some o1 =>
        rw [e1] at q1
        cases o1 with
        | none => exact q1.elim
        | some d =>
          have l1 : lo n d = true := by
            have l2 : (ds.all fun o => match o with
              | some d => lo n d
              | none => true) = true := l
            have := List.all_eq_true.mp l2 (some d) (List.mem_of_getElem? e1)
            simpa using this
          exact Rv.cutR hp q1 l1
  | dead q => exact .dead q
theorem Rh.take (r : Rh K G ρ H h) (hl : ∀ (i : Nat) (o : O), (h.take n)[i]? = some o → loO n o = true) : Rh K G (ρ.take n) H (h.take n) := by
  have hp : ∀ (m : Nat) (a : Addr), m < n → ρ[m]? = some a → (ρ.take n)[m]? = some a := fun m a hm e => by rw [List.getElem?_take, if_pos hm]; exact e
  refine ⟨by rw [List.length_take, List.length_take, r.len], fun i j a h1 h2 => ?_, fun m o q => ?_⟩
  · rw [List.getElem?_take] at h1 h2
    split at h1
    · split at h2
      · exact r.inj i j a h1 h2
      · cases h2
    · cases h1
  · have lo1 : loO n o = true := hl m o q
    rw [List.getElem?_take] at q
    split at q
    · rename_i hm
      obtain ⟨a, h1, h2⟩ := r.obj m o q
      exact ⟨a, hp m a hm h1, h2.cutR hp lo1⟩
    · cases q
end
theorem Rh.kq {K : PySem.W.Frag} {G : Cl} {ρ : List Addr} {n : Nat} {h : Hh} {H0 : Hp} {h0 : Hh} (r : Rh K G ρ H0 h0) (hn : h0.length ≤ n) (q : Kq n h0 h) (i : Nat) (o : O) (e : h[i]? = some o) : loO n o = true := by
  rcases q i o e with z | z
  · obtain ⟨a, _, h2⟩ := r.obj i o z
    exact loO_mono (by rw [r.len]; exact hn) h2.loR
  · exact z
/-! ### a list becomes a value -/
def FQ (Q : VK) : VK := fun v H1 => Q v H1 ∨ ∃ d xs, v = .ref d ∧ H1 d = some (.lst xs) ∧ ∀ od, Q v (upd H1 d (.frz od (.lst xs)))
def tFrz (t : TE) : TE := fun σ H Q => t σ H (FQ Q)
theorem pe_frz {X : Cx} {e : Expr} {t : TE} (h : PE X e t) : PE X e (tFrz t) := by
  refine ⟨fun pins s σ H Q I hw => ?_⟩
  refine thn (h.run pins s σ H _ I hw) fun v s1 ⟨x, H1, I1, r1, q1⟩ => ?_
  rcases q1 with q1 | ⟨d, xs, rfl, hd, q1⟩
  · exact ⟨x, H1, I1, r1, q1⟩
  · obtain ⟨od, I2⟩ := I1.lock hd trivial
    exact ⟨.ref d, _, I2, r1, q1 od⟩
open Classical in
noncomputable def fz1 (h : Hh) (r : R D) : R D := match r with
  | .ok (.ref n) h1 => (match h1[n]? with
    | some (.lst ds) => if h.length ≤ n ∧ n + 1 = h1.length ∧ los n ds = true ∧ Kq n h (h1.take n) then .ok (.fls ds) (h1.take n) else .ok (.fls ds) (h1.set n .dead)
    | _ => .ok (.ref n) h1)
  | r => r
noncomputable def eFz (m : M) : M := fun env h => fz1 h (m env h)
section
variable {K : PySem.W.Frag} {G : Cl} {ρ ρ' : List Addr} {H H' : Hp} {h h' : Hh} {n : Nat} {W : WX} {σ : L2.St}
theorem Po.fz {r : R D} {Q : VK} (hr : Rh K G ρ H h) (p : Po K G (relV K) W ρ H σ (fz1 h r) Q) : Po K G (relV K) W ρ H σ r fun v H1 => Q v H1 ∨ ∃ d xs, v = .ref d ∧ H1 d = some (.lst xs) ∧ ∀ od, Q v (upd H1 d (.frz od (.lst xs))) := by
  cases r with
  | bad => exact p
  | exc c fs h1 => exact p
  | ok d h1 =>
    cases d with
    | ref n =>
      unfold fz1 at p
      dsimp only at p
      split at p
      · rename_i ds e0
        intro ρ' H' v ex rh rv
        cases rv with
        | ref ra =>
          rename_i a
          obtain ⟨vs, hv, rs⟩ := ref_lst rh ra e0
          refine .inr ⟨a, vs, rfl, hv, fun od => ?_⟩
          have e1 : Ex K ρ' H' ρ' (upd H' a (.frz od (.lst vs))) := Ex.write rh ra e0
          have r1 : Rh K G ρ' (upd H' a (.frz od (.lst vs))) (h1.set n .dead) := rh.write ra e0 (.dead upd_same)
          have v1 : Rv K ρ' (upd H' a (.frz od (.lst vs))) (.ref a) (.fls ds) := .fls (.inl ⟨od, upd_same⟩) (rs.mono e1)
          split at p
          · rename_i hc
            obtain ⟨c1, c2, c3, c4⟩ := hc
            have hp : ∀ (m : Nat) (b : Addr), m < n → ρ'[m]? = some b → (ρ'.take n)[m]? = some b := fun m b hm e => by rw [List.getElem?_take, if_pos hm]; exact e
            have t1 : (h1.set n .dead).take n = h1.take n := by
              rw [List.take_set, List.set_eq_of_length_le]
              rw [List.length_take]; omega
            refine p (ρ'.take n) _ _ (Ex.take (ex.trans e1) (by rw [hr.len]; exact c1)) ?_ (v1.cutR hp (by simpa [lo] using c3))
            have := r1.take (n := n) (by rw [t1]; exact hr.kq c1 c4)
            rw [t1] at this
            exact this
          · exact p ρ' _ _ (ex.trans e1) r1 v1
      · exact fun ρ' H' v ex rh rv => .inl (p ρ' H' v ex rh rv)
    | _ => exact fun ρ' H' v ex rh rv => .inl (p ρ' H' v ex rh rv)
theorem se_fz {X : Cx} {e : Expr} {m : M} (he : PE X e (tM X.K G W m)) : PE X e (tM X.K G W (eFz m)) := peImp (pe_frz he) fun σ H Q t => by
  obtain ⟨ρ, h, env, hr, he, p⟩ := t
  exact ⟨ρ, h, env, hr, he, Po.fz hr p⟩
/-! ### operations whose new list is a value at once -/
theorem new_fls {vs : List V} {ds : List D} {Q : VK} (hr : Rh K G ρ H h) (rs : Rvs K ρ H vs ds) (k : ∀ ρ' H' v, Ex K ρ H ρ' H' → Rh K G ρ' H' h → Rv K ρ' H' v (.fls ds) → Q v H') :
    ∀ p, H p = none → FQ Q (.ref p) (upd H p (.lst vs)) := fun p n => .inr ⟨p, vs, rfl, upd_same, fun od => by
  have e : upd (upd H p (.lst vs)) p (.frz od (.lst vs)) = upd H p (.frz od (.lst vs)) := by
    funext b
    by_cases q : b = p
    · rw [q, upd_same, upd_same]
    · rw [upd_ne q, upd_ne q, upd_ne q]
  rw [e]
  exact k ρ _ _ (Ex.fresh n) (hr.aux n) (.fls (.inl ⟨od, upd_same⟩) (rs.mono (Ex.fresh n)))⟩
theorem FQ.k {Q : VK} {ρ : List Addr} {H : Hp} {h' : Hh} {d : D} (k : ∀ ρ' H' v, Ex K ρ H ρ' H' → Rh K G ρ' H' h' → Rv K ρ' H' v d → Q v H') : ∀ ρ' H' v, Ex K ρ H ρ' H' → Rh K G ρ' H' h' → Rv K ρ' H' v d → FQ Q v H' := fun ρ' H' v a b c => .inl (k ρ' H' v a b c)
def Imp1F (K : PySem.W.Frag) (G : Cl) (r : V → Hp → VK → Prop) (f : D → Hh → Option (D × Hh)) : Prop := ∀ {ρ : List Addr} {H : Hp} {h : Hh} {x : V} {dx d : D} {h' : Hh} {Q : VK}, Rh K G ρ H h → Rv K ρ H x dx → f dx h = some (d, h') →
  (∀ ρ' H' v, Ex K ρ H ρ' H' → Rh K G ρ' H' h' → Rv K ρ' H' v d → Q v H') → r x H (FQ Q)
def Imp2F (K : PySem.W.Frag) (G : Cl) (r : R2) (f : D → D → Hh → Option (D × Hh)) : Prop := ∀ {ρ : List Addr} {H : Hp} {h : Hh} {x y : V} {dx dy d : D} {h' : Hh} {Q : VK}, Rh K G ρ H h → Rv K ρ H x dx → Rv K ρ H y dy → f dx dy h = some (d, h') →
  (∀ ρ' H' v, Ex K ρ H ρ' H' → Rh K G ρ' H' h' → Rv K ρ' H' v d → Q v H') → r x y H (FQ Q)
def ImpNF (K : PySem.W.Frag) (G : Cl) (r : List V → Hp → VK → Prop) (f : List D → Hh → Option (D × Hh)) : Prop := ∀ {ρ : List Addr} {H : Hp} {h : Hh} {xs : List V} {ds : List D} {d : D} {h' : Hh} {Q : VK}, Rh K G ρ H h → Rvs K ρ H xs ds → f ds h = some (d, h') →
  (∀ ρ' H' v, Ex K ρ H ρ' H' → Rh K G ρ' H' h' → Rv K ρ' H' v d → Q v H') → r xs H (FQ Q)
section
variable {X : Cx} {e o a b c : Expr} {lo hi : Option Expr} {es : List Expr} {pos p p1 p2 p3 : Pos} {ma mb m mo me : M} {ml mh : Option M} {ms : List M} {env : Ev} {x : Str} {id T : String}
theorem un_impF {r : V → Hp → VK → Prop} {f : D → Hh → Option (D × Hh)} (i : Imp1F X.K G r f) (σ : L2.St) (H : Hp) (Q : VK) (t : tM X.K G W (eU f ma) σ H Q) : tUn r (tM X.K G W ma) σ H (FQ Q) := by
  obtain ⟨ρ, h, env, hr, he, p⟩ := t
  refine tG_mono (tG_bind (rel := relV X.K) hr he p) fun x H1 ⟨ρ1, h1, d, e1, hr1, he1, r1, p1⟩ => ?_
  obtain ⟨d2, h2, eq, k⟩ := p1.opt
  exact i hr1 r1 eq k
theorem bin_impF {r : R2} {f : D → D → Hh → Option (D × Hh)} (i : Imp2F X.K G r f) (σ : L2.St) (H : Hp) (Q : VK) (t : tM X.K G W (eB f ma mb) σ H Q) : tOp r (tM X.K G W ma) (tM X.K G W mb) σ H (FQ Q) := by
  obtain ⟨ρ, h, env, hr, he, p⟩ := t
  refine tG_mono (tG_bind (rel := relV X.K) hr he p) fun x H1 ⟨ρ1, h1, d, e1, hr1, he1, r1, p1⟩ => ?_
  refine tG_mono (tG_bind (rel := relV X.K) hr1 he1 p1) fun y H2 ⟨ρ2, h2, d2, e2, hr2, he2, r2, p2⟩ => ?_
  obtain ⟨d3, h3, eq, k⟩ := p2.opt
  exact i hr2 (r1.mono e2) r2 eq k
theorem nary_impF {r : List V → Hp → VK → Prop} {f : List D → Hh → Option (D × Hh)} (i : ImpNF X.K G r f) (σ : L2.St) (H : Hp) (Q : VK) (t : tM X.K G W (eN f ms) σ H Q) : tCB r (tL X.K G W (evs ms)) σ H (FQ Q) := by
  obtain ⟨ρ, h, env, hr, he, p⟩ := t
  refine tG_mono (tG_bind (rel := relVs X.K) hr he p) fun x H1 ⟨ρ1, h1, d, e1, hr1, he1, r1, p1⟩ => ?_
  obtain ⟨d2, h2, eq, k⟩ := p1.opt
  exact i hr1 r1 eq k
/-- frozen: the reading's end is weaker -/
theorem pe_F {t t' : TE} (h : PE X e t) (i : ∀ σ H Q, t' σ H Q → t σ H (FQ Q)) : PE X e t' := peImp (pe_frz h) i
-- [a, b]
def eLstF (ms : List M) : M := fun env h => (evs ms env h).bind fun ds h1 => .ok (.fls ds) h1
theorem se_lstF (ha : PA X es (tL X.K G W (evs ms))) (hl : ms.length ≤ sizeLine := by decide) : PE X (.List es pos) (tM X.K G W (eLstF ms)) := pe_F (pe_lst ha) fun σ H Q t => by
  obtain ⟨ρ, h, env, hr, he, p⟩ := t
  refine tG_mono (seq_len (t := tNil) (L := fun _ _ => True) hl hr he p) fun vs H1 ⟨l, ρ1, h1, d, e1, hr1, he1, r1, p1⟩ => ⟨l, ?_⟩
  exact new_fls hr1 r1 p1
-- a + b
def opAddF : D → D → Hh → Option (D × Hh)
  | .fls xs, .fls ys, h => if xs.length + ys.length ≤ sizeLine then some (.fls (xs ++ ys), h) else none
  | .ref m, .fls ys, h => match h[m]? with
    | some (.lst xs) => if xs.length + ys.length ≤ sizeLine then some (.fls (xs ++ ys), h) else none
    | _ => none
  | .fls xs, .ref n, h => match h[n]? with
    | some (.lst ys) => if xs.length + ys.length ≤ sizeLine then some (.fls (xs ++ ys), h) else none
    | _ => none
  | .ref m, .ref n, h => match h[m]?, h[n]? with
    | some (.lst xs), some (.lst ys) => if xs.length + ys.length ≤ sizeLine then some (.fls (xs ++ ys), h) else none
    | _, _ => none
  | x, y, h => opAdd x y h
theorem im_addF : Imp2F K G (rAddAll K) opAddF := fun {ρ H h x y dx dy d h' Q} hr rx ry e k => by
  unfold opAddF at e
  split at e
  · split at e
    · rename_i hl
      cases e
      cases rx with
      | fls t1 r1 =>
        cases ry with
        | fls t2 r2 => exact .inr (.inr (.inr ⟨_, _, _, _, rfl, rfl, t1.sq, t2.sq, by rw [r1.length, r2.length]; exact hl, new_fls hr (r1.append r2) k⟩))
    · cases e
  · cases rx with
    | ref ra =>
      cases ry with
      | fls t2 r2 =>
        split at e
        · rename_i xs e1
          split at e
          · rename_i hl
            cases e
            obtain ⟨vs, q1, r1⟩ := ref_seq hr ra e1
            exact .inr (.inr (.inr ⟨_, _, _, _, rfl, rfl, q1, t2.sq, by rw [r1.length, r2.length]; exact hl, new_fls hr (r1.append r2) k⟩))
          · cases e
        · cases e
  · cases rx with
    | fls t1 r1 =>
      cases ry with
      | ref ra2 =>
        split at e
        · rename_i ys e2
          split at e
          · rename_i hl
            cases e
            obtain ⟨vs2, q2, r2⟩ := ref_seq hr ra2 e2
            exact .inr (.inr (.inr ⟨_, _, _, _, rfl, rfl, t1.sq, q2, by rw [r1.length, r2.length]; exact hl, new_fls hr (r1.append r2) k⟩))
          · cases e
        · cases e
  · cases rx with
    | ref ra =>
      cases ry with
      | ref ra2 =>
        split at e
        · rename_i xs ys e1 e2
          split at e
          · rename_i hl
            cases e
            obtain ⟨vs, q1, r1⟩ := ref_seq hr ra e1
            obtain ⟨vs2, q2, r2⟩ := ref_seq hr ra2 e2
            exact .inr (.inr (.inr ⟨_, _, _, _, rfl, rfl, q1, q2, by rw [r1.length, r2.length]; exact hl, new_fls hr (r1.append r2) k⟩))
          · cases e
        · cases e
  · exact im_add hr rx ry e (FQ.k k)
theorem se_addF (ha : PE X a (tM X.K G W ma)) (hb : PE X b (tM X.K G W mb)) : PE X (.BinOp a .Add b pos) (tM X.K G W (eB opAddF ma mb)) := pe_F (pe_op op_addAll ha hb) fun σ H Q t => bin_impF im_addF σ H Q t
-- a[l:u]
def opSlF : D → Option Int → Option Int → Hh → Option (D × Hh)
  | .tup ds, lo, hi, h => some (.tup (cutD ds lo hi), h)
  | .str z, lo, hi, h => if z.length ≤ sizeLine then some (.str (cutS z lo hi), h) else none
  | .fls ds, lo, hi, h => some (.fls (cutD ds lo hi), h)
  | .ref n, lo, hi, h => match h[n]? with
    | some (.lst ds) => some (.fls (cutD ds lo hi), h)
    | _ => none
  | _, _, _, _ => none
def eSlF (m : M) (lo hi : Option M) : M := fun env h => (m env h).bind fun d h1 => (evO lo env h1).bind fun l h2 => (evO hi env h2).bind fun u h3 => R.opt (opSlF d l u h3)
theorem im_slF {x : V} {d d2 : D} {lo hi : Option Int} {h' : Hh} {Q : VK} (hr : Rh K G ρ H h) (rx : Rv K ρ H x d) (e : opSlF d lo hi h = some (d2, h')) (k : ∀ ρ' H' v, Ex K ρ H ρ' H' → Rh K G ρ' H' h' → Rv K ρ' H' v d2 → Q v H') : rSlAll K x lo hi H (FQ Q) := by
  unfold opSlF at e
  split at e
  · cases e
    obtain ⟨a, vs, rfl, t, r⟩ := rx.sqT
    refine .inl ⟨a, vs, rfl, t, fun ⟨z1, z2⟩ => ?_, fun _ => new_tup hr (r.cut lo hi) (FQ.k k)⟩
    rw [r.length] at z1 z2
    rw [whole_cut z1 z2] at k
    exact .inl (k _ _ _ Ex.refl hr rx)
  · split at e
    · cases e; cases rx
      exact .inr (.inr ⟨_, rfl, by assumption, .inl (k _ _ _ Ex.refl hr (.str _))⟩)
    · cases e
  · cases e
    cases rx with
    | fls t r => exact .inr (.inl ⟨_, _, rfl, t.sq, new_fls hr (r.cut _ _) k⟩)
  · cases rx with
    | ref ra =>
      split at e
      · rename_i ds e0
        cases e
        obtain ⟨vs, q, r⟩ := ref_seq hr ra e0
        exact .inr (.inl ⟨_, vs, rfl, q, new_fls hr (r.cut _ _) k⟩)
      · cases e
  · cases e
theorem se_slF (ha : PE X a (tM X.K G W m)) (hl : PO X lo (tG X.K G relO W (evO ml))) (hh : PO X hi (tG X.K G relO W (evO mh))) : PE X (.Subscript a (.Slice lo hi none p2) pos) (tM X.K G W (eSlF m ml mh)) :=
  pe_F (pe_slice (sl_tupA.or (sl_list.or sl_str)) ha hl hh) fun σ H Q t => by
    obtain ⟨ρ, h, env, hr, he, p⟩ := t
    refine tG_mono (tG_bind (rel := relV X.K) hr he p) fun x H1 ⟨ρ1, h1, d, e1, hr1, he1, r1, p1⟩ => ?_
    refine tG_mono (tG_bind (rel := relO) hr1 he1 p1) fun l H2 ⟨ρ2, h2, d2, e2, hr2, he2, r2, p2⟩ => ?_
    refine tG_mono (tG_bind (rel := relO) hr2 he2 p2) fun u H3 ⟨ρ3, h3, d3, e3, hr3, he3, r3, p3⟩ => ?_
    subst r2 r3
    obtain ⟨d4, h4, eq, k⟩ := p3.opt
    exact im_slF hr3 ((r1.mono e2).mono e3) eq k
-- a[::-1]
def opRevF : D → Hh → Option (D × Hh)
  | .fls ds, h => some (.fls ds.reverse, h)
  | .ref n, h => match h[n]? with
    | some (.lst ds) => some (.fls ds.reverse, h)
    | _ => none
  | _, _ => none
theorem se_revF {k : Nat} (ha : PE X a (tM X.K G W m)) : PE X (.Subscript a (.Slice none none (some (.UnaryOp .USub (.Constant (.int 1) k p1) p2)) p3) pos) (tM X.K G W (eU opRevF m)) := pe_F (pe_revL ha) fun σ H Q t => by
  refine un_impF (r := fun x H1 Q => ∃ a xs, x = .ref a ∧ SqL X.K H1 a xs ∧ ∀ p, H1 p = none → Q (.ref p) (upd H1 p (.lst xs.reverse))) (fun {ρ H h x dx d h' Q} hr rx e k => ?_) σ H Q t
  unfold opRevF at e
  split at e
  · cases e
    cases rx with
    | fls t r => exact ⟨_, _, rfl, t.sq, new_fls hr r.reverse k⟩
  · cases rx with
    | ref ra =>
      split at e
      · rename_i ds e0
        cases e
        obtain ⟨vs, q, r⟩ := ref_seq hr ra e0
        exact ⟨_, vs, rfl, q, new_fls hr r.reverse k⟩
      · cases e
  · cases e
-- list(a)
def opListF : List D → Hh → Option (D × Hh)
  | [.tup ds], h => some (.fls ds, h)
  | [.fls ds], h => some (.fls ds, h)
  | [.ref n], h => match h[n]? with
    | some (.lst ds) => some (.fls ds, h)
    | some (.dK kvs) => some (.fls (kvs.map fun kv => kD kv.1), h)
    | some (.dT kvs) => some (.fls (kvs.map fun kv => .tup (kv.1.map kD)), h)
    | _ => none
  | _, _ => none
theorem im_listF : ImpNF K G (rListAll K) opListF := fun {ρ H h xs ds d h' Q} hr rs e k => by
  unfold opListF at e
  split at e
  · cases e
    obtain ⟨v, rfl, r⟩ := rs.one
    obtain ⟨a, vs, rfl, t, q⟩ := r.sqT
    exact .inl ⟨a, vs, rfl, .inr t, new_fls hr q k⟩
  · cases e
    obtain ⟨v, rfl, r⟩ := rs.one
    cases r with
    | fls t q => exact .inl ⟨_, _, rfl, .inl t.sq, new_fls hr q k⟩
  · obtain ⟨v, rfl, r⟩ := rs.one
    cases r with
    | ref ra =>
      split at e
      · rename_i e0
        cases e
        obtain ⟨vs, q, r⟩ := ref_seq hr ra e0
        exact .inl ⟨_, vs, rfl, .inl q, new_fls hr r k⟩
      · rename_i e0
        cases e
        have z := hr.at_ ra e0
        cases z with
        | dK q r => exact .inr (.inl ⟨_, _, rfl, q, new_fls hr (rvs_keys r) k⟩)
      · rename_i e0
        cases e
        have z := hr.at_ ra e0
        cases z with
        | dT q r => exact .inr (.inr ⟨_, _, rfl, .inl q, fun p bs n hb => new_fls hr (rvs_keysT r hb) k p n⟩)
      · cases e
  · cases e
-- sorted(a), numbers
def opSortedF : List D → Hh → Option (D × Hh)
  | [.fls ds], h => match intsOf ds with
    | some ns => some (.fls ((sortI ns).map D.int), h)
    | none => none
  | [.ref n], h => match h[n]? with
    | some (.lst ds) => match intsOf ds with
      | some ns => some (.fls ((sortI ns).map D.int), h)
      | none => none
    | _ => none
  | _, _ => none
theorem im_sortedF : ImpNF K G (rSortedI K) opSortedF := fun {ρ H h xs ds d h' Q} hr rs e k => by
  unfold opSortedF at e
  split at e
  · obtain ⟨v, rfl, r⟩ := rs.one
    cases r with
    | fls t r =>
      split at e
      · rename_i ns e1
        cases e
        have z := intsOf_eq e1
        subst z
        have y := r.ints
        subst y
        refine ⟨_, ns, rfl, t.sq, fun ns' p hp hs hn => ?_⟩
        rw [sortI_eq hp hs]
        exact new_fls hr (Rvs.of_ints _) k p hn
      · cases e
  · obtain ⟨v, rfl, r⟩ := rs.one
    cases r with
    | ref ra =>
      split at e
      · rename_i e0
        split at e
        · rename_i ns e1
          cases e
          have z := intsOf_eq e1
          subst z
          obtain ⟨vs, q, r⟩ := ref_seq hr ra e0
          have y := r.ints
          subst y
          refine ⟨_, ns, rfl, q, fun ns' p hp hs hn => ?_⟩
          rw [sortI_eq hp hs]
          exact new_fls hr (Rvs.of_ints _) k p hn
        · cases e
      · cases e
  · cases e
theorem se_callBF {r : List V → Hp → VK → Prop} {f : List D → Hh → Option (D × Hh)} (hc : CallR X (.builtin id) r) (i : ImpNF X.K G r f) (hg : Gl X x) (hm : X.mg x = none) (hv : bootBuiltins x = some (.builtin id)) (ha : PA X (e :: es) (tL X.K G W (evs ms))) (hn : x ≠ "__name__" := by decide) (hdb : (x == ("__debug__" : Str)) = false := by decide)
    (he : starEach (e :: es) X.env = (false, eval e X.env) :: starEach es X.env := by rfl) (hpl : (backTo pos (starEach es X.env)).any (·.1) = false := by rfl) : PE X (.Call (.Name x p) (e :: es) [] pos) (tM X.K G W (eN f ms)) :=
  pe_F (pe_callB hc hg hm hv ha hn hdb he hpl) fun σ H Q t => nary_impF i σ H Q t
theorem se_callTyF {r : List V → Hp → VK → Prop} {f : List D → Hh → Option (D × Hh)} (hc : CallR X (.type T) r) (i : ImpNF X.K G r f) (hg : Gl X x) (hm : X.mg x = none) (hv : bootBuiltins x = some (.type T)) (ha : PA X (e :: es) (tL X.K G W (evs ms))) (hn : x ≠ "__name__" := by decide) (hdb : (x == ("__debug__" : Str)) = false := by decide)
    (he : starEach (e :: es) X.env = (false, eval e X.env) :: starEach es X.env := by rfl) (hpl : (backTo pos (starEach es X.env)).any (·.1) = false := by rfl) : PE X (.Call (.Name x p) (e :: es) [] pos) (tM X.K G W (eN f ms)) :=
  pe_F (pe_callTy hc hg hm hv ha hn hdb he hpl) fun σ H Q t => nary_impF i σ H Q t
-- split
def opSplitF : D → D → Hh → Option (D × Hh)
  | .str a, .str b, h => if (b.length == 0) = false ∧ a.length + 2 ≤ sizeLine then some (.fls ((Txt.split a b).map D.str), h) else none
  | _, _, _ => none
theorem m1_impF {r : V → List V → Hp → VK → Prop} {f : D → D → Hh → Option (D × Hh)} (i : ∀ {ρ : List Addr} {H : Hp} {h : Hh} {x y : V} {dx dy d : D} {h' : Hh} {Q : VK}, Rh X.K G ρ H h → Rv X.K ρ H x dx → Rv X.K ρ H y dy → f dx dy h = some (d, h') →
  (∀ ρ' H' v, Ex X.K ρ H ρ' H' → Rh X.K G ρ' H' h' → Rv X.K ρ' H' v d → Q v H') → r x [y] H (FQ Q)) (σ : L2.St) (H : Hp) (Q : VK) (t : tM X.K G W (eM1 f mo me) σ H Q) : tM1 r (tM X.K G W mo) (tM X.K G W me) σ H (FQ Q) := by
  obtain ⟨ρ, h, env, hr, he, p⟩ := t
  refine tG_mono (tG_bind (rel := relV X.K) hr he p) fun x H1 ⟨ρ1, h1, d, e1, hr1, he1, r1, p1⟩ => ?_
  cases d with
  | str a =>
    cases r1
    refine ⟨⟨a, rfl⟩, tG_mono (tG_bind (rel := relV X.K) hr1 he1 p1) fun y H2 ⟨ρ2, h2, d2, e2, hr2, he2, r2, p2⟩ => ?_⟩
    obtain ⟨d3, h3, eq, k⟩ := p2.opt
    exact i hr2 (.str a) r2 eq k
  | _ => exact p1.elim
theorem se_splitF {apos : Pos} (ho : PE X o (tM X.K G W mo)) (he : PE X e (tM X.K G W me)) (hs : starEach [e] X.env = [(false, eval e X.env)] := by rfl) (hbase : attributeBase o "split" X.env (eval o X.env) = eval o X.env := by rfl) (hline : (apos.endLine == pos.line) = true := by rfl) :
    PE X (.Call (.Attribute o "split" apos) [e] [] pos) (tM X.K G W (eM1 opSplitF mo me)) := pe_F (pe_split ho he hs hbase hline) fun σ H Q t => m1_impF (fun {ρ H h x y dx dy d h' Q} hr rx ry e k => by
  cases rx <;> cases ry <;> simp only [opSplitF] at e <;> first | (cases e; done) | skip
  split at e
  · rename_i a b hab
    cases e
    exact ⟨a, b, rfl, rfl, hab.1, hab.2, new_fls hr (Rvs.of_strs _) k⟩
  · cases e) σ H Q t
end
def eLstXF (ms : List (List D → M)) (fs : List D) : M := eLstF (ms.map fun m => m fs)
theorem xe_lstF {X : Cx} {C : XCt} {es : List Expr} {pos : Pos} {ms : List (List D → M)} (ha : PA X es (tXL X.K G C (evsX ms))) (hl : ms.length ≤ sizeLine := by decide) : PE X (.List es pos) (tXM X.K G C (eLstXF ms)) := pe_F (pe_lst ha) fun σ H Q ⟨fs, ρ, h, env, hσ, rx, hr, hE, p⟩ => by
  refine ⟨fs, ρ, h, env, hσ, rx, hr, hE, ?_⟩
  unfold eLstXF eLstF at p
  cases q : evs (ms.map fun m => m fs) env h with
  | bad => unfold evsX; rw [q] at p ⊢; exact p
  | exc c' fs' h' => unfold evsX; rw [q] at p ⊢; exact p
  | ok ds h1 =>
    unfold evsX
    rw [q] at p ⊢
    simp only [R.bind_ok] at p
    intro ρ1 H1 vs e1 hr1 rvs
    exact ⟨by rw [rvs.length, evs_len q, List.length_map]; exact hl, new_fls hr1 rvs (p.shift e1)⟩
noncomputable def eFzX (m : List D → M) : List D → M := fun fs => eFz (m fs)
theorem xe_fz {X : Cx} {C : XCt} {e : Expr} {m : List D → M} (he : PE X e (tXM X.K G C m)) : PE X e (tXM X.K G C (eFzX m)) := peImp (pe_frz he) fun σ H Q ⟨fs, ρ, h, env, hσ, rx, hr, hE, p⟩ => ⟨fs, ρ, h, env, hσ, rx, hr, hE, Po.fz hr p⟩
/-! ### a call leaves nothing new behind -/
open Classical in
noncomputable def trR (h : Hh) (r : R D) : R D := match r with
  | .ok d h1 => if lo h.length d = true ∧ Kq h.length h (h1.take h.length) then .ok d (h1.take h.length) else .ok d h1
  | .exc c fs h1 => if los h.length fs = true ∧ Kq h.length h (h1.take h.length) then .exc c fs (h1.take h.length) else .exc c fs h1
  | .bad => .bad
theorem Ex.back (e : Ex K ρ H ρ' H') : Ex K ρ H ρ H' := ⟨fun _ _ h => h, e.tup, e.frz, e.xds⟩
theorem Ex.isTake (e : Ex K ρ H ρ' H') : ρ'.take ρ.length = ρ := by
  apply List.ext_getElem?
  intro i
  rw [List.getElem?_take]
  split
  · rename_i hi
    have := e.pre i ρ[i] (List.getElem?_eq_getElem hi)
    rw [this, List.getElem?_eq_getElem hi]
  · rw [List.getElem?_eq_none (by omega)]
theorem Po.trunc {r : R D} {Q : VK} (hr : Rh K G ρ H h) (p : Po K G (relV K) W ρ H σ (trR h r) Q) : Po K G (relV K) W ρ H σ r Q := by
  cases r with
  | bad => exact p
  | ok d h1 =>
    unfold trR at p
    dsimp only at p
    split at p
    · rename_i hl
      intro ρ' H' v e rh rv
      have et := e.isTake
      rw [hr.len] at et
      have hp : ∀ (m : Nat) (b : Addr), m < h.length → ρ'[m]? = some b → ρ[m]? = some b := fun m b hm z => by rw [← et, List.getElem?_take, if_pos hm]; exact z
      have r2 := rh.take (n := h.length) (hr.kq (Nat.le_refl _) hl.2)
      rw [et] at r2
      exact p ρ H' v e.back r2 (rv.cutR hp hl.1)
    · exact p
  | exc c fs h1 =>
    unfold trR at p
    dsimp only at p
    split at p
    · rename_i hl
      intro ρ' H' v e rh rv
      have et := e.isTake
      rw [hr.len] at et
      have hp : ∀ (m : Nat) (b : Addr), m < h.length → ρ'[m]? = some b → ρ[m]? = some b := fun m b hm z => by rw [← et, List.getElem?_take, if_pos hm]; exact z
      have r2 := rh.take (n := h.length) (hr.kq (Nat.le_refl _) hl.2)
      rw [et] at r2
      refine p ρ H' v e.back r2 ?_
      obtain ⟨x, vfs, h1, h2, h3, h4⟩ := rv
      refine ⟨x, vfs, h1, h2, h3, fun i f hf => ?_⟩
      obtain ⟨v, y, k1, k2, k3⟩ := h4 i f hf
      refine ⟨v, y, k1, k2, k3.cutR hp ?_⟩
      have : ∀ {fs : List D} {i : Nat} {y : D}, los h.length fs = true → fs[i]? = some y → lo h.length y = true := by
        intro fs
        induction fs with
        | nil => intro i y _ z; simp at z
        | cons d ds ih =>
          intro i y l z
          simp only [los, Bool.and_eq_true] at l
          cases i with
          | zero => simp at z; subst z; exact l.1
          | succ i => exact ih l.2 (by simpa using z)
      exact this hl.1 k2
    · exact p
noncomputable def fnT (n : Nat) (body : S) : Fm := fun ds h => trR h (fnM n body ds h)
end
section
variable {P : Program} {w : World} {K : PySem.W.Frag} {mg : Str → Option Value} {base : Heap} {G : Cl}
theorem spT_imp {np n : Nat} {body : S} {vs : List V} {H : Hp} {Q : VK} {E : XK} (t : spM K G np (fnT n body) vs H Q E) : spM K G np (fnM n body) vs H Q E := by
  obtain ⟨ρ, h, ds, rh, rs, l, p⟩ := t
  exact ⟨ρ, h, ds, rh, rs, l, Po.trunc rh p⟩
theorem fn_okT {x qual : Str} {st : Stmt} {f : Addr} {fd : FuncData} {N ps : List Str} {k n np : Nat} {body : S} (hn : N.length = n) (hp : ps.length = np) (F : Fun K x qual st f fd) (S : FnScope N ps (defScope st))
    (hb : ∀ (cdv : Value) (A : Around) (outer : List Env) (s : Shared) (H : Hp) (E : XK), Ct (cxOf (L2N.CX P w) P w K mg base N qual (defScope st) f cdv A outer s H E) (fun c d _ H => E c d H) k →
      PSs (cxOf (L2N.CX P w) P w K mg base N qual (defScope st) f cdv A outer s H E) (defBody st) (tS K G (fun c d _ H => E c d H) body)) : FnOk P w K mg base (L2N.CX P w) (k + 1) f fd ps (spM K G np (fnT n body)) := by
  have q := fn_ok hn hp F S hb
  exact ⟨fun vs H Q E t => q.len vs H Q E (spT_imp t), fun A outer s H args us vs Q E h1 h2 h3 h4 h5 => q.run A outer s H args us vs Q E h1 h2 h3 h4 (spT_imp h5)⟩
end
end Sm
/-! SmR: running the mirrors of SmFz; texts as lists of numbers; loops that look for something. -/
namespace Sm
open PySem L2 PyProof.Rows
section
variable (env : Ev) (h g : Hh) (f : D → D → Hh → Option (D × Hh)) (m mo me a b : M) (d e : D) (ds xs ys : List D) (ms : List M) (mx : List (List D → M)) (i j k n : Nat) (s1 : S) (o o1 o2 : O) (p q : Int) (x y : Str) (l u : Option Int) (lm um : Option M)
-- a call
@[simp] theorem fnT_eq : fnT n s1 ds h = trR h (fnEnd (s1 (ds.map some ++ List.replicate (n - ds.length) none) h)) := by
  unfold fnT
  rw [fnM_eq]
@[simp] theorem Kq_self : Kq n h h := fun i o e => .inl e
@[simp] theorem trR_bad : trR h .bad = .bad := rfl
theorem trR_ok0 : trR h (.ok d h) = .ok d h := by
  unfold trR
  simp
theorem trR_app : trR h (.ok d (h ++ g)) = if lo h.length d = true then .ok d h else .ok d (h ++ g) := by
  unfold trR
  simp
theorem trR_exc0 : trR h (.exc k ds h) = .exc k ds h := by
  unfold trR
  simp
theorem trR_excA : trR h (.exc k ds (h ++ g)) = if los h.length ds = true then .exc k ds h else .exc k ds (h ++ g) := by
  unfold trR
  simp
@[simp] theorem lo_non : lo n .non = true := rfl
@[simp] theorem lo_bl (c : Bool) : lo n (.bl c) = true := rfl
@[simp] theorem lo_int : lo n (.int p) = true := rfl
@[simp] theorem lo_str : lo n (.str x) = true := rfl
@[simp] theorem lo_tup : lo n (.tup ds) = los n ds := by simp [lo]
@[simp] theorem lo_fls : lo n (.fls ds) = los n ds := by simp [lo]
@[simp] theorem lo_ref : lo n (.ref k) = decide (k < n) := by simp [lo]
@[simp] theorem los_nil : los n [] = true := rfl
@[simp] theorem los_cons : los n (d :: ds) = (lo n d && los n ds) := by simp [los]
theorem los_all : los n ds = ds.all (lo n) := by induction ds with
  | nil => rfl
  | cons d ds ih => simp [ih]
@[simp] theorem los_app : los n (xs ++ ys) = (los n xs && los n ys) := by simp [los_all]
@[simp] theorem los_ints (ns : List Int) : los n (ns.map D.int) = true := by simp [los_all]
@[simp] theorem los_strs (ns : List Str) : los n (ns.map D.str) = true := by simp [los_all]
theorem lo_flat {d : D} (hd : lo 0 d = true) : lo n d = true := lo_mono (Nat.zero_le _) hd
theorem los_flat {ds : List D} (hd : los 0 ds = true) : los n ds = true := los_mono (Nat.zero_le _) hd
-- a list frozen
@[simp] theorem eFz_eq : eFz m env h = fz1 h (m env h) := rfl
@[simp] theorem fz1_bad : fz1 h .bad = .bad := rfl
@[simp] theorem fz1_exc : fz1 h (.exc k ds g) = .exc k ds g := rfl
@[simp] theorem fz1_int : fz1 h (.ok (.int p) g) = .ok (.int p) g := rfl
@[simp] theorem fz1_str : fz1 h (.ok (.str x) g) = .ok (.str x) g := rfl
@[simp] theorem fz1_tup : fz1 h (.ok (.tup ds) g) = .ok (.tup ds) g := rfl
@[simp] theorem fz1_fls : fz1 h (.ok (.fls ds) g) = .ok (.fls ds) g := rfl
@[simp] theorem fz1_non : fz1 h (.ok .non g) = .ok .non g := rfl
@[simp] theorem fz1_bl (c : Bool) : fz1 h (.ok (.bl c) g) = .ok (.bl c) g := rfl
@[simp] theorem fz1_new : fz1 h (.ok (.ref h.length) (h ++ [.lst ds])) = if los h.length ds = true then .ok (.fls ds) h else .ok (.fls ds) (h ++ [.dead]) := by
  unfold fz1
  simp
@[simp] theorem fz1_new1 : fz1 (h ++ [o]) (.ok (.ref (h.length + 1)) (h ++ [o, .lst ds])) = if los (h.length + 1) ds = true then .ok (.fls ds) (h ++ [o]) else .ok (.fls ds) (h ++ [o, .dead]) := by
  have e1 : (h ++ [o, .lst ds])[h.length + 1]? = some (.lst ds) := by simp
  have e2 : (h ++ [o, .lst ds]).take (h.length + 1) = h ++ [o] := by
    rw [List.take_append, List.take_of_length_le (by omega)]
    simp
  have e3 : (h ++ [o, .lst ds]).set (h.length + 1) .dead = h ++ [o, .dead] := by
    rw [List.set_append_right _ _ (by omega)]
    simp
  unfold fz1
  simp [e1, e2, e3]
theorem fz1_old {n : Nat} (e : h[n]? = some (.lst ds)) : fz1 h (.ok (.ref n) h) = .ok (.fls ds) (h.set n .dead) := by
  have hn := (List.getElem?_eq_some_iff.mp e).1
  unfold fz1
  dsimp only
  rw [e]
  dsimp only
  rw [if_neg (by omega)]
theorem fz1_oldA (k : Hh) {n : Nat} (e : (h ++ g)[n]? = some (.lst ds)) : fz1 (h ++ g) (.ok (.ref n) (h ++ g)) = .ok (.fls ds) ((h ++ g).set n .dead) := fz1_old _ _ e
def eLstF1 (r : R (List D)) : R D := r.bind fun ds h1 => .ok (.fls ds) h1
@[simp] theorem eLstF_eq : eLstF ms env h = eLstF1 (evs ms env h) := rfl
@[simp] theorem eLstF1_ok : eLstF1 (.ok ds h) = .ok (.fls ds) h := rfl
@[simp] theorem rexc_eLstF1 : eLstF1 (.exc k ds h) = .exc k ds h := rfl
@[simp] theorem eLstXF_eq (fs : List D) : eLstXF mx fs = eLstF (mx.map fun m => m fs) := rfl
@[simp] theorem eFd_eq (fs : List D) : eFd k fs env h = match fs[k]? with
  | some d => .ok d h
  | none => .bad := rfl
def eSlF1 (lo hi : Option M) (env : Ev) (r : R D) : R D := r.bind fun d h1 => (evO lo env h1).bind fun l h2 => (evO hi env h2).bind fun u h3 => R.opt (opSlF d l u h3)
def eSlF2 (hi : Option M) (env : Ev) (d : D) (r : R (Option Int)) : R D := r.bind fun l h2 => (evO hi env h2).bind fun u h3 => R.opt (opSlF d l u h3)
def eSlF3 (d : D) (l : Option Int) (r : R (Option Int)) : R D := r.bind fun u h3 => R.opt (opSlF d l u h3)
@[simp] theorem eSlF_eq : eSlF m lm um env h = eSlF1 lm um env (m env h) := rfl
@[simp] theorem eSlF1_ok : eSlF1 lm um env (.ok d h) = eSlF2 um env d (evO lm env h) := rfl
@[simp] theorem eSlF2_ok : eSlF2 um env d (.ok l h) = eSlF3 d l (evO um env h) := rfl
@[simp] theorem eSlF3_ok : eSlF3 d l (.ok u h) = R.opt (opSlF d l u h) := rfl
@[simp] theorem opSlF_t : opSlF (.tup xs) l u h = some (.tup (cutD xs l u), h) := rfl
@[simp] theorem opSlF_f : opSlF (.fls xs) l u h = some (.fls (cutD xs l u), h) := rfl
@[simp] theorem opSlF_s : opSlF (.str x) l u h = if x.length ≤ sizeLine then some (.str (cutS x l u), h) else none := rfl
@[simp] theorem opSlF_r : opSlF (.ref n) l u h = match h[n]? with
    | some (.lst ds) => some (.fls (cutD ds l u), h)
    | _ => none := rfl
@[simp] theorem opAddF_ff : opAddF (.fls xs) (.fls ys) h = if xs.length + ys.length ≤ sizeLine then some (.fls (xs ++ ys), h) else none := rfl
@[simp] theorem opAddF_fr : opAddF (.fls xs) (.ref n) h = match h[n]? with
    | some (.lst ys) => if xs.length + ys.length ≤ sizeLine then some (.fls (xs ++ ys), h) else none
    | _ => none := rfl
@[simp] theorem opAddF_rf : opAddF (.ref n) (.fls ys) h = match h[n]? with
    | some (.lst xs) => if xs.length + ys.length ≤ sizeLine then some (.fls (xs ++ ys), h) else none
    | _ => none := rfl
@[simp] theorem opAddF_rr : opAddF (.ref n) (.ref k) h = match h[n]?, h[k]? with
    | some (.lst xs), some (.lst ys) => if xs.length + ys.length ≤ sizeLine then some (.fls (xs ++ ys), h) else none
    | _, _ => none := rfl
@[simp] theorem opAddF_ii : opAddF (.int p) (.int q) h = some (.int (p + q), h) := rfl
@[simp] theorem opAddF_ib (c : Bool) : opAddF (.int p) (.bl c) h = some (.int (p + b2i c), h) := rfl
@[simp] theorem opAddF_ss : opAddF (.str x) (.str y) h = if x.length + y.length ≤ sizeLine then some (.str (x ++ y), h) else none := rfl
@[simp] theorem opAddF_tt : opAddF (.tup xs) (.tup ys) h = if xs.length + ys.length ≤ sizeLine then some (.tup (xs ++ ys), h) else none := rfl
@[simp] theorem opRevF_f : opRevF (.fls xs) h = some (.fls xs.reverse, h) := rfl
@[simp] theorem opRevF_r : opRevF (.ref n) h = match h[n]? with
    | some (.lst ds) => some (.fls ds.reverse, h)
    | _ => none := rfl
@[simp] theorem opListF_t : opListF [.tup xs] h = some (.fls xs, h) := rfl
@[simp] theorem opListF_f : opListF [.fls xs] h = some (.fls xs, h) := rfl
@[simp] theorem opListF_r : opListF [.ref n] h = match h[n]? with
    | some (.lst ds) => some (.fls ds, h)
    | some (.dK kvs) => some (.fls (kvs.map fun kv => kD kv.1), h)
    | some (.dT kvs) => some (.fls (kvs.map fun kv => .tup (kv.1.map kD)), h)
    | _ => none := rfl
@[simp] theorem opSplitF_ss : opSplitF (.str x) (.str y) h = if (y.length == 0) = false ∧ x.length + 2 ≤ sizeLine then some (.fls ((Txt.split x y).map D.str), h) else none := rfl
@[simp] theorem opAll_f : opAll [.fls xs] h = (bools xs).map fun bs => (.bl (bs.all id), h) := rfl
@[simp] theorem opAny_f : opAny [.fls xs] h = (bools xs).map fun bs => (.bl (bs.any id), h) := rfl
@[simp] theorem opSum_f : opSum [.fls xs] h = (intsOf xs).map fun ns => (.int ns.sum, h) := rfl
end
@[simp] theorem isT_eq (u t : Ty) : isT u t = (decide (u = t) || (decide (u = .bool) && decide (t = .int))) := by cases u <;> cases t <;> rfl
/-! ### texts -/
def tx (l : List Nat) : Str := ⟨l.toArray⟩
section
variable (l l' : List Nat) (c : Nat) (h : Hh) (z : Str)
@[simp] theorem tx_list : (tx l).cps.toList = l := by simp [tx]
@[simp] theorem tx_len : (tx l).length = l.length := by simp [tx, Str.length]
@[simp] theorem tx_app : tx l ++ tx l' = tx (l ++ l') := by
  show Str.append _ _ = _
  simp [Str.append, tx]
@[simp] theorem tx_inj : (tx l = tx l') ↔ l = l' := ⟨fun e => by simpa using congrArg (fun z : Str => z.cps.toList) e, fun e => by rw [e]⟩
theorem tx_of : z = tx z.cps.toList := by
  cases z with
  | mk cps => simp [tx]
@[simp] theorem one_tx : (⟨#[c]⟩ : Str) = tx [c] := rfl
@[simp] theorem signs_tx : signs (tx l) = l.map fun c => D.str (tx [c]) := by
  unfold signs
  rw [tx_list]
  rfl
/-- the sign is in the text -/
def inS (c : Nat) (z : Str) : Bool := decide (c ∈ z.cps.toList)
@[simp] theorem opIn_tx : opIn (.str (tx [c])) (.str z) h = some (.bl (inS c z), h) := by simp [opIn, opInB, inS]
@[simp] theorem opNin_tx : opNin (.str (tx [c])) (.str z) h = some (.bl (!inS c z), h) := by simp [opNin, opInB, inS]
theorem join_flat : ∀ ls : List (List Nat), Txt.join (tx []) (ls.map tx) = tx ls.flatten := fun ls => by
  show Builtin.Str.glued _ _ = _
  rw [StrLaws.glued_eq_join]
  induction ls with
  | nil => rfl
  | cons l ls ih =>
    cases ls with
    | nil => simp [Str.join]
    | cons l2 ls =>
      rw [List.map_cons, List.map_cons, Str.join, ← List.map_cons, ih]
      · simp
      · simp
/-- cut at a sign -/
def spl (c : Nat) : List Nat → List (List Nat)
  | [] => [[]]
  | x :: t => if x = c then [] :: spl c t else match spl c t with
    | [] => [[x]]
    | p :: ps => (x :: p) :: ps
theorem spl_ne : ∀ t, spl c t ≠ []
  | [] => by simp [spl]
  | x :: t => by
    unfold spl
    split
    · simp
    · split <;> simp
theorem spl_free {p : List Nat} (hp : c ∉ p) : ∀ t, spl c (p ++ t) = match spl c t with
    | [] => [p]
    | q :: qs => (p ++ q) :: qs := by
  induction p with
  | nil =>
    intro t
    cases e : spl c t with
    | nil => exact absurd e (spl_ne c t)
    | cons q qs => simp [e]
  | cons x p ih =>
    intro t
    have h1 : x ≠ c := fun e => hp (by simp [e])
    have h2 : c ∉ p := fun e => hp (by simp [e])
    rw [List.cons_append]
    simp only [spl, if_neg h1, ih h2 t]
    cases e : spl c t with
    | nil => exact absurd e (spl_ne c t)
    | cons q qs => simp
/-- parts put together again -/
def cat (c : Nat) : List (List Nat) → List Nat
  | [] => []
  | [p] => p
  | p :: ps => p ++ c :: cat c ps
theorem spl_cat : ∀ ps : List (List Nat), ps ≠ [] → (∀ p ∈ ps, c ∉ p) → spl c (cat c ps) = ps
  | [], h, _ => absurd rfl h
  | [p], _, h => by
    have := spl_free c (h p (by simp)) []
    simpa [cat, spl] using this
  | p :: q :: ps, _, h => by
    have h1 := spl_free c (h p (by simp)) (c :: cat c (q :: ps))
    have h2 := spl_cat (q :: ps) (by simp) (fun x hx => h x (by simp [hx]))
    rw [cat, h1, spl, if_pos rfl, h2]
    · simp
    · simp
theorem cat_spl : ∀ t, cat c (spl c t) = t
  | [] => rfl
  | x :: t => by
    have ih := cat_spl t
    unfold spl
    split
    · rename_i e
      cases q : spl c t with
      | nil => exact absurd q (spl_ne c t)
      | cons p ps =>
        rw [q] at ih
        rw [cat, ih, e]
        · simp
        · simp
    · cases q : spl c t with
      | nil => exact absurd q (spl_ne c t)
      | cons p ps =>
        rw [q] at ih
        cases ps with
        | nil =>
          simp only [cat] at ih ⊢
          rw [ih]
        | cons p2 ps =>
          simp only [cat] at ih ⊢
          rw [List.cons_append, ih]
theorem spl_mem : ∀ t p, p ∈ spl c t → c ∉ p
  | [], p, h => by simp [spl] at h; simp [h]
  | x :: t, p, h => by
    have ih := spl_mem t
    unfold spl at h
    split at h
    · rcases List.mem_cons.mp h with rfl | h
      · simp
      · exact ih p h
    · rename_i ne
      cases q : spl c t with
      | nil => exact absurd q (spl_ne c t)
      | cons p0 ps =>
        rw [q] at h ih
        rcases List.mem_cons.mp h with rfl | h
        · have := ih p0 (by simp)
          simp only [List.mem_cons, not_or]
          exact ⟨fun e => ne e.symm, this⟩
        · exact ih p (by simp [h])
theorem join_cat : ∀ ps : List (List Nat), (Str.join (tx [c]) (ps.map tx)).cps.toList = cat c ps
  | [] => rfl
  | [p] => by simp [Str.join, cat]
  | p :: q :: ps => by
    have ih := join_cat (q :: ps)
    rw [List.map_cons] at ih
    rw [List.map_cons, List.map_cons, Str.join, cat, ← ih]
    · have e : ∀ a b : Str, (a ++ b).cps.toList = a.cps.toList ++ b.cps.toList := fun a b => by
        rw [tx_of a, tx_of b, tx_app, tx_list, tx_list, tx_list]
      rw [e, e]
      simp
    · simp
    · simp
theorem split_tx : Txt.split (tx l) (tx [c]) = (spl c l).map tx := by
  have h1 := StrLaws.join_split (tx l) (tx [c])
  have h2 : ∀ p ∈ Txt.split (tx l) (tx [c]), c ∉ p.cps.toList := StrLaws.split_free (tx l) c
  have hne : Txt.split (tx l) (tx [c]) ≠ [] := by
    unfold Txt.split
    split
    · simp
    · split
      · simp
      · rw [StrLaws.partsBetween_eq]
        obtain ⟨p, r, e⟩ := StrLaws.partsFrom_ne (tx l) (tx [c]).length 0 (Builtin.Str.occurrences (tx l) (tx [c]) 0 (tx l).length ((tx l).length + 1))
        rw [e]
        simp
  generalize Txt.split (tx l) (tx [c]) = ps at h1 h2 hne
  have h3 : ps = (ps.map fun p => p.cps.toList).map tx := by
    rw [List.map_map]
    conv => lhs; rw [← List.map_id ps]
    exact List.map_congr_left fun p _ => tx_of p
  by_cases h0 : ps = []
  · exact absurd h0 hne
  · have h4 := join_cat c (ps.map fun p => p.cps.toList)
    rw [← h3, h1, tx_list] at h4
    rw [h3, h4, spl_cat]
    · simpa using h0
    · intro p hp
      rw [List.mem_map] at hp
      obtain ⟨q, hq, rfl⟩ := hp
      exact h2 q hq
end
end Sm
/-! SmDraw: _law_draw, that many laws share -/
namespace SmDraw
open PySem L2 PyProof.Rows Sm SmPool
noncomputable def b__law_draw : S := (sSeq (sIf (tAndM (tBl (eB opEq (eB opIx (eV 0) (eC (.int 2))) (eC (.int 0)))) (tBl (eB opLt (eB opIx (eV 0) (eC (.int 1))) (eN opLen [(eB opIx (eV 0) (eC (.int 0)))])))) (sSeq (sSet 2 (eN opAbs [(eB opIx (eB opIx (eV 0) (eC (.int 0))) (eB opIx (eV 0) (eC (.int 1))))]))
    (sSeq (sSetIx (eV 0) (eC (.int 1)) (eB opAdd (eB opIx (eV 0) (eC (.int 1))) (eC (.int 1))))
    (sIf (tBl (eB opGe (eV 2) (eB opPow (eC (.int 10)) (eC (.int 18))))) (sSetIx (eV 0) (eC (.int 2)) (eV 2)) (sSetIx (eV 0) (eC (.int 3)) (eB opMod (eN opInt [(eB opAdd (eB opAdd (eB opMulA (eB opIx (eV 0) (eC (.int 3))) (eC (.int 48271))) (eB opMulA (eV 2) (eC (.int 69621)))) (eC (.int 12345)))]) (eC (.int 2147483647))))))) sSkip)
    (sSeq (sIf (tBl (eB opGt (eB opIx (eV 0) (eC (.int 2))) (eC (.int 0)))) (sSeq (sSet 3 (eB opMod (eN opInt [(eB opIx (eV 0) (eC (.int 2)))]) (eV 1)))
    (sSeq (sSetIx (eV 0) (eC (.int 2)) (eB opFdiv (eB opIx (eV 0) (eC (.int 2))) (eV 1)))
    (sRet (eV 3)))) sSkip)
    (sSeq (sSetIx (eV 0) (eC (.int 3)) (eB opMod (eN opInt [(eB opAdd (eB opMulA (eB opIx (eV 0) (eC (.int 3))) (eC (.int 48271))) (eC (.int 11)))]) (eC (.int 2147483647))))
    (sRet (eB opMod (eB opMod (eN opInt [(eB opAdd (eB opFdiv (eB opMulA (eB opIx (eV 0) (eC (.int 3))) (eB opIx (eV 0) (eC (.int 3)))) (eC (.int 65536))) (eB opIx (eV 0) (eC (.int 3))))]) (eC (.int 2147483629))) (eV 1))))))
noncomputable def m__law_draw : Fm := fnM 4 b__law_draw

/-- a source stands at p -/
def Sr (h : Hh) (p : Nat) : Prop := ∃ (ns : List Int) (i : Nat) (w s : Int), ns.length ≤ 63 ∧ i ≤ ns.length ∧ 0 ≤ w ∧ 0 ≤ s ∧ s < 2147483647 ∧ h[p]? = some (.lst [.fls (ns.map D.int), .int i, .int w, .int s])
theorem draw_x {h : Hh} {p : Nat} {m : Int} (a : Sr h p) (hm : 0 < m) (hm2 : m < 1073741824) : ∃ r h', 0 ≤ r ∧ r < m ∧ Sr h' p ∧ Xt p h h' ∧ h'.length = h.length ∧ m__law_draw [.ref p, .int m] h = .ok (.int r) h' := by
  obtain ⟨ns, i, w, sd, hl, hi, hw, hs0, hs1, e⟩ := a
  have h18 : (10 : Int) ^ 18 = 1000000000000000000 := by decide
  have hp : p < h.length := (List.getElem?_eq_some_iff.mp e).1
  have fs : ∀ o : O, (h.set p o)[p]? = some o := fun o => List.getElem?_set_self hp
  have t0 : ∀ a b c d : D, atI [a, b, c, d] 0 = some a := fun _ _ _ _ => rfl
  have t1 : ∀ a b c d : D, atI [a, b, c, d] 1 = some b := fun _ _ _ _ => rfl
  have t2 : ∀ a b c d : D, atI [a, b, c, d] 2 = some c := fun _ _ _ _ => rfl
  have t3 : ∀ a b c d : D, atI [a, b, c, d] 3 = some d := fun _ _ _ _ => rfl
  have n1 : ixN 4 1 = some 1 := rfl
  have n2 : ixN 4 2 = some 2 := rfl
  have n3 : ixN 4 3 = some 3 := rfl
  have m1 : mulOk sd 48271 = true := mulOk_r (by decide) (by decide)
  by_cases c1 : w = 0 ∧ i < ns.length
  · obtain ⟨rfl, c2⟩ := c1
    obtain ⟨x, hx⟩ : ∃ x, atI (ns.map D.int) (i : Int) = some (.int x) := ⟨ns[i], atI_nat (by simp [c2])⟩
    have c2' : (i : Int) < (ns.length : Int) := by omega
    generalize hX : (if x < 0 then -x else x) = X
    have hX0 : 0 ≤ X := by rw [← hX]; split <;> omega
    by_cases c3 : X ≥ 1000000000000000000
    · refine ⟨X % m, h.set p (.lst [.fls (ns.map D.int), .int ((i + 1 : Nat) : Int), .int (X / m), .int sd]), Int.emod_nonneg _ (by omega), Int.emod_lt_of_pos _ hm, ⟨ns, i + 1, X / m, sd, hl, by omega, Int.ediv_nonneg hX0 (by omega), hs0, hs1, fs _⟩, Xt.set, by simp, ?_⟩
      have c4 : 0 < X := by omega
      have c3' : (1000000000000000000 : Int) ≤ X := c3
      simp [m__law_draw, b__law_draw, e, t0, t1, t2, t3, n1, n2, n3, hx, c2, hX, h18, c3', c4, hm, hm2, fs]
    · have c3' : ¬ (1000000000000000000 : Int) ≤ X := c3
      have mx : mulOk X 69621 = true := mulOk_r (by decide) (by decide)
      generalize hS : (sd * 48271 + X * 69621 + 12345) % 2147483647 = S
      have mS : mulOk S 48271 = true := mulOk_r (by decide) (by decide)
      generalize hR : (S * 48271 + 11) % 2147483647 = R
      have hR0 : 0 ≤ R := by rw [← hR]; exact Int.emod_nonneg _ (by decide)
      have hR1 : R < 2147483647 := by rw [← hR]; exact Int.emod_lt_of_pos _ (by decide)
      have mR : mulOk R R = true := mulOk_r (by omega) (by omega)
      refine ⟨(R * R / 65536 + R) % 2147483629 % m, h.set p (.lst [.fls (ns.map D.int), .int ((i + 1 : Nat) : Int), .int 0, .int R]), Int.emod_nonneg _ (by omega), Int.emod_lt_of_pos _ hm, ⟨ns, i + 1, 0, R, hl, by omega, Int.le_refl _, hR0, hR1, fs _⟩, Xt.set, by simp, ?_⟩
      simp [m__law_draw, b__law_draw, e, t0, t1, t2, t3, n1, n2, n3, hx, c2, hX, h18, c3', hm, hm2, fs, m1, mx, hS, mS, hR, mR]
  · by_cases c5 : 0 < w
    · have c5' : ¬ w = 0 := by omega
      refine ⟨w % m, h.set p (.lst [.fls (ns.map D.int), .int (i : Int), .int (w / m), .int sd]), Int.emod_nonneg _ (by omega), Int.emod_lt_of_pos _ hm, ⟨ns, i, w / m, sd, hl, hi, Int.ediv_nonneg hw (by omega), hs0, hs1, fs _⟩, Xt.set, by simp, ?_⟩
      simp [m__law_draw, b__law_draw, e, t0, t1, t2, t3, n1, n2, n3, c5, c5', hm, hm2, fs]
    · have hw0 : w = 0 := by omega
      subst hw0
      have c6 : ¬ i < ns.length := fun z => c1 ⟨rfl, z⟩
      generalize hR : (sd * 48271 + 11) % 2147483647 = R
      have hR0 : 0 ≤ R := by rw [← hR]; exact Int.emod_nonneg _ (by decide)
      have hR1 : R < 2147483647 := by rw [← hR]; exact Int.emod_lt_of_pos _ (by decide)
      have mR : mulOk R R = true := mulOk_r (by omega) (by omega)
      refine ⟨(R * R / 65536 + R) % 2147483629 % m, h.set p (.lst [.fls (ns.map D.int), .int (i : Int), .int 0, .int R]), Int.emod_nonneg _ (by omega), Int.emod_lt_of_pos _ hm, ⟨ns, i, 0, R, hl, hi, Int.le_refl _, hR0, hR1, fs _⟩, Xt.set, by simp, ?_⟩
      simp [m__law_draw, b__law_draw, e, t0, t1, t2, t3, n1, n2, n3, c6, hm, hm2, fs, m1, hR, mR]
end SmDraw
/-! SmR2: loops that look for something, comprehensions, places, slices, equality, the drawing function at the heap's head. -/
namespace Sm
open PySem L2 PyProof.Rows
/-! ### loops -/
def isStop : SR → Bool
  | .rt _ _ => true
  | .exc _ _ _ _ => true
  | _ => false
section
variable {i : Nat} {body : S} {env : Ev} {h : Hh}
theorem forL_find (p : D → Bool) (r : D → SR) : ∀ (xs : List D) (env : Ev), (∀ x ∈ xs, body (env.set i (some x)) h = if p x = true then .nx (env.set i (some x)) h else r x) → (∀ x ∈ xs, p x = false → isStop (r x) = true) →
    (∀ x, xs.find? (fun x => !p x) = some x → forL (gtName i) body none xs env h = r x) ∧ (xs.find? (fun x => !p x) = none → ∃ e, forL (gtName i) body none xs env h = .nx (env.set i e) h)
  | [], env, _, _ => by
    refine ⟨fun x e => by simp at e, fun _ => ?_⟩
    rw [forL_nil (gd := none) trivial]
    by_cases hl : i < env.length
    · exact ⟨env[i], by rw [List.set_getElem_self]⟩
    · exact ⟨none, by rw [List.set_eq_of_length_le (by omega)]⟩
  | x :: xs, env, hb, hs => by
    have h1 := hb x (by simp)
    by_cases hp : p x = true
    · rw [if_pos hp] at h1
      have ih := forL_find p r xs (env.set i (some x)) (fun y hy => by rw [List.set_set]; exact hb y (by simp [hy])) (fun y hy => hs y (by simp [hy]))
      have e : forL (gtName i) body none (x :: xs) env h = forL (gtName i) body none xs (env.set i (some x)) h := forL_nx (gd := none) trivial rfl h1
      rw [e]
      simp only [List.find?_cons, hp, Bool.not_true]
      refine ⟨ih.1, fun z => ?_⟩
      obtain ⟨e, q⟩ := ih.2 z
      exact ⟨e, by rw [q, List.set_set]⟩
    · have hp' : p x = false := by simpa using hp
      rw [if_neg hp] at h1
      have e : forL (gtName i) body none (x :: xs) env h = r x := by
        have hstop := hs x (by simp) hp'
        unfold forL
        rw [if_pos (show gdOk none h from trivial)]
        show (match body (env.set i (some x)) h with
          | .nx e' h' => forL (gtName i) body none xs e' h'
          | .ct e' h' => forL (gtName i) body none xs e' h'
          | .bk e' h' => .nx e' h'
          | r => r) = r x
        rw [h1]
        cases q : r x with
        | rt d h' => rfl
        | exc c fs e' h' => rfl
        | nx e' h' => rw [q] at hstop; cases hstop
        | bk e' h' => rw [q] at hstop; cases hstop
        | ct e' h' => rw [q] at hstop; cases hstop
        | bad => rfl
      simp only [List.find?_cons, hp', Bool.not_false]
      exact ⟨fun y z => by cases z; exact e, fun z => by cases z⟩
theorem forL_all (p : D → Bool) (r : D) (xs : List D) (hb : ∀ x ∈ xs, body (env.set i (some x)) h = if p x = true then .nx (env.set i (some x)) h else .rt r h) :
    (xs.all p = true → ∃ e, forL (gtName i) body none xs env h = .nx (env.set i e) h) ∧ (xs.all p = false → forL (gtName i) body none xs env h = .rt r h) := by
  have q := forL_find (i := i) (body := body) (h := h) p (fun _ => .rt r h) xs env hb (fun _ _ _ => rfl)
  refine ⟨fun z => q.2 ?_, fun z => ?_⟩
  · rw [List.find?_eq_none]
    intro x hx
    have := List.all_eq_true.mp z x hx
    simp [this]
  · cases e : xs.find? (fun x => !p x) with
    | none =>
      rw [List.find?_eq_none] at e
      have : xs.all p = true := List.all_eq_true.mpr fun x hx => by simpa using e x hx
      rw [this] at z
      cases z
    | some x => exact q.1 x e
end
/-! ### while -/
section
variable {t : MT} {body : S} {n : Nat} {env e' : Ev} {h h1 h' : Hh} {c : Nat} {fs : List D} {d : D}
theorem whileF_f (h1 : t env h = .ok false h') : whileF t body (n + 1) env h = .nx env h' := by
  unfold whileF
  rw [h1]
  rfl
theorem whileF_t (e1 : t env h = .ok true h1) (e2 : body env h1 = .nx e' h') : whileF t body (n + 1) env h = whileF t body n e' h' := by
  rw [whileF, e1]
  show (match body env h1 with
    | .nx e' h' => whileF t body n e' h'
    | .ct e' h' => whileF t body n e' h'
    | .bk e' h' => .nx e' h'
    | r => r) = _
  rw [e2]
theorem whileF_x (e1 : t env h = .ok true h1) (e2 : body env h1 = .exc c fs e' h') : whileF t body (n + 1) env h = .exc c fs e' h' := by
  rw [whileF, e1]
  show (match body env h1 with
    | .nx e' h' => whileF t body n e' h'
    | .ct e' h' => whileF t body n e' h'
    | .bk e' h' => .nx e' h'
    | r => r) = _
  rw [e2]
theorem whileF_r (e1 : t env h = .ok true h1) (e2 : body env h1 = .rt d h') : whileF t body (n + 1) env h = .rt d h' := by
  rw [whileF, e1]
  show (match body env h1 with
    | .nx e' h' => whileF t body n e' h'
    | .ct e' h' => whileF t body n e' h'
    | .bk e' h' => .nx e' h'
    | r => r) = _
  rw [e2]
@[simp] theorem sWhile_eq (k : Nat) : sWhile k t body env h = whileF t body k env h := rfl
end
/-! ### comprehensions -/
theorem lcL_pf {g : TgM} {t : MT} {m : M} {vs : List Nat} {gd : Option (Nat × O)} {env : Ev} (h : Hh) (p : D → Bool) (f : D → D) (hg : ∀ acc, gdOk gd (h ++ [.lst acc])) : ∀ (xs acc : List D),
    (∀ x ∈ xs, ∀ acc, ∃ env1, g x (h ++ [.lst acc]) (wipeE env vs) = some env1 ∧ t env1 (h ++ [.lst acc]) = .ok (p x) (h ++ [.lst acc]) ∧ (p x = true → m env1 (h ++ [.lst acc]) = .ok (f x) (h ++ [.lst acc]))) →
    acc.length + xs.length ≤ sizeLine → lcL g t m vs h.length gd env xs (h ++ [.lst acc]) = .ok (.ref h.length) (h ++ [.lst (acc ++ (xs.filter p).map f)])
  | [], acc, _, _ => by
    unfold lcL
    rw [if_pos (hg acc)]
    simp
  | x :: xs, acc, hx, hl => by
    obtain ⟨env1, e1, e2, e3⟩ := hx x (by simp) acc
    rw [List.length_cons] at hl
    unfold lcL
    rw [if_pos (hg acc), e1]
    dsimp only
    rw [e2]
    cases hp : p x with
    | true =>
      dsimp only
      rw [e3 hp]
      simp only [hp_at1]
      rw [if_pos (by omega)]
      have := lcL_pf h p f hg xs (acc ++ [f x]) (fun y hy => hx y (by simp [hy])) (by simp; omega)
      simpa [hp] using this
    | false =>
      dsimp only
      have := lcL_pf h p f hg xs acc (fun y hy => hx y (by simp [hy])) (by omega)
      simpa [hp] using this
/-- a frozen comprehension that changes nothing -/
theorem fz_lc {i : Nat} {m : M} {env : Ev} {h : Hh} (f : D → D) (xs : List D) (hm : ∀ x ∈ xs, ∀ acc, m ((env.set i none).set i (some x)) (h ++ [.lst acc]) = .ok (f x) (h ++ [.lst acc])) (hl : xs.length ≤ sizeLine) (hlo : los h.length (xs.map f) = true) :
    fz1 h (lcL (gtName i) tYesM m [i] h.length none env xs (h ++ [.lst []])) = .ok (.fls (xs.map f)) h := by
  have := lcL_pure (g := gtName i) (t := tYesM) (m := m) (vs := [i]) (gd := none) (env := env) h f (fun _ => trivial) xs [] (fun x hx acc => ⟨_, rfl, rfl, by simpa using hm x hx acc⟩) (by simpa using hl)
  rw [this]
  simp [hlo]
theorem fz_lcf {i : Nat} {t : MT} {m : M} {env : Ev} {h : Hh} (p : D → Bool) (f : D → D) (xs : List D) (ht : ∀ x ∈ xs, ∀ acc, t ((env.set i none).set i (some x)) (h ++ [.lst acc]) = .ok (p x) (h ++ [.lst acc])) (hm : ∀ x ∈ xs, p x = true → ∀ acc, m ((env.set i none).set i (some x)) (h ++ [.lst acc]) = .ok (f x) (h ++ [.lst acc])) (hl : xs.length ≤ sizeLine) (hlo : los h.length ((xs.filter p).map f) = true) :
    fz1 h (lcL (gtName i) t m [i] h.length none env xs (h ++ [.lst []])) = .ok (.fls ((xs.filter p).map f)) h := by
  have := lcL_pf (g := gtName i) (t := t) (m := m) (vs := [i]) (gd := none) (env := env) h p f (fun _ => trivial) xs [] (fun x hx acc => ⟨_, rfl, by simpa using ht x hx acc, fun hp => by simpa using hm x hx hp acc⟩) (by simpa using hl)
  rw [this]
  simp [hlo]
/-! .. over things of a kind of its own -/
theorem fz_lcM {α : Type} {i : Nat} {m : M} {env : Ev} {h : Hh} (e f : α → D) (xs : List α) (hm : ∀ x ∈ xs, ∀ acc, m ((env.set i none).set i (some (e x))) (h ++ [.lst acc]) = .ok (f x) (h ++ [.lst acc])) (hl : xs.length ≤ sizeLine) (hlo : los h.length (xs.map f) = true) :
    fz1 h (lcL (gtName i) tYesM m [i] h.length none env (xs.map e) (h ++ [.lst []])) = .ok (.fls (xs.map f)) h := by
  have key : ∀ (xs : List α) (acc : List D), (∀ x ∈ xs, ∀ acc, m ((env.set i none).set i (some (e x))) (h ++ [.lst acc]) = .ok (f x) (h ++ [.lst acc])) → acc.length + xs.length ≤ sizeLine →
      lcL (gtName i) tYesM m [i] h.length none env (xs.map e) (h ++ [.lst acc]) = .ok (.ref h.length) (h ++ [.lst (acc ++ xs.map f)]) := by
    intro xs
    induction xs with
    | nil =>
      intro acc _ _
      unfold lcL
      simp [gdOk]
    | cons x xs ih =>
      intro acc hm hl
      rw [List.length_cons] at hl
      rw [List.map_cons]
      unfold lcL
      rw [if_pos (show gdOk none (h ++ [.lst acc]) from trivial)]
      simp only [gtName_eq, wipeE, tYesM_eq]
      rw [hm x (by simp) acc]
      simp only [hp_at1, hp_set1]
      rw [if_pos (by omega), ih _ (fun y hy => hm y (by simp [hy])) (by simp; omega)]
      simp
  rw [key xs [] hm (by simpa using hl)]
  simp [hlo]
theorem fz_lcfM {α : Type} {i : Nat} {t : MT} {m : M} {env : Ev} {h : Hh} (p : α → Bool) (e f : α → D) (xs : List α) (ht : ∀ x ∈ xs, ∀ acc, t ((env.set i none).set i (some (e x))) (h ++ [.lst acc]) = .ok (p x) (h ++ [.lst acc])) (hm : ∀ x ∈ xs, p x = true → ∀ acc, m ((env.set i none).set i (some (e x))) (h ++ [.lst acc]) = .ok (f x) (h ++ [.lst acc])) (hl : xs.length ≤ sizeLine) (hlo : los h.length ((xs.filter p).map f) = true) :
    fz1 h (lcL (gtName i) t m [i] h.length none env (xs.map e) (h ++ [.lst []])) = .ok (.fls ((xs.filter p).map f)) h := by
  have key : ∀ (xs : List α) (acc : List D), (∀ x ∈ xs, ∀ acc, t ((env.set i none).set i (some (e x))) (h ++ [.lst acc]) = .ok (p x) (h ++ [.lst acc])) → (∀ x ∈ xs, p x = true → ∀ acc, m ((env.set i none).set i (some (e x))) (h ++ [.lst acc]) = .ok (f x) (h ++ [.lst acc])) → acc.length + xs.length ≤ sizeLine →
      lcL (gtName i) t m [i] h.length none env (xs.map e) (h ++ [.lst acc]) = .ok (.ref h.length) (h ++ [.lst (acc ++ (xs.filter p).map f)]) := by
    intro xs
    induction xs with
    | nil =>
      intro acc _ _ _
      unfold lcL
      simp [gdOk]
    | cons x xs ih =>
      intro acc ht hm hl
      rw [List.length_cons] at hl
      rw [List.map_cons]
      unfold lcL
      rw [if_pos (show gdOk none (h ++ [.lst acc]) from trivial)]
      simp only [gtName_eq, wipeE]
      rw [ht x (by simp) acc]
      cases hp : p x with
      | true =>
        dsimp only
        rw [hm x (by simp) hp acc]
        simp only [hp_at1, hp_set1]
        rw [if_pos (by omega), ih _ (fun y hy => ht y (by simp [hy])) (fun y hy => hm y (by simp [hy])) (by simp; omega)]
        simp [hp]
      | false =>
        dsimp only
        rw [ih _ (fun y hy => ht y (by simp [hy])) (fun y hy => hm y (by simp [hy])) (by omega)]
        simp [hp]
  rw [key xs [] ht hm (by simpa using hl)]
  simp [hlo]
theorem bools_map {α : Type} (p : α → Bool) : ∀ l : List α, bools (l.map fun a => D.bl (p a)) = some (l.map p)
  | [] => rfl
  | a :: l => by simp [bools, bools_map p l]
theorem forL_findM {α : Type} {i : Nat} {body : S} {h : Hh} (e : α → D) (p : α → Bool) (r : α → SR) : ∀ (xs : List α) (env : Ev), (∀ x ∈ xs, body (env.set i (some (e x))) h = if p x = true then .nx (env.set i (some (e x))) h else r x) → (∀ x ∈ xs, p x = false → isStop (r x) = true) →
    (∀ x, xs.find? (fun x => !p x) = some x → forL (gtName i) body none (xs.map e) env h = r x) ∧ (xs.find? (fun x => !p x) = none → ∃ e0, forL (gtName i) body none (xs.map e) env h = .nx (env.set i e0) h)
  | [], env, _, _ => by
    refine ⟨fun x e => by simp at e, fun _ => ?_⟩
    rw [List.map_nil, forL_nil (gd := none) trivial]
    by_cases hl : i < env.length
    · exact ⟨env[i], by rw [List.set_getElem_self]⟩
    · exact ⟨none, by rw [List.set_eq_of_length_le (by omega)]⟩
  | x :: xs, env, hb, hs => by
    have h1 := hb x (by simp)
    rw [List.map_cons]
    by_cases hp : p x = true
    · rw [if_pos hp] at h1
      have ih := forL_findM e p r xs (env.set i (some (e x))) (fun y hy => by rw [List.set_set]; exact hb y (by simp [hy])) (fun y hy => hs y (by simp [hy]))
      have e1 : forL (gtName i) body none (e x :: xs.map e) env h = forL (gtName i) body none (xs.map e) (env.set i (some (e x))) h := forL_nx (gd := none) trivial rfl h1
      rw [e1]
      simp only [List.find?_cons, hp, Bool.not_true]
      refine ⟨ih.1, fun z => ?_⟩
      obtain ⟨e0, q⟩ := ih.2 z
      exact ⟨e0, by rw [q, List.set_set]⟩
    · have hp' : p x = false := by simpa using hp
      rw [if_neg hp] at h1
      have e1 : forL (gtName i) body none (e x :: xs.map e) env h = r x := by
        have hstop := hs x (by simp) hp'
        unfold forL
        rw [if_pos (show gdOk none h from trivial)]
        show (match body (env.set i (some (e x))) h with
          | .nx e' h' => forL (gtName i) body none (xs.map e) e' h'
          | .ct e' h' => forL (gtName i) body none (xs.map e) e' h'
          | .bk e' h' => .nx e' h'
          | r => r) = r x
        rw [h1]
        cases q : r x with
        | rt d h' => rfl
        | exc c fs e' h' => rfl
        | nx e' h' => rw [q] at hstop; cases hstop
        | bk e' h' => rw [q] at hstop; cases hstop
        | ct e' h' => rw [q] at hstop; cases hstop
        | bad => rfl
      simp only [List.find?_cons, hp', Bool.not_false]
      exact ⟨fun y z => by cases z; exact e1, fun z => by cases z⟩
theorem forL_allM {α : Type} {i : Nat} {body : S} {env : Ev} {h : Hh} (e : α → D) (p : α → Bool) (r : D) (xs : List α) (hb : ∀ x ∈ xs, body (env.set i (some (e x))) h = if p x = true then .nx (env.set i (some (e x))) h else .rt r h) :
    (xs.all p = true → ∃ e0, forL (gtName i) body none (xs.map e) env h = .nx (env.set i e0) h) ∧ (xs.all p = false → forL (gtName i) body none (xs.map e) env h = .rt r h) := by
  have q := forL_findM (i := i) (body := body) (h := h) e p (fun _ => .rt r h) xs env hb (fun _ _ _ => rfl)
  refine ⟨fun z => q.2 ?_, fun z => ?_⟩
  · rw [List.find?_eq_none]
    intro x hx
    have := List.all_eq_true.mp z x hx
    simp [this]
  · cases e : xs.find? (fun x => !p x) with
    | none =>
      rw [List.find?_eq_none] at e
      have : xs.all p = true := List.all_eq_true.mpr fun x hx => by simpa using e x hx
      rw [this] at z
      cases z
    | some x => exact q.1 x e
/-! ### places, slices -/
theorem atI_pos {α : Type} {xs : List α} {i : Int} (h : 0 ≤ i) : atI xs i = xs[i.toNat]? := by
  unfold atI ixN
  rw [if_pos h]
  by_cases q : i < xs.length
  · rw [if_pos q]; rfl
  · rw [if_neg q, List.getElem?_eq_none (by omega)]; rfl
theorem atI_m1 {α : Type} {xs : List α} : atI xs (-1) = xs.getLast? := by
  unfold atI ixN
  rw [if_neg (by omega)]
  by_cases q : xs = []
  · subst q; rfl
  · have hl : 0 < xs.length := List.length_pos_iff.mpr q
    rw [if_pos (by omega), List.getLast?_eq_getElem?]
    show xs[((-1 : Int) + xs.length).toNat]? = _
    congr 1
    omega
theorem sIx_pos {n d : Nat} {i : Int} (h : 0 ≤ i) : HT.sIx n d (some i) = min i.toNat n := by
  unfold HT.sIx
  simp only
  rw [if_neg (by omega)]
theorem take_min {α : Type} (l : List α) (k : Nat) : l.take (min k l.length) = l.take k := by
  by_cases q : k ≤ l.length
  · rw [Nat.min_eq_left q]
  · rw [Nat.min_eq_right (by omega), List.take_of_length_le (Nat.le_refl _), List.take_of_length_le (by omega)]
theorem drop_min {α : Type} (l : List α) (k : Nat) : l.drop (min k l.length) = l.drop k := by
  by_cases q : k ≤ l.length
  · rw [Nat.min_eq_left q]
  · rw [Nat.min_eq_right (by omega), List.drop_of_length_le (Nat.le_refl _), List.drop_of_length_le (by omega)]
theorem slice_mid {α : Type} (l : List α) (a b : Nat) : (l.drop (min a l.length)).take (min b l.length - min a l.length) = (l.take b).drop a := by
  rw [drop_min, List.drop_take]
  by_cases q : a ≤ l.length
  · rw [Nat.min_eq_left q]
    by_cases r : b ≤ l.length
    · rw [Nat.min_eq_left r]
    · rw [Nat.min_eq_right (by omega), List.take_of_length_le (by simp), List.take_of_length_le (by simp; omega)]
  · rw [List.drop_of_length_le (by omega)]
    simp
section
variable {xs : List D} {l : List Nat} {i j : Int}
theorem cutD_to (h : 0 ≤ i) : cutD xs none (some i) = xs.take i.toNat := by
  unfold cutD
  rw [HT.sIx_none, sIx_pos h]
  simp [take_min]
theorem cutD_from (h : 0 ≤ i) : cutD xs (some i) none = xs.drop i.toNat := by
  unfold cutD
  rw [HT.sIx_none, sIx_pos h, drop_min, List.take_of_length_le]
  rw [List.length_drop]
  omega
theorem cutD_mid (hi : 0 ≤ i) (hj : 0 ≤ j) : cutD xs (some i) (some j) = (xs.take j.toNat).drop i.toNat := by
  unfold cutD
  rw [sIx_pos hi, sIx_pos hj, slice_mid]
theorem cutS_to (h : 0 ≤ i) : cutS (tx l) none (some i) = tx (l.take i.toNat) := by
  unfold cutS
  rw [HT.sIx_none, sIx_pos h, tx_list, tx_len]
  simp only [List.drop_zero, Nat.sub_zero, take_min]
  rfl
theorem cutS_from (h : 0 ≤ i) : cutS (tx l) (some i) none = tx (l.drop i.toNat) := by
  unfold cutS
  rw [HT.sIx_none, sIx_pos h, tx_list, tx_len, drop_min, List.take_of_length_le]
  · rfl
  · rw [List.length_drop]
    omega
theorem cutS_mid (hi : 0 ≤ i) (hj : 0 ≤ j) : cutS (tx l) (some i) (some j) = tx ((l.take j.toNat).drop i.toNat) := by
  unfold cutS
  rw [sIx_pos hi, sIx_pos hj, tx_list, tx_len, slice_mid]
  rfl
theorem cutS_m1 : cutS (tx l) none (some (-1)) = tx l.dropLast := by
  unfold cutS
  rw [HT.sIx_none, tx_list, tx_len]
  show tx _ = _
  congr 1
  unfold HT.sIx
  simp only
  rw [if_pos (by omega), List.drop_zero, List.dropLast_eq_take]
  congr 1
  omega
end
/-! ### equality -/
mutual
def eqd : D → D → Bool
  | .non, .non => true
  | .bl a, .bl b => a == b
  | .bl a, .int j => (if a then 1 else 0) == j
  | .int i, .bl b => i == (if b then 1 else 0)
  | .int i, .int j => i == j
  | .str x, .str y => x == y
  | .fls xs, .fls ys => eqds xs ys
  | .tup xs, .tup ys => eqds xs ys
  | _, _ => false
def eqds : List D → List D → Bool
  | [], [] => true
  | x :: xs, y :: ys => eqd x y && eqds xs ys
  | _, _ => false
end
mutual
/-- no places, no great depth, signs of Unicode -/
def okD : Nat → D → Bool
  | 0, _ => false
  | _ + 1, .str x => x.cps.all (· < 0x110000)
  | k + 1, .tup ds => okDs k ds
  | k + 1, .fls ds => okDs k ds
  | _ + 1, .ref _ => false
  | _ + 1, _ => true
def okDs : Nat → List D → Bool
  | _, [] => true
  | k, d :: ds => okD k d && okDs k ds
end
mutual
def pyd : D → PyData
  | .non => .none
  | .bl b => .bool b
  | .int i => .int i
  | .str x => .str x
  | .tup ds => .tuple (pyds ds)
  | .fls ds => .list (pyds ds)
  | .ref _ => .none
def pyds : List D → List PyData
  | [] => []
  | d :: ds => pyd d :: pyds ds
end
theorem okDs_mem : ∀ {k : Nat} {ds : List D} {d : D}, okDs k ds = true → d ∈ ds → okD k d = true
  | k, d' :: ds, d, h, hm => by
    simp only [okDs, Bool.and_eq_true] at h
    rcases List.mem_cons.mp hm with rfl | hm
    · exact h.1
    · exact okDs_mem h.2 hm
theorem okDs_iff {k : Nat} {ds : List D} : okDs k ds = true ↔ ∀ d ∈ ds, okD k d = true := by
  refine ⟨fun h d hd => okDs_mem h hd, fun h => ?_⟩
  induction ds with
  | nil => rfl
  | cons d ds ih =>
    simp only [okDs, Bool.and_eq_true]
    exact ⟨h d (by simp), ih fun x hx => h x (by simp [hx])⟩
theorem pyds_map : ∀ ds : List D, pyds ds = ds.map pyd
  | [] => rfl
  | d :: ds => by simp [pyds, pyds_map ds]
theorem mapM_some {α β : Type} {f : α → Option β} {g : α → β} : ∀ {xs : List α}, (∀ x ∈ xs, f x = some (g x)) → xs.mapM f = some (xs.map g)
  | [], _ => rfl
  | x :: xs, h => by
    rw [List.mapM_cons, h x (by simp), mapM_some (xs := xs) fun y hy => h y (by simp [hy])]
    rfl
theorem toP_ok (h : Hh) : ∀ (k n : Nat) (d : D), k ≤ n → okD k d = true → toP h n d = some (pyd d)
  | 0, _, _, _, e => by simp [okD] at e
  | k + 1, 0, _, l, _ => by omega
  | k + 1, n + 1, .non, _, _ => rfl
  | k + 1, n + 1, .bl _, _, _ => rfl
  | k + 1, n + 1, .int _, _, _ => rfl
  | k + 1, n + 1, .str _, _, _ => rfl
  | k + 1, n + 1, .tup ds, l, e => by
    simp only [okD] at e
    simp only [toP, pyd, pyds_map]
    rw [mapM_some (g := pyd) fun x hx => toP_ok h k n x (by omega) (okDs_mem e hx)]
    rfl
  | k + 1, n + 1, .fls ds, l, e => by
    simp only [okD] at e
    simp only [toP, pyd, pyds_map]
    rw [mapM_some (g := pyd) fun x hx => toP_ok h k n x (by omega) (okDs_mem e hx)]
    rfl
  | k + 1, n + 1, .ref _, _, e => by simp [okD] at e
theorem depth_ok : ∀ (k : Nat) (d : D), okD k d = true → (pyd d).depth ≤ k ∧ (pyd d).canLay0 = true
  | 0, _, e => by simp [okD] at e
  | k + 1, .non, _ => by simp [pyd, PyData.depth, PyData.canLay0]
  | k + 1, .bl _, _ => by simp [pyd, PyData.depth, PyData.canLay0]
  | k + 1, .int _, _ => by simp [pyd, PyData.depth, PyData.canLay0]
  | k + 1, .str x, e => by
    simp only [okD] at e
    simp [pyd, PyData.depth, PyData.canLay0, PyData.strOk]
    simpa using e
  | k + 1, .tup ds, e => by
    simp only [okD] at e
    have h : ∀ ds : List D, okDs k ds = true → PyData.depthAll (pyds ds) ≤ k ∧ PyData.canLayAll0 (pyds ds) = true := by
      intro ds
      induction ds with
      | nil => intro _; simp [pyds, PyData.depthAll, PyData.canLayAll0]
      | cons d ds ih =>
        intro e
        simp only [okDs, Bool.and_eq_true] at e
        have h1 := depth_ok k d e.1
        have h2 := ih e.2
        simp only [pyds, PyData.depthAll, PyData.canLayAll0, Bool.and_eq_true]
        exact ⟨by omega, h1.2, h2.2⟩
    have := h ds e
    simp only [pyd, PyData.depth, PyData.canLay0]
    exact ⟨by omega, this.2⟩
  | k + 1, .fls ds, e => by
    simp only [okD] at e
    have h : ∀ ds : List D, okDs k ds = true → PyData.depthAll (pyds ds) ≤ k ∧ PyData.canLayAll0 (pyds ds) = true := by
      intro ds
      induction ds with
      | nil => intro _; simp [pyds, PyData.depthAll, PyData.canLayAll0]
      | cons d ds ih =>
        intro e
        simp only [okDs, Bool.and_eq_true] at e
        have h1 := depth_ok k d e.1
        have h2 := ih e.2
        simp only [pyds, PyData.depthAll, PyData.canLayAll0, Bool.and_eq_true]
        exact ⟨by omega, h1.2, h2.2⟩
    have := h ds e
    simp only [pyd, PyData.depth, PyData.canLay0]
    exact ⟨by omega, this.2⟩
  | k + 1, .ref _, e => by simp [okD] at e
mutual
theorem eqd_py : ∀ (k : Nat) (a b : D), okD k a = true → okD k b = true → PyData.eqv (pyd a) (pyd b) = eqd a b
  | 0, _, _, e, _ => by simp [okD] at e
  | k + 1, .tup xs, b, ha, hb => by
    cases b <;> first | (simp [okD] at hb; done) | skip
    all_goals simp only [pyd, PyData.eqv, eqd]
    exact eqds_py k xs _ (by simpa [okD] using ha) (by simpa [okD] using hb)
  | k + 1, .fls xs, b, ha, hb => by
    cases b <;> first | (simp [okD] at hb; done) | skip
    all_goals simp only [pyd, PyData.eqv, eqd]
    exact eqds_py k xs _ (by simpa [okD] using ha) (by simpa [okD] using hb)
  | k + 1, .non, b, ha, hb => by cases b <;> first | (simp [okD] at hb; done) | simp [pyd, PyData.eqv, eqd]
  | k + 1, .bl _, b, ha, hb => by cases b <;> first | (simp [okD] at hb; done) | simp [pyd, PyData.eqv, eqd]
  | k + 1, .int _, b, ha, hb => by cases b <;> first | (simp [okD] at hb; done) | simp [pyd, PyData.eqv, eqd]
  | k + 1, .str _, b, ha, hb => by cases b <;> first | (simp [okD] at hb; done) | simp [pyd, PyData.eqv, eqd]
  | k + 1, .ref _, b, ha, hb => by simp [okD] at ha
theorem eqds_py : ∀ (k : Nat) (a b : List D), okDs k a = true → okDs k b = true → PyData.eqvAll (pyds a) (pyds b) = eqds a b
  | _, [], [], _, _ => by simp [pyds, PyData.eqvAll, eqds]
  | _, [], _ :: _, _, _ => by simp [pyds, PyData.eqvAll, eqds]
  | _, _ :: _, [], _, _ => by simp [pyds, PyData.eqvAll, eqds]
  | k, x :: xs, y :: ys, ha, hb => by
    simp only [okDs, Bool.and_eq_true] at ha hb
    simp only [pyds, PyData.eqvAll, eqds]
    rw [eqd_py k x y ha.1 hb.1, eqds_py k xs ys ha.2 hb.2]
end
theorem opEqB_ok {a b : D} (h : Hh) (ha : okD 60 a = true) (hb : okD 60 b = true) : opEqB a b h = some (eqd a b) := by
  have gen : eqP h a b = some (eqd a b) := by
    unfold eqP
    rw [toP_ok h 60 60 a (Nat.le_refl _) ha, toP_ok h 60 60 b (Nat.le_refl _) hb]
    dsimp only
    have h1 := depth_ok 60 a ha
    have h2 := depth_ok 60 b hb
    rw [if_pos ⟨by simp [SeqAt.shaped, h1.2]; omega, by simp [SeqAt.shaped, h2.2]; omega⟩, eqd_py 60 a b ha hb]
  unfold opEqB
  split
  · simp [eqd, BEq.beq]
  · simp [eqd, BEq.beq]
  · simp [eqd, BEq.beq]
  · simp [eqd]
  · exact gen
theorem opEq_ok {a b : D} (h : Hh) (ha : okD 60 a = true) (hb : okD 60 b = true) : opEq a b h = some (.bl (eqd a b), h) := by
  unfold opEq
  rw [opEqB_ok h ha hb]
  rfl
theorem opNe_ok {a b : D} (h : Hh) (ha : okD 60 a = true) (hb : okD 60 b = true) : opNe a b h = some (.bl (!eqd a b), h) := by
  unfold opNe
  rw [opEqB_ok h ha hb]
  rfl
theorem okD_mono : ∀ {m n : Nat} {d : D}, m ≤ n → okD m d = true → okD n d = true
  | 0, _, _, _, e => by simp [okD] at e
  | m + 1, 0, _, l, _ => by omega
  | m + 1, n + 1, .non, _, _ => rfl
  | m + 1, n + 1, .bl _, _, _ => rfl
  | m + 1, n + 1, .int _, _, _ => rfl
  | m + 1, n + 1, .str _, _, e => e
  | m + 1, n + 1, .tup ds, l, e => by
    simp only [okD] at e ⊢
    exact okDs_iff.mpr fun d hd => okD_mono (by omega) (okDs_mem e hd)
  | m + 1, n + 1, .fls ds, l, e => by
    simp only [okD] at e ⊢
    exact okDs_iff.mpr fun d hd => okD_mono (by omega) (okDs_mem e hd)
  | m + 1, n + 1, .ref _, _, e => by simp [okD] at e
theorem okD_lo : ∀ {m n : Nat} {d : D}, okD m d = true → lo n d = true
  | 0, _, _, e => by simp [okD] at e
  | m + 1, n, .non, _ => rfl
  | m + 1, n, .bl _, _ => rfl
  | m + 1, n, .int _, _ => rfl
  | m + 1, n, .str _, e => rfl
  | m + 1, n, .tup ds, e => by
    simp only [okD] at e
    rw [lo_tup, los_all, List.all_eq_true]
    exact fun d hd => okD_lo (okDs_mem e hd)
  | m + 1, n, .fls ds, e => by
    simp only [okD] at e
    rw [lo_fls, los_all, List.all_eq_true]
    exact fun d hd => okD_lo (okDs_mem e hd)
  | m + 1, n, .ref _, e => by simp [okD] at e
theorem eqds_strs : ∀ (xs ys : List (List Nat)), eqds (xs.map fun l => D.str (tx l)) (ys.map fun l => D.str (tx l)) = decide (xs = ys)
  | [], [] => rfl
  | [], _ :: _ => rfl
  | _ :: _, [] => rfl
  | x :: xs, y :: ys => by
    simp only [List.map_cons, eqds, eqd, eqds_strs xs ys]
    by_cases h : x = y <;> simp [h]
end Sm
/-! SmR3: tame data; the drawing function at the heap's head. -/
namespace Sm
open PySem L2 PyProof.Rows SmPool
mutual
/-- no places, no great depth, no long texts or rows -/
def tm : Nat → D → Bool
  | 0, _ => false
  | _ + 1, .str x => x.cps.all (· < 0x110000) && decide (x.length ≤ 4096)
  | k + 1, .tup ds => tms k ds && decide (ds.length ≤ 4096)
  | k + 1, .fls ds => tms k ds && decide (ds.length ≤ 4096)
  | _ + 1, .ref _ => false
  | _ + 1, _ => true
def tms : Nat → List D → Bool
  | _, [] => true
  | k, d :: ds => tm k d && tms k ds
end
theorem tms_mem : ∀ {k : Nat} {ds : List D} {d : D}, tms k ds = true → d ∈ ds → tm k d = true
  | k, d' :: ds, d, h, hm => by
    simp only [tms, Bool.and_eq_true] at h
    rcases List.mem_cons.mp hm with rfl | hm
    · exact h.1
    · exact tms_mem h.2 hm
theorem tms_iff {k : Nat} {ds : List D} : tms k ds = true ↔ ∀ d ∈ ds, tm k d = true := by
  refine ⟨fun h d hd => tms_mem h hd, fun h => ?_⟩
  induction ds with
  | nil => rfl
  | cons d ds ih =>
    simp only [tms, Bool.and_eq_true]
    exact ⟨h d (by simp), ih fun x hx => h x (by simp [hx])⟩
theorem tm_ok : ∀ {k : Nat} {d : D}, tm k d = true → okD k d = true
  | 0, _, e => by simp [tm] at e
  | k + 1, .non, _ => rfl
  | k + 1, .bl _, _ => rfl
  | k + 1, .int _, _ => rfl
  | k + 1, .str _, e => by simp only [tm, Bool.and_eq_true] at e; exact e.1
  | k + 1, .tup ds, e => by
    simp only [tm, Bool.and_eq_true] at e
    simp only [okD]
    exact okDs_iff.mpr fun d hd => tm_ok (tms_mem e.1 hd)
  | k + 1, .fls ds, e => by
    simp only [tm, Bool.and_eq_true] at e
    simp only [okD]
    exact okDs_iff.mpr fun d hd => tm_ok (tms_mem e.1 hd)
  | k + 1, .ref _, e => by simp [tm] at e
theorem tm_mono : ∀ {m n : Nat} {d : D}, m ≤ n → tm m d = true → tm n d = true
  | 0, _, _, _, e => by simp [tm] at e
  | m + 1, 0, _, l, _ => by omega
  | m + 1, n + 1, .non, _, _ => rfl
  | m + 1, n + 1, .bl _, _, _ => rfl
  | m + 1, n + 1, .int _, _, _ => rfl
  | m + 1, n + 1, .str _, _, e => e
  | m + 1, n + 1, .tup ds, l, e => by
    simp only [tm, Bool.and_eq_true] at e ⊢
    exact ⟨tms_iff.mpr fun d hd => tm_mono (by omega) (tms_mem e.1 hd), e.2⟩
  | m + 1, n + 1, .fls ds, l, e => by
    simp only [tm, Bool.and_eq_true] at e ⊢
    exact ⟨tms_iff.mpr fun d hd => tm_mono (by omega) (tms_mem e.1 hd), e.2⟩
  | m + 1, n + 1, .ref _, _, e => by simp [tm] at e
theorem tm_len {k : Nat} {x : Str} (e : tm k (.str x) = true) : x.cps.toList.length ≤ sizeLine := by
  cases k with
  | zero => simp [tm] at e
  | succ k =>
    simp only [tm, Bool.and_eq_true, decide_eq_true_eq] at e
    have := e.2
    rw [sizeLine_eq]
    unfold Str.length at this
    simp
    omega
theorem tm_tup {k : Nat} {ds : List D} (e : tm k (.tup ds) = true) : tms (k - 1) ds = true ∧ ds.length ≤ 4096 := by
  cases k with
  | zero => simp [tm] at e
  | succ k =>
    simp only [tm, Bool.and_eq_true, decide_eq_true_eq] at e
    exact e
theorem tm_fls {k : Nat} {ds : List D} (e : tm k (.fls ds) = true) : tms (k - 1) ds = true ∧ ds.length ≤ 4096 := by
  cases k with
  | zero => simp [tm] at e
  | succ k =>
    simp only [tm, Bool.and_eq_true, decide_eq_true_eq] at e
    exact e
theorem tm_ref {k n : Nat} : ¬ tm k (.ref n) = true := by cases k <;> simp [tm]
theorem tm_cps {k : Nat} {x : Str} (e : tm k (.str x) = true) : x.cps.all (· < 0x110000) = true := by
  cases k with
  | zero => simp [tm] at e
  | succ k =>
    simp only [tm, Bool.and_eq_true] at e
    exact e.1
theorem tm_mkT {k : Nat} {ds : List D} (h : ∀ d ∈ ds, tm k d = true) (hl : ds.length ≤ 4096) : tm (k + 1) (.tup ds) = true := by
  have h1 := tms_iff.mpr h
  have e : tm (k + 1) (.tup ds) = (tms k ds && decide (ds.length ≤ 4096)) := by simp only [tm]
  rw [e, h1]
  simpa using hl
theorem tm_mkF {k : Nat} {ds : List D} (h : ∀ d ∈ ds, tm k d = true) (hl : ds.length ≤ 4096) : tm (k + 1) (.fls ds) = true := by
  have h1 := tms_iff.mpr h
  have e : tm (k + 1) (.fls ds) = (tms k ds && decide (ds.length ≤ 4096)) := by simp only [tm]
  rw [e, h1]
  simpa using hl
theorem tm_sub {k : Nat} {ds es : List D} (e : tm k (.tup ds) = true) (h : ∀ d ∈ es, d ∈ ds) (hl : es.length ≤ ds.length) : tm k (.tup es) = true := by
  cases k with
  | zero => simp [tm] at e
  | succ k =>
    obtain ⟨h1, h2⟩ := tm_tup e
    exact tm_mkT (fun d hd => tms_mem h1 (h d hd)) (by omega)
theorem tm_mkS {k : Nat} {l : List Nat} (h : ∀ c ∈ l, c < 128) (hl : l.length ≤ 4096) : tm (k + 1) (.str (tx l)) = true := by
  have e : tm (k + 1) (.str (tx l)) = ((tx l).cps.all (· < 0x110000) && decide ((tx l).length ≤ 4096)) := by simp only [tm]
  rw [e]
  simp only [Bool.and_eq_true, decide_eq_true_eq, tx_len]
  refine ⟨?_, hl⟩
  unfold tx
  simp
  intro c hc
  have := h c hc
  omega
theorem tm_lo {k n : Nat} {d : D} (e : tm k d = true) : lo n d = true := okD_lo (tm_ok e)
theorem tms_lo {k n : Nat} {ds : List D} (e : tms k ds = true) : los n ds = true := by
  rw [los_all, List.all_eq_true]
  exact fun d hd => tm_lo (tms_mem e hd)
theorem line4k {n : Nat} (h : n ≤ 100000) : n ≤ sizeLine := by rw [sizeLine_eq]; omega
theorem line4kI {n : Int} (h : n ≤ 100000) : n ≤ (sizeLine : Int) := by rw [sizeLine_eq]; omega
theorem rngD_range (n : Nat) : rngD 0 n = (List.range n).map fun (k : Nat) => D.int (k : Int) := by
  unfold rngD
  apply List.map_congr_left
  intro a _
  simp
theorem opJoin_f {x : Str} {xs : List Str} {h : Hh} (hz : (xs.map (·.length)).sum + xs.length * x.length ≤ 16777216) : opJoin (.str x) (.fls (xs.map D.str)) h = some (.str (Txt.join x xs), h) := by
  have h1 : partsOf (.fls (xs.map D.str)) h = some (xs.map D.str) := rfl
  have h2 := strsOf_map xs
  simp only [opJoin, h1, h2, if_pos hz]
theorem sumLen {xs : List Str} {B : Nat} (hB : ∀ y ∈ xs, y.length ≤ B) : (xs.map (·.length)).sum ≤ xs.length * B := StrLaws.sumLen_le xs hB
/-! ### a source at the heap's head -/
def SrO (o : O) : Prop := ∃ (ns : List Int) (i : Nat) (w s : Int), ns.length ≤ 63 ∧ i ≤ ns.length ∧ 0 ≤ w ∧ 0 ≤ s ∧ s < 2147483647 ∧ o = .lst [.fls (ns.map D.int), .int i, .int w, .int s]
theorem SrO.lo {o : O} {n : Nat} (a : SrO o) : loO n o = true := by
  obtain ⟨ns, i, w, s, _, _, _, _, _, rfl⟩ := a
  simp [loO]
theorem SrO.kq {o o' : O} {t : Hh} {n : Nat} (a : SrO o') : Kq n (o :: t) (o' :: t) := fun i u e => by
  cases i with
  | zero => simp at e; subst e; exact .inr a.lo
  | succ i => exact .inl (by simpa using e)
theorem SrO.start (ns : List Int) (h : ns.length ≤ 63) : SrO (.lst [.fls (ns.map D.int), .int 0, .int 0, .int 1]) := ⟨ns, 0, 0, 1, h, by omega, by omega, by omega, by omega, rfl⟩
section
variable {o o' : O} {t g : Hh} {d : D} {ds : List D}
theorem trR_s0 (a : SrO o') : trR (o :: t) (.ok d (o' :: t)) = .ok d (o' :: t) := by
  unfold trR
  dsimp only
  rw [List.take_of_length_le (by simp)]
  split <;> rfl
theorem trR_s (a : SrO o') : trR (o :: t) (.ok d (o' :: (t ++ g))) = if lo (t.length + 1) d = true then .ok d (o' :: t) else .ok d (o' :: (t ++ g)) := by
  unfold trR
  simp [a.kq]
theorem trR_s1 (a : SrO o') {x : O} : trR [o] (.ok d [o', x]) = if lo 1 d = true then .ok d [o'] else .ok d [o', x] := by
  have := trR_s (o := o) (t := []) (g := [x]) (d := d) a
  simpa using this
theorem fz1_s (a : SrO o') : fz1 (o :: t) (.ok (.ref (t.length + 1)) (o' :: (t ++ [.lst ds]))) = if los (t.length + 1) ds = true then .ok (.fls ds) (o' :: t) else .ok (.fls ds) (o' :: (t ++ [.dead])) := by
  unfold fz1
  simp [a.kq]
theorem fz1_s1 (a : SrO o') : fz1 [o] (.ok (.ref 1) [o', .lst ds]) = if los 1 ds = true then .ok (.fls ds) [o'] else .ok (.fls ds) [o', .dead] := by
  have := fz1_s (o := o) (t := []) (ds := ds) a
  simpa using this
end
theorem draw_s {o : O} {t : Hh} {m : Int} (a : SrO o) (hm : 0 < m) (hm2 : m < 1073741824) : ∃ r o', 0 ≤ r ∧ r < m ∧ SrO o' ∧ fnT 4 SmDraw.b__law_draw [.ref 0, .int m] (o :: t) = .ok (.int r) (o' :: t) := by
  have a0 : SmDraw.Sr (o :: t) 0 := by
    obtain ⟨ns, i, w, s, h1, h2, h3, h4, h5, rfl⟩ := a
    exact ⟨ns, i, w, s, h1, h2, h3, h4, h5, rfl⟩
  obtain ⟨r, h', h1, h2, h3, h4, h5, h6⟩ := SmDraw.draw_x a0 hm hm2
  cases h' with
  | nil => simp at h5
  | cons o' t' =>
    have ht : t' = t := by
      have e : ∀ i u, t[i]? = some u → t'[i]? = some u := fun i u e => by
        have := h4 (i + 1) u (by omega) (by simpa using e)
        simpa using this
      have hl : t'.length = t.length := by simpa using h5
      apply List.ext_getElem?
      intro i
      by_cases q : i < t.length
      · rw [List.getElem?_eq_getElem q]
        exact e i _ (List.getElem?_eq_getElem q)
      · rw [List.getElem?_eq_none (by omega), List.getElem?_eq_none (by omega)]
    subst ht
    have so : SrO o' := by
      obtain ⟨ns, i, w, s, k1, k2, k3, k4, k5, k6⟩ := h3
      simp at k6
      exact ⟨ns, i, w, s, k1, k2, k3, k4, k5, k6⟩
    refine ⟨r, o', h1, h2, so, ?_⟩
    have e : fnM 4 SmDraw.b__law_draw [.ref 0, .int m] (o :: t') = .ok (.int r) (o' :: t') := h6
    show trR (o :: t') (fnM 4 SmDraw.b__law_draw [.ref 0, .int m] (o :: t')) = _
    rw [e, trR_s0 so]
end Sm
/-! SmRefl: data equal themselves -/
namespace Sm
open PySem L2 PyProof.Rows
mutual
theorem eqd_refl : ∀ {k : Nat} {d : D}, okD k d = true → eqd d d = true
  | 0, _, e => by simp [okD] at e
  | k + 1, .non, _ => by simp [eqd]
  | k + 1, .bl _, _ => by simp [eqd]
  | k + 1, .int _, _ => by simp [eqd]
  | k + 1, .str _, _ => by simp [eqd]
  | k + 1, .tup ds, e => by
    simp only [eqd]
    exact eqds_refl (k := k) (by simpa [okD] using e)
  | k + 1, .fls ds, e => by
    simp only [eqd]
    exact eqds_refl (k := k) (by simpa [okD] using e)
  | k + 1, .ref _, e => by simp [okD] at e
theorem eqds_refl : ∀ {k : Nat} {ds : List D}, okDs k ds = true → eqds ds ds = true
  | _, [], _ => by simp [eqds]
  | k, d :: ds, e => by
    simp only [okDs, Bool.and_eq_true] at e
    simp only [eqds, Bool.and_eq_true]
    exact ⟨eqd_refl e.1, eqds_refl e.2⟩
end
end Sm
/-! SmIn: instances of own classes: a field read, stored, a method called, an instance made; dicts read; k in d. -/
namespace Sm
open PySem L2 PyProof.Rows
/-- two ways to read one expression -/
theorem se_alt {X : Cx} {G : Cl} {W : WX} {e : Expr} {m1 m2 m : M} (h1 : PE X e (tM X.K G W m1)) (h2 : PE X e (tM X.K G W m2)) (hm : ∀ env h, m env h = m1 env h ∨ m env h = m2 env h) : PE X e (tM X.K G W m) := by
  refine ⟨fun pins s σ H Q I t => ?_⟩
  obtain ⟨ρ, h, env, hr, he, p⟩ := t
  rcases hm env h with q | q
  · rw [q] at p
    exact h1.run pins s σ H Q I ⟨ρ, h, env, hr, he, p⟩
  · rw [q] at p
    exact h2.run pins s σ H Q I ⟨ρ, h, env, hr, he, p⟩
theorem st_alt {X : Cx} {G : Cl} {W : WX} {e : Expr} {m1 m2 m : MT} (h1 : PT X e (tT X.K G W m1)) (h2 : PT X e (tT X.K G W m2)) (hm : ∀ env h, m env h = m1 env h ∨ m env h = m2 env h) : PT X e (tT X.K G W m) := by
  refine ⟨fun pins s σ H Q I t => ?_⟩
  obtain ⟨ρ, h, env, hr, he, p⟩ := t
  rcases hm env h with q | q
  · rw [q] at p
    exact h1.run pins s σ H Q I ⟨ρ, h, env, hr, he, p⟩
  · rw [q] at p
    exact h2.run pins s σ H Q I ⟨ρ, h, env, hr, he, p⟩
/-! ### fields -/
/-- the k-th field of an instance of the class c -/
def opFld (c k : Nat) : D → Hh → Option (D × Hh)
  | .ref n, h => match h[n]? with
    | some (.ins c' fs) => if c' = c then (match fs[k]? with
      | some (some d) => some (d, h)
      | _ => none) else none
    | _ => none
  | _, _ => none
section
variable {X : Cx} {G : Cl} {W : WX} {e o value : Expr} {es : List Expr} {f x m : Str} {pos pos' p apos : Pos} {mo mv me ma mb : M} {ms : List M} {c k j : Nat} {K : PySem.W.Frag} {ρ : List Addr} {H : Hp} {h : Hh} {σ : L2.St} {env : Ev}
/-- a class of the text as those know it who use its instances -/
structure ClOk (K : PySem.W.Frag) (G : Cl) (c : Nat) : Prop where
  cl : Cls K (G.at_ c)
  no : ∀ f ∈ G.nm c, NoAttr K (G.at_ c) f
  nd : (G.nm c).Nodup
  sm : (G.nm c).length < 900
theorem ClOk.at_ (T : ClOk K G c) {i : Nat} (e : (G.nm c)[i]? = some f) : NoAttr K (G.at_ c) f := T.no f (List.mem_of_getElem? e)
theorem se_fld (T : ClOk X.K G c) (hk : (G.nm c)[k]? = some f) (he : PE X e (tM X.K G W me)) (hb : attributeBase e f X.env (eval e X.env) = eval e X.env := by rfl) : PE X (.Attribute e f pos) (tM X.K G W (eU (opFld c k) me)) := peImp (pe_fld he hb) fun σ H Q t => by
  obtain ⟨ρ, h, env, hr, he, p⟩ := t
  refine tG_mono (tG_bind (rel := relV X.K) hr he p) fun v H1 ⟨ρ1, h1, d, e1, hr1, he1, r1, p1⟩ => ?_
  obtain ⟨d2, h2, eq, kk⟩ := p1.opt
  unfold opFld at eq
  split at eq
  · cases r1 with
    | @ref _ a ra =>
      split at eq
      · rename_i c' fs e0
        split at eq
        · rename_i hc
          subst hc
          split at eq
          · rename_i d3 e3
            cases eq
            have z := hr1.at_ ra e0
            cases z with
            | ins q l r nn zz =>
              have r0 := r k f hk
              rw [e3] at r0
              rename_i dx vfs
              cases lk : vfs.lookup f with
              | none => rw [lk] at r0; exact r0.elim
              | some v =>
                rw [lk] at r0
                exact ⟨a, _, dx, vfs, v, rfl, q, T.cl, T.at_ hk, lk, kk _ _ _ Ex.refl hr1 r0⟩
          · cases eq
        · cases eq
      · cases eq
  · cases eq
/-- o.f = value -/
def sFld (c k : Nat) (mo mv : M) : S := fun env h => bindS (mv env h) env fun v h1 => bindS (mo env h1) env fun o h2 => match o with
  | .ref n => (match h2[n]? with
    | some (.ins c' fs) => if c' = c then .nx env (h2.set n (.ins c (fs.set k (some v)))) else .bad
    | _ => .bad)
  | _ => .bad
theorem putF_len_some {f : Str} {y v : V} : ∀ {fs : List (Str × V)}, fs.lookup f = some v → (putF f y fs).length = fs.length
  | [], e => by cases e
  | (g, x) :: r, e => by
    by_cases q : g = f
    · simp [putF, q]
    · have q' : (f == g) = false := by simpa using fun z => q z.symm
      simp only [List.lookup, q'] at e
      simp [putF, q, putF_len_some e]
theorem putF_len_none {f : Str} {y : V} : ∀ {fs : List (Str × V)}, fs.lookup f = none → (putF f y fs).length = fs.length + 1
  | [], _ => rfl
  | (g, x) :: r, e => by
    by_cases q : g = f
    · simp [List.lookup, q] at e
    · have q' : (f == g) = false := by simpa using fun z => q z.symm
      simp only [List.lookup, q'] at e
      simp [putF, q, putF_len_none e]
theorem setN_le : ∀ ds : List (Option D), setN ds ≤ ds.length := fun ds => List.length_filter_le _ _
theorem setN_some {d0 d : D} : ∀ {ds : List (Option D)} {k : Nat}, ds[k]? = some (some d0) → setN (ds.set k (some d)) = setN ds
  | [], k, e => by simp at e
  | x :: ds, 0, e => by
    simp at e
    subst e
    simp [setN]
  | x :: ds, k + 1, e => by
    have ih := setN_some (d := d) (ds := ds) (k := k) (by simpa using e)
    unfold setN at ih ⊢
    cases x <;> simp [ih]
theorem setN_none {d : D} : ∀ {ds : List (Option D)} {k : Nat}, ds[k]? = some none → setN (ds.set k (some d)) = setN ds + 1
  | [], k, e => by simp at e
  | x :: ds, 0, e => by
    simp at e
    subst e
    simp [setN]
  | x :: ds, k + 1, e => by
    have ih := setN_none (d := d) (ds := ds) (k := k) (by simpa using e)
    unfold setN at ih ⊢
    cases x <;> simp [ih]
theorem nodup_at {α : Type} : ∀ {l : List α}, l.Nodup → ∀ {i j : Nat} (hi : i < l.length) (hj : j < l.length), l[i] = l[j] → i = j
  | [], _, i, j, hi, _, _ => by simp at hi
  | x :: l, nd, i, j, hi, hj, e => by
    rw [List.nodup_cons] at nd
    cases i with
    | zero =>
      cases j with
      | zero => rfl
      | succ j =>
        simp at e
        exact absurd (e ▸ List.getElem_mem _) nd.1
    | succ i =>
      cases j with
      | zero =>
        simp at e
        exact absurd (e ▸ List.getElem_mem _) nd.1
      | succ j =>
        simp at e
        rw [nodup_at nd.2 (by simpa using hi) (by simpa using hj) e]
/-- such a store in the plain heap -/
theorem ins_store (T : ClOk K G c) (hk : (G.nm c)[k]? = some f) (hr : Rh K G ρ H h) {n : Nat} {a dx : Addr} {vfs : List (Str × V)} {fs : List (Option D)} {v : V} {d : D} (ra : ρ[n]? = some a) (e0 : h[n]? = some (.ins c fs)) (q : H a = some (.ins (G.at_ c) dx vfs)) (rv : Rv K ρ H v d) :
    Ex K ρ H ρ (upd H a (.ins (G.at_ c) dx (putF f v vfs))) ∧ Rh K G ρ (upd H a (.ins (G.at_ c) dx (putF f v vfs))) (h.set n (.ins c (fs.set k (some d)))) := by
  have ex : Ex K ρ H ρ (upd H a (.ins (G.at_ c) dx (putF f v vfs))) := Ex.write hr ra e0
  refine ⟨ex, hr.write ra e0 ?_⟩
  have z := hr.at_ ra e0
  cases z with
  | ins q' l r nn zz =>
    rw [q] at q'
    obtain ⟨rfl, rfl⟩ : dx = _ ∧ vfs = _ := by
      have := Option.some.inj q'
      injection this with h1 h2 h3
      exact ⟨h2, h3⟩
    have hkl : k < fs.length := by rw [l]; exact (List.getElem?_eq_some_iff.mp hk).1
    refine .ins upd_same (by rw [List.length_set]; exact l) (fun i g hg => ?_) (fun g hg => ?_) ?_
    · rw [lookup_putF]
      by_cases e : g = f
      · subst e
        have : i = k := by
          have h1 := (List.getElem?_eq_some_iff.mp hg)
          have h2 := (List.getElem?_eq_some_iff.mp hk)
          obtain ⟨l1, e1⟩ := h1
          obtain ⟨l2, e2⟩ := h2
          exact nodup_at T.nd l1 l2 (e1.trans e2.symm)
        subst this
        rw [if_pos rfl, List.getElem?_set_self hkl]
        exact rv.mono ex
      · have : k ≠ i := fun z => by
          subst z
          rw [hk] at hg
          exact e (Option.some.inj hg).symm
        rw [if_neg e, List.getElem?_set_ne this]
        exact (r i g hg).mono ex
    · rw [lookup_putF]
      have : g ≠ f := fun z => by
        subst z
        exact hg (List.mem_of_getElem? hk)
      rw [if_neg this]
      exact nn g hg
    · have r0 := r k f hk
      have e1 : fs[k]? = some fs[k] := List.getElem?_eq_getElem hkl
      cases e2 : fs[k] with
      | none =>
        rw [e1, e2] at r0
        have lk : vfs.lookup f = none := by
          cases e3 : vfs.lookup f with
          | none => rfl
          | some _ => rw [e3] at r0; exact r0.elim
        rw [putF_len_none lk, setN_none (by rw [e1, e2]), zz]
      | some d0 =>
        rw [e1, e2] at r0
        cases e3 : vfs.lookup f with
        | none => rw [e3] at r0; exact r0.elim
        | some v0 => rw [putF_len_some e3, setN_some (d0 := d0) (by rw [e1, e2]), zz]
theorem s_fld (T : ClOk X.K G c) (hk : (G.nm c)[k]? = some f) (ho : PE X o (tM X.K G W mo)) (hv : PE X value (tM X.K G W mv)) (hs : swapsWith value (some (.Attribute o f pos')) pos.line X.env = pure false := by rfl) : PS X (.Assign [.Attribute o f pos'] value pos) (tS X.K G W (sFld c k mo mv)) := psImp (ps_fld ho hv hs) fun D0 σ H t => by
  obtain ⟨ρ, h, env, hr, he, q⟩ := t
  refine tG_mono (tS_bind (rel := relV X.K) hr he q) fun v H1 ⟨ρ1, h1, d, e1, hr1, he1, r1, p1⟩ => ?_
  refine tG_mono (tS_bind (rel := relV X.K) hr1 he1 p1) fun w H2 ⟨ρ2, h2, d2, e2, hr2, he2, r2, p2⟩ => ?_
  cases d2 with
  | ref n =>
    cases r2 with
    | @ref _ a ra =>
      dsimp only at p2
      split at p2
      · rename_i c' fs e0
        split at p2
        · rename_i hc
          subst hc
          have z := hr2.at_ ra e0
          cases z with
          | @ins _ dx vfs _ q l r nn zz =>
            obtain ⟨ex, rr⟩ := ins_store T hk hr2 ra e0 q (r1.mono e2)
            refine ⟨a, _, dx, vfs, rfl, q, T.cl, T.at_ hk, ?_, ?_⟩
            · have := setN_le fs
              have := T.sm
              omega
            · exact p2 ρ2 _ σ ex rr (he2.mono ex)
        · exact p2.elim
      · exact p2.elim
  | _ => exact p2.elim
/-! ### methods, new instances -/
theorem passE0 {P : Program} {w : World} {X : Cx} : Passes (L2N.CX P w) X E0 := fun _ _ _ _ _ _ _ ⟨_, _, _, _, _, _, _, _, _, _, _, _, h⟩ => h.elim
/-- a method (nothing raises out of it), as its callers know it -/
def OkM (P : Program) (w : World) (K : PySem.W.Frag) (mg : Str → Option Value) (base : Heap) (G : Cl) (j c : Nat) (m : Str) (ps : List Str) (fm : Fm) : Prop :=
  ∃ f fd, Meth K (G.at_ c) m f ∧ Binds K fd ps [] ∧ m ∉ G.nm c ∧ FnOk P w K mg base (L2N.CX P w) j f fd ps (spM K G ps.length fm)
/-- the class's own making -/
def OkC (P : Program) (w : World) (K : PySem.W.Frag) (mg : Str → Option Value) (base : Heap) (G : Cl) (j c : Nat) (x : Str) (ps : List Str) (fm : Fm) : Prop :=
  ∃ f fd, mg x = some (.ref (G.at_ c)) ∧ Mk K (G.at_ c) f ∧ Binds K fd ps [] ∧ FnOk P w K mg base (L2N.CX P w) j f fd ps (spM K G ps.length fm)
/-- no exception -/
def noX (r : R D) : R D := match r with
  | .ok d h => .ok d h
  | _ => .bad
def eMeth (c : Nat) (fm : Fm) (mo : M) (ms : List M) : M := fun env h => (mo env h).bind fun o h1 => match o with
  | .ref n => (match h1[n]? with
    | some (.ins c' _) => if c' = c then (evs ms env h1).bind fun ds h2 => noX (fm (.ref n :: ds) h2) else .bad
    | _ => .bad)
  | _ => .bad
theorem meth_imp {ps : List Str} {fm : Fm} (hl : ms.length + 1 = ps.length) (hm : m ∉ G.nm c) (σ : L2.St) (H : Hp) (Q : VK) (t : tM X.K G W (eMeth c fm mo ms) σ H Q) : tMeth (G.at_ c) m (spM X.K G ps.length fm) [] E0 (tM X.K G W mo) (tL X.K G W (evs ms)) σ H Q := by
  obtain ⟨ρ, h, env, hr, he, p⟩ := t
  refine tG_mono (tG_bind (rel := relV X.K) hr he p) fun v H1 ⟨ρ1, h1, d, e1, hr1, he1, r1, p1⟩ => ?_
  cases d with
  | ref n =>
    cases r1 with
    | @ref _ a ra =>
      dsimp only at p1
      split at p1
      · rename_i c' fs e0
        split at p1
        · rename_i hc
          subst hc
          have z := hr1.at_ ra e0
          cases z with
          | @ins _ dx vfs _ q l r nn zz =>
            refine ⟨a, dx, vfs, rfl, q, nn m hm, ?_⟩
            refine ⟨ρ1, h1, env, hr1, he1, ?_⟩
            cases q1 : evs ms env h1 with
            | bad => rw [q1] at p1; exact p1
            | exc c fs h' => rw [q1] at p1; exact p1
            | ok ds h2 =>
              rw [q1] at p1
              simp only [R.bind_ok] at p1
              intro ρ' H' vs e2 a2 b2
              refine ⟨ρ', h2, .ref n :: ds, a2, .cons (.ref (e2.pre _ _ ra)) (by rw [List.append_nil]; exact b2), by rw [List.append_nil, List.length_cons, b2.length, evs_len q1, hl], ?_⟩
              have p' := p1.shift e2
              cases q2 : fm (.ref n :: ds) h2 with
              | bad => rw [q2] at p'; exact p'.elim
              | exc c fs h' => rw [q2] at p'; exact p'.elim
              | ok d h' => rw [q2] at p'; exact p'
        · exact p1.elim
      · exact p1.elim
  | _ => exact p1.elim
theorem se_meth {ps : List Str} {fm : Fm} {kk : Nat} {pl : Sem Bool} (ct : Ct X W kk) (T : ClOk X.K G c) (F : OkM X.prog X.w X.K X.mg X.base G j c m ps fm) (hj : j ≤ kk) (ho : PE X o (tM X.K G W mo)) (ha : PA X (e :: es) (tL X.K G W (evs ms))) (hl : ms.length + 1 = ps.length := by rfl)
    (hst : starEach (e :: es) X.env = (false, eval e X.env) :: starEach es X.env := by rfl) (hpl : (backTo pos (starEach es X.env)).any (·.1) = false := by rfl)
    (ht : eval (.Call (.Attribute o m apos) (e :: es) [] pos) X.env = (do
      let ov ← eval o X.env
      standAt apos.atName
      let (f, first) ← holding [ov] (getMethod ov m pl)
      callWith pos f first (backTo pos (starEach (e :: es) X.env)) (backToKw pos (keywordEach [] X.env))) := by rfl) : PE X (.Call (.Attribute o m apos) (e :: es) [] pos) (tM X.K G W (eMeth c fm mo ms)) := by
  obtain ⟨f, fd, hm, hb, hn, F⟩ := F
  exact peImp (pe_meth ho T.cl hm F (ct.hr.mono hj) hb .nil passE0 ha hst hpl ht) fun σ H Q t => meth_imp hl hn σ H Q t
theorem se_meth0 {ps : List Str} {fm : Fm} {kk : Nat} {pl : Sem Bool} (ct : Ct X W kk) (T : ClOk X.K G c) (F : OkM X.prog X.w X.K X.mg X.base G j c m ps fm) (hj : j ≤ kk) (ho : PE X o (tM X.K G W mo)) (hl : 1 = ps.length := by rfl)
    (ht : eval (.Call (.Attribute o m apos) [] [] pos) X.env = (do
      let ov ← eval o X.env
      standAt apos.atName
      let (f, first) ← holding [ov] (getMethod ov m pl)
      callWith pos f first (backTo pos (starEach [] X.env)) (backToKw pos (keywordEach [] X.env))) := by rfl) : PE X (.Call (.Attribute o m apos) [] [] pos) (tM X.K G W (eMeth c fm mo [])) := by
  obtain ⟨f, fd, hm, hb, hn, F⟩ := F
  refine peImp (pe_meth0 ho T.cl hm F (ct.hr.mono hj) hb .nil passE0 ht) fun σ H Q t => ?_
  have := meth_imp (m := m) (ms := []) hl hn σ H Q t
  obtain ⟨ρ, h, env, hr, he, p⟩ := this
  refine ⟨ρ, h, env, hr, he, p.imp fun v H1 ⟨a, dx, fs, h1, h2, h3, h4⟩ => ⟨a, dx, fs, h1, h2, h3, ?_⟩⟩
  obtain ⟨ρ2, g, env2, hr2, he2, p2⟩ := h4
  exact p2 ρ2 H1 [] Ex.refl hr2 .nil
/-- C(..): nf: how many fields its instances can have -/
def eMake (c nf : Nat) (fm : Fm) (ms : List M) : M := fun env h => (evs ms env h).bind fun ds h1 => match fm (.ref h1.length :: ds) (h1 ++ [.ins c (List.replicate nf none)]) with
  | .ok .non h2 => .ok (.ref h1.length) h2
  | _ => .bad
theorem setN_rep (n : Nat) : setN (List.replicate n (none : Option D)) = 0 := by
  induction n with
  | zero => rfl
  | succ n ih => rw [List.replicate_succ]; unfold setN at ih ⊢; simpa using ih
theorem se_make {ps : List Str} {fm : Fm} {kk nf : Nat} (ct : Ct X W kk) (F : OkC X.prog X.w X.K X.mg X.base G j c x ps fm) (hn : (G.nm c).length = nf) (hj : j + 1 ≤ kk) (hg : Gl X x) (ha : PA X (e :: es) (tL X.K G W (evs ms))) (hl : ms.length + 1 = ps.length := by rfl)
    (hdb : (x == ("__debug__" : Str)) = false := by decide) (he : starEach (e :: es) X.env = (false, eval e X.env) :: starEach es X.env := by rfl) (hpl : (backTo pos (starEach es X.env)).any (·.1) = false := by rfl) :
    PE X (.Call (.Name x p) (e :: es) [] pos) (tM X.K G W (eMake c nf fm ms)) := by
  obtain ⟨f, fd, hm, hk, hb, F⟩ := F
  refine peImp (pe_make hk F (ct.hr.mono hj) hg hm hb .nil passE0 ha hdb he hpl) fun σ H Q t => ?_
  obtain ⟨ρ, h, env, hr, he, p⟩ := t
  unfold eMake at p
  refine ⟨ρ, h, env, hr, he, ?_⟩
  cases q1 : evs ms env h with
  | bad => rw [q1] at p; exact p
  | exc c fs h' => rw [q1] at p; exact p
  | ok ds h1 =>
    rw [q1] at p
    simp only [R.bind_ok] at p
    intro ρ1 H1 vs e1 hr1 rs a dx na nd ne
    have ex1 : Ex X.K ρ1 H1 ρ1 (upd H1 dx (.own a)) := Ex.fresh nd
    have rh1 : Rh X.K G ρ1 (upd H1 dx (.own a)) h1 := hr1.aux nd
    have na1 : upd H1 dx (.own a) a = none := by rw [upd_ne (fun z => ne z.symm)]; exact na
    have ex2 : Ex X.K ρ1 (upd H1 dx (.own a)) (ρ1 ++ [a]) (upd (upd H1 dx (.own a)) a (.ins (G.at_ c) dx [])) := Ex.push na1
    have rh2 : Rh X.K G (ρ1 ++ [a]) (upd (upd H1 dx (.own a)) a (.ins (G.at_ c) dx [])) (h1 ++ [.ins c (List.replicate nf none)]) := by
      refine rh1.new na1 (.ins upd_same (by rw [List.length_replicate]; exact hn.symm) (fun i f hf => ?_) (fun _ _ => rfl) (by rw [setN_rep]; rfl))
      have hi : i < nf := by rw [← hn]; exact (List.getElem?_eq_some_iff.mp hf).1
      rw [List.getElem?_replicate, if_pos hi]
      trivial
    have ex3 : Ex X.K ρ1 H1 (ρ1 ++ [a]) (upd (upd H1 dx (.own a)) a (.ins (G.at_ c) dx [])) := (Ex.fresh nd).trans ex2
    refine ⟨ρ1 ++ [a], h1 ++ [.ins c (List.replicate nf none)], .ref h1.length :: ds, rh2, .cons (.ref (by rw [← hr1.len]; exact get_push_eq)) (by rw [List.append_nil]; exact rs.mono ex3), by rw [List.append_nil, List.length_cons, rs.length, evs_len q1, hl], ?_⟩
    cases q2 : fm (.ref h1.length :: ds) (h1 ++ [.ins c (List.replicate nf none)]) with
    | bad => rw [q2] at p; exact p.elim
    | exc c fs h' => rw [q2] at p; exact p.elim
    | ok d h2 =>
      rw [q2] at p
      cases d with
      | non =>
        dsimp only at p
        intro ρ2 H2 v e2 hr2 rv
        cases rv
        have pre : ρ2[h1.length]? = some a := e2.pre _ _ (by rw [← hr1.len]; exact get_push_eq)
        exact ⟨rfl, p ρ2 H2 _ ((e1.trans ex3).trans e2) hr2 (.ref pre)⟩
      | _ => exact p.elim
/-! ### dicts read -/
def opGetD : D → D → Hh → Option (D × Hh)
  | .ref n, y, h => match h[n]? with
    | some (.dK kvs) => (match keyOf y with
      | some k => (valP kvs k).map fun d => (d, h)
      | none => none)
    | _ => none
  | _, _, _ => none
def opInD : D → D → Hh → Option Bool
  | y, .ref n, h => match h[n]? with
    | some (.dK kvs) => (match keyOf y with
      | some k => some (valP kvs k).isSome
      | none => none)
    | _ => none
  | _, _, _ => none
theorem find_rel {κ : Type} [DecidableEq κ] {k : κ} : ∀ {kvs : List (κ × V)} {ds : List (κ × D)}, Paired (fun (p : κ × V) (q : κ × D) => p.1 = q.1 ∧ Rv K ρ H p.2 q.2) kvs ds →
    (∀ d, valP ds k = some d → ∃ v, valV kvs k = some v ∧ Rv K ρ H v d) ∧ (valP ds k = none → valV kvs k = none)
  | _, _, .nil => ⟨fun d e => by simp [valP] at e, fun _ => rfl⟩
  | _, _, .cons (a := p) (b := q) (l₁ := l1) (l₂ := l2) h t => by
    have ih := find_rel (k := k) t
    obtain ⟨h1, h2⟩ := h
    by_cases e : q.1 = k
    · have e' : p.1 = k := h1.trans e
      refine ⟨fun d z => ?_, fun z => ?_⟩
      · simp [valP, List.find?_cons, e] at z
        subst z
        exact ⟨p.2, valV_pos e', h2⟩
      · simp [valP, List.find?_cons, e] at z
    · have e' : ¬ p.1 = k := fun z => e (h1.symm.trans z)
      have s : valP (q :: l2) k = valP l2 k := by simp [valP, List.find?_cons, e]
      rw [s, valV_neg e']
      exact ih
theorem se_getD (hu : X.A.units + 1 < cLine) (ha : PE X o (tM X.K G W mo)) (hb : PE X e (tM X.K G W me)) (hs : NoSl e := by exact fun _ _ => rfl) : PE X (.Subscript o e pos) (tM X.K G W (eB opGetD mo me)) := peImp (pe_dget hu ha hb hs) fun σ H Q t => by
  obtain ⟨ρ, h, env, hr, he, p⟩ := t
  refine tG_mono (tG_bind (rel := relV X.K) hr he p) fun v H1 ⟨ρ1, h1, d, e1, hr1, he1, r1, p1⟩ => ?_
  refine tG_mono (tG_bind (rel := relV X.K) hr1 he1 p1) fun w H2 ⟨ρ2, h2, d2, e2, hr2, he2, r2, p2⟩ => ?_
  obtain ⟨d3, h3, eq, kk⟩ := p2.opt
  unfold opGetD at eq
  split at eq
  · cases r1 with
    | @ref _ a ra =>
      split at eq
      · rename_i kvs e0
        split at eq
        · rename_i ky ek
          rw [Option.map_eq_some_iff] at eq
          obtain ⟨d4, e4, e5⟩ := eq
          cases e5
          have z := hr2.at_ (e2.pre _ _ ra) e0
          cases z with
          | dK q r =>
            obtain ⟨v4, f1, f2⟩ := (find_rel (k := ky) r).1 _ e4
            have hw := rv_keyD (k := ky) (by rw [← keyOf_eq ek]; exact r2)
            subst hw
            refine ⟨a, v4, rfl, ?_, kk _ _ _ Ex.refl hr2 f2⟩
            rw [← f1]
            exact DGet.k q
        · cases eq
      · cases eq
  · cases eq
theorem inD_imp (neg : Bool) {a : Addr} {y : V} {dx dy : D} {kk : Bool} (hr : Rh K G ρ H h) (rx : Rv K ρ H (.ref a) dx) (ry : Rv K ρ H y dy) (e : opInD dy dx h = some kk) : ∃ o, DGet H a y o ∧ o.isSome = kk := by
  unfold opInD at e
  split at e
  · cases rx with
    | ref ra =>
      split at e
      · rename_i kvs e0
        split at e
        · rename_i ky ek
          cases e
          have z := hr.at_ ra e0
          cases z with
          | dK q r =>
            have hw := rv_keyD (k := ky) (by rw [← keyOf_eq ek]; exact ry)
            subst hw
            refine ⟨_, DGet.k q, ?_⟩
            have f := find_rel (k := ky) r
            cases e4 : valP kvs ky with
            | none => rw [f.2 e4]; rfl
            | some d => obtain ⟨v, f1, _⟩ := f.1 d e4; rw [f1]; rfl
        · cases e
      · cases e
  · cases e
def opInDe (x y : D) (h : Hh) : Option (D × Hh) := (opInD x y h).map fun b => (.bl b, h)
def opNinDe (x y : D) (h : Hh) : Option (D × Hh) := (opInD x y h).map fun b => (.bl (!b), h)
theorem opInD_ref {y x : D} {h : Hh} {k : Bool} (e : opInD y x h = some k) : ∃ n, x = .ref n := by
  cases x <;> first | exact ⟨_, rfl⟩ | (simp [opInD] at e)
theorem inD_bin (σ : L2.St) (H : Hp) (Q : VK) (t : tM X.K G W (eB opInDe me mo) σ H Q) : tDIn (tM X.K G W me) (tM X.K G W mo) σ H Q := by
  obtain ⟨ρ, h, env, hr, he, p⟩ := t
  refine tG_mono (tG_bind (rel := relV X.K) hr he p) fun v H1 ⟨ρ1, h1, d, e1, hr1, he1, r1, p1⟩ => ?_
  refine tG_mono (tG_bind (rel := relV X.K) hr1 he1 p1) fun w H2 ⟨ρ2, h2, d2, e2, hr2, he2, r2, p2⟩ => ?_
  obtain ⟨d3, h3, eq, kk⟩ := p2.opt
  unfold opInDe at eq
  rw [Option.map_eq_some_iff] at eq
  obtain ⟨b, e4, e5⟩ := eq
  cases e5
  obtain ⟨n, rfl⟩ := opInD_ref e4
  cases r2 with
  | @ref _ a ra =>
    obtain ⟨o, g, hb⟩ := inD_imp false hr2 (.ref ra) (r1.mono e2) e4
    subst hb
    exact ⟨a, o, rfl, g, kk _ _ _ Ex.refl hr2 (.bl _)⟩
theorem ninD_bin (σ : L2.St) (H : Hp) (Q : VK) (t : tM X.K G W (eB opNinDe me mo) σ H Q) : tDNotIn (tM X.K G W me) (tM X.K G W mo) σ H Q := by
  obtain ⟨ρ, h, env, hr, he, p⟩ := t
  refine tG_mono (tG_bind (rel := relV X.K) hr he p) fun v H1 ⟨ρ1, h1, d, e1, hr1, he1, r1, p1⟩ => ?_
  refine tG_mono (tG_bind (rel := relV X.K) hr1 he1 p1) fun w H2 ⟨ρ2, h2, d2, e2, hr2, he2, r2, p2⟩ => ?_
  obtain ⟨d3, h3, eq, kk⟩ := p2.opt
  unfold opNinDe at eq
  rw [Option.map_eq_some_iff] at eq
  obtain ⟨b, e4, e5⟩ := eq
  cases e5
  obtain ⟨n, rfl⟩ := opInD_ref e4
  cases r2 with
  | @ref _ a ra =>
    obtain ⟨o, g, hb⟩ := inD_imp true hr2 (.ref ra) (r1.mono e2) e4
    subst hb
    exact ⟨a, o, rfl, g, kk _ _ _ Ex.refl hr2 (.bl _)⟩
theorem st_inD (hu : X.A.units + 1 < cLine) (ha : PE X e (tM X.K G W me)) (hb : PE X o (tM X.K G W mo)) (hm : behindInMarks .In o = false := by rfl) : PT X (.Compare e [.In] [o] pos) (tT X.K G W (tBl (eB opInDe me mo))) := ptImp (pt_cmp (pc_din hu ha hb) hm) fun σ H Q t => tB_imp inD_bin σ H Q t
theorem st_ninD (hu : X.A.units + 1 < cLine) (ha : PE X e (tM X.K G W me)) (hb : PE X o (tM X.K G W mo)) (hm : behindInMarks .NotIn o = false := by rfl) : PT X (.Compare e [.NotIn] [o] pos) (tT X.K G W (tBl (eB opNinDe me mo))) := ptImp (pt_cmp (pc_dnotin hu ha hb) hm) fun σ H Q t => tB_imp ninD_bin σ H Q t
end
end Sm
/-! SmSort: sorted(xs, key=f), f a def of the text that leaves the plain heap as it is; the new list is a value. -/
namespace Sm
open PySem L2 PyProof.Rows PySem.W
/-! ### the mirror -/
open Classical in
noncomputable def kysOf (fm : Fm) (h : Hh) : List D → Option (List D)
  | [] => some []
  | d :: ds => match fm [d] h with
    | .ok k h' => if h' = h then (match kysOf fm h ds with
      | some ks => some (k :: ks)
      | none => none) else none
    | _ => none
noncomputable def sortD (ds ks : List D) : List D := ((ds.zip ks).mergeSort (dataLe false fun p : D × D => pyd p.2)).map (·.1)
open Classical in
noncomputable def opSortK (fm : Fm) : D → Hh → Option (D × Hh)
  | .fls ds, h => match kysOf fm h ds with
    | some ks => if AllAlike (ks.map pyd) ∧ Sortable (ks.map pyd) ∧ okDs 60 ks = true then some (.fls (sortD ds ks), h) else none
    | none => none
  | .ref n, h => match h[n]? with
    | some (.lst ds) => match kysOf fm h ds with
      | some ks => if AllAlike (ks.map pyd) ∧ Sortable (ks.map pyd) ∧ okDs 60 ks = true then some (.fls (sortD ds ks), h) else none
      | none => none
    | _ => none
  | _, _ => none
theorem kysOf_len {fm : Fm} {h : Hh} : ∀ {ds ks : List D}, kysOf fm h ds = some ks → ks.length = ds.length
  | [], ks, e => by cases e; rfl
  | d :: ds, ks, e => by
    unfold kysOf at e
    split at e
    · split at e
      · split at e
        · cases e
          rename_i e2
          simp [kysOf_len e2]
        · cases e
      · cases e
    · cases e
theorem kysOf_at {fm : Fm} {h : Hh} : ∀ {ds ks : List D} {i : Nat} {d k : D}, kysOf fm h ds = some ks → ds[i]? = some d → ks[i]? = some k → fm [d] h = .ok k h
  | [], _, i, d, k, e, e1, _ => by simp at e1
  | d' :: ds, ks, i, d, k, e, e1, e2 => by
    unfold kysOf at e
    split at e
    · split at e
      · split at e
        · cases e
          rename_i k' h' q0 q1 _ ks' q2
          subst q1
          cases i with
          | zero =>
            simp at e1 e2
            subst e1 e2
            exact q0
          | succ i => exact kysOf_at q2 (by simpa using e1) (by simpa using e2)
        · cases e
      · cases e
    · cases e
/-! ### the walk of the keys -/
section
variable {X : Cx} {pins : List (Addr × Obj)} {σ : L2.St} {G : Cl} {ρ : List Addr} {H : Hp} {h : Hh} {s : Shared}
theorem okD_depth {d : D} {k : Nat} (e : okD k d = true) : (pyd d).depth ≤ k := (depth_ok k d e).1
/-- the values read as their data -/
theorem reads_pyd {H' : Hp} {ρ' : List Addr} (I : Inv X pins σ H' s) (hr : Rh X.K G ρ' H' h) : ∀ {ks : List D} {kvs : List V} {us : List Value}, Rvs X.K ρ' H' kvs ks → Vals kvs us → okDs 60 ks = true →
    EachIs (fun v k => ∃ as, Reads s.heap v k as) us (ks.map pyd)
  | [], _, _, r, v, _ => by
    cases r
    cases v
    exact .nil
  | k :: ks, _, _, r, v, o => by
    cases r with
    | cons r1 r2 =>
      cases v with
      | cons v1 v2 =>
        simp only [okDs, Bool.and_eq_true] at o
        exact .cons (Dp.reads I _ _ _ (toP_dp hr 60 k _ _ r1 (toP_ok h 60 60 k (Nat.le_refl _) o.1)) v1) (reads_pyd I hr r2 v2 o.2)
theorem each_zip {α β : Type} {R : α → β → Prop} {γ : Type} : ∀ {as : List α} {bs : List β} {cs : List γ}, EachIs R as bs → cs.length = bs.length → EachIs (fun a (p : β × γ) => R a p.1) as (bs.zip cs)
  | _, _, [], .nil, _ => .nil
  | _, _, c :: cs, .nil, e => by simp at e
  | _, _, [], .cons _ _, e => by simp at e
  | _, _, c :: cs, .cons h t, e => .cons h (each_zip t (by simpa using e))
theorem each_rv {K : PySem.W.Frag} : ∀ {xs : List V} {us : List Value} {ds : List D}, Vals xs us → Rvs K ρ H xs ds → EachIs (fun u d => ∃ x, RelV x u ∧ Rv K ρ H x d) us ds
  | _, _, _, .nil, r => by
    cases r
    exact .nil
  | _, _, _, .cons v1 v2, r => by
    cases r with
    | cons r1 r2 => exact .cons ⟨_, v1, r1⟩ (each_rv v2 r2)
theorem rv_each {K : PySem.W.Frag} : ∀ {us : List Value} {ds : List D}, EachIs (fun u d => ∃ x, RelV x u ∧ Rv K ρ H x d) us ds → ∃ xs, Vals xs us ∧ Rvs K ρ H xs ds
  | _, _, .nil => ⟨[], .nil, .nil⟩
  | _, _, .cons ⟨x, a, b⟩ t => by
    obtain ⟨xs, h1, h2⟩ := rv_each t
    exact ⟨x :: xs, .cons a h1, .cons b h2⟩
theorem zip_fst {α β : Type} : ∀ {as : List α} {bs : List β}, bs.length = as.length → (as.zip bs).map (·.2) = bs
  | [], [], _ => rfl
  | [], _ :: _, e => by simp at e
  | _ :: _, [], e => by simp at e
  | a :: as, b :: bs, e => by simp [zip_fst (as := as) (bs := bs) (by simpa using e)]
theorem val_at : ∀ {xs : List V} {us : List Value} {i : Nat} {u : Value}, Vals xs us → us[i]? = some u → ∃ x, xs[i]? = some x ∧ RelV x u
  | _, _, _, _, .nil, e => by simp at e
  | _, _, 0, _, .cons h _, e => by
    simp at e
    subst e
    exact ⟨_, rfl, h⟩
  | _, _, i + 1, _, .cons _ t, e => by
    obtain ⟨x, h1, h2⟩ := val_at (i := i) t (by simpa using e)
    exact ⟨x, by simpa using h1, h2⟩
theorem each_fst {α β γ : Type} {R : α → β → Prop} : ∀ {as : List α} {bs : List (β × γ)}, EachIs (fun a p => R a p.1) as bs → EachIs R as (bs.map (·.1))
  | _, _, .nil => .nil
  | _, _, .cons h t => .cons h (each_fst t)
/-- a record of ours becomes a tracked list -/
theorem Inv.born {h' : Heap} {t' : Nat} {ch : List Addr} {a : Addr} {xs : List V} {its : List Value} {c : Nat} (I : Inv X pins σ H s) (k : ∀ b o, b ∉ ch → s.heap.get? b = some o → h'.get? b = some o) (hf : ∀ b ∈ ch, FpOk X pins H b) (ha : a ∈ ch)
    (hx : Vals xs its) (hz : xs.length ≤ sizeLine) (e : h'.get? a = some (seqObj "list" its.toArray c)) : Inv X pins σ (upd H a (.lst xs)) { s with heap := h', toks := t' } := by
  have hn : H a = none := (hf a ha).1
  have nit : ∀ b u, H b = some u → b ∉ ch := fun b u e z => by
    have q := (hf b z).1
    rw [q] at e; cases e
  refine I.step (g' := s.gens) (d' := s.drawn) (ch := ch) (fun b hb => ⟨(hf b hb).2.2.2.1, (hf b hb).2.1, (hf b hb).2.2.2.2.1, (hf b hb).2.2.2.2.2⟩) (fun b o _ _ hc e _ => k b o hc e) (fun b o _ _ hc e _ => ⟨o.slots, k b o hc e⟩)
    (fun b o hc e n => ?_) (fun b o hc e => ⟨o, k b o hc e⟩) (fun b xs e => ?_) (fun b o u e => ?_) (fun b ps e => ⟨#[], ?_⟩) (fun m hm => ?_) (fun b u e' => ?_) I.bare
  · rw [upd_ne (fun z => hc (by rw [z]; exact ha))]; exact n
  · rw [upd_ne (ne_of_none e hn)]; exact e
  · rw [upd_ne (ne_of_none e hn)]; exact e
  · rw [upd_ne (ne_of_none e hn), e]; simp
  · obtain ⟨o, es, ep, ho, r⟩ := hm
    exact ⟨o, es, ep, k _ o (fun z => (hf _ z).2.1 rfl) ho, r⟩
  · by_cases hb : b = a
    · subst hb
      rw [upd_same] at e'
      cases e'
      exact ⟨hz, its, c, hx, e⟩
    · rw [upd_ne hb] at e'
      refine (I.hok b u e').stay (fun d v hc q => k d v ?_ q) (fun d q => by rw [upd_ne (ne_of_none q hn)]; exact q) fun d xs q => by rw [upd_ne (ne_of_none q hn)]; exact q
      rcases hc with z | z
      · rw [z]; exact nit b u e'
      · exact nit d _ z

/-- sorted(l, key=f) with f a def of the text -/
theorem sortK_run {k j : Nat} {ps1 : List Str} {fm : Fm} {f : Addr} {fd : FuncData} {l : Addr} {xs : List V} {ds ks : List D} {E : Value → Shared → Prop} {Q : VK} (hr : Room k X.A) (hj : j + 1 ≤ k) (hb : Binds X.K fd ps1 []) (F : FnOk X.prog X.w X.K X.mg X.base (L2N.CX X.prog X.w) j f fd ps1 (spM X.K G ps1.length fm)) (hp1 : ps1.length = 1)
    (I : Inv X pins σ H s) (hs : SqL X.K H l xs) (rh : Rh X.K G ρ H h) (rs : Rvs X.K ρ H xs ds) (ek : kysOf fm h ds = some ks) (hal : AllAlike (ks.map pyd)) (hsk : Sortable (ks.map pyd)) (hok : okDs 60 ks = true)
    (q : ∀ ρ' H' v, Ex X.K ρ H ρ' H' → Rh X.K G ρ' H' h → Rv X.K ρ' H' v (.fls (sortD ds ks)) → Q v H') :
    wpAny (model X.prog X.w) X.A (call (.builtin "sorted") [.ref l] [(Str.ofString "key", .ref f)]) (EP X pins σ Q) E s := by
  obtain ⟨vs, rv, hl, hz⟩ := I.list hs
  have hZ : vs.length ≤ sizeLine := by rw [← rv.length]; exact hz
  have lk : ks.length = ds.length := kysOf_len ek
  have lv : vs.length = ds.length := by rw [← rv.length, rs.length]
  refine sorted_of_sort hl.isList hZ (ksk_s1 _ _) (fun x => ksk_l1 _ _) fun E' => ?_
  rw [ksk_t1]
  obtain ⟨a, ea⟩ : ∃ a, a = s.heap.objs.size + 1 := ⟨_, rfl⟩
  rw [← ea]
  have ho : (copyHeap s.heap vs).get? a = some (seqObj "list" vs.toArray 0) := by rw [ea]; exact copyHeap_at s.heap vs
  obtain ⟨e1, ho1⟩ : ∃ e1, ((copyHeap s.heap vs).update a (Obj.mapSeq fun _ => (#[] : Array Value))).get? a = some (seqObj "list" #[] e1) := ⟨_, get?_update_seq ho fun _ => #[]⟩
  have na0 : ∀ b o, s.heap.get? b = some o → b ≠ a := fun b o e => by
    rw [ea]
    exact Nat.ne_of_lt (Nat.lt_succ_of_lt (Heap.lt_size e))
  have haS : a < (copyHeap s.heap vs).objs.size := Heap.lt_size ho
  obtain ⟨kS, ekS⟩ : ∃ kS, kS = (((copyHeap s.heap vs).update a (Obj.mapSeq fun _ => (#[] : Array Value))).push (seqObj "tuple" vs.toArray 0)).objs.size := ⟨_, rfl⟩
  have hkS : kS = (copyHeap s.heap vs).objs.size + 1 := by rw [ekS, size_push', Heap.size_update]
  have hka : kS ≠ a := by rw [hkS]; exact Nat.ne_of_gt (Nat.lt_succ_of_lt haS)
  unfold ksk_tree
  refine wpAny_bind (listItems_at ho rfl ?_)
  refine wpAny_bind (listUpdate_at ho rfl ?_ (by rw [List.size_toArray]; exact hZ) (Nat.zero_le _))
  refine wpAny_bind (seqEpoch_at ho1 rfl ?_)
  refine wpAny_bind (wpAny_newTuple ?_ (by show vs.length ≤ _; exact hZ))
  refine wpAny_bind (wpAny_newList ?_ (Nat.zero_le _))
  refine wpAny_holding ?_
  obtain ⟨hS, ehS⟩ : ∃ hS, hS = (((copyHeap s.heap vs).update a (Obj.mapSeq fun _ => (#[] : Array Value))).push (seqObj "tuple" vs.toArray 0)).push (seqObj "list" #[] 0) := ⟨_, rfl⟩
  show wpAny _ _ (ksk_rest a (.ref f) false vs.toArray e1 (.ref (((copyHeap s.heap vs).update a (Obj.mapSeq fun _ => (#[] : Array Value))).push (seqObj "tuple" vs.toArray 0)).objs.size)) _ _ { s with heap := (((copyHeap s.heap vs).update a (Obj.mapSeq fun _ => (#[] : Array Value))).push (seqObj "tuple" vs.toArray 0)).push (seqObj "list" #[] 0) }
  rw [← ekS, ← ehS]
  have nkS : hS.get? kS = some (seqObj "list" #[] 0) := by rw [ehS, ekS]; exact Heap.get?_push_size _ rfl
  have naS : hS.get? a = some (seqObj "list" #[] e1) := by rw [ehS]; exact Heap.get?_push_of_some _ (Heap.get?_push_of_some _ ho1)
  have oldS : ∀ b o, s.heap.get? b = some o → hS.get? b = some o := fun b o e => by
    rw [ehS]
    exact sortingHeap_old (na0 b o e) (copyHeap_old e)
  have hkz : s.heap.objs.size ≤ kS := by rw [hkS]; omega
  have IS : Inv X pins σ H { s with heap := hS } := I.turnedL (ch := []) (t' := s.toks) (fun b o _ e => oldS b o e) (fun b z => absurd z (by simp))
  have fpk : FpOk X pins H kS := I.fpOk hkz (I.hok.fresh hkz)
  have fpa : FpOk X pins H a := I.fpOk (by rw [ea]; omega) (I.hok.fresh (by rw [ea]; omega))
  have fp' : ∀ {b : Addr} {H' : Hp}, FpOk X pins H b → H' b = none → FpOk X pins H' b := fun p n => ⟨n, p.2⟩
  unfold ksk_rest
  refine wpAny_bind (wpAny_rule ?_)
  first
    | rw [List.forIn_toArray]
    | (rw [← Array.forIn_toList]; simp only [List.toList_toArray])
    | rw [← Array.forIn_toList]
  refine wpAny_bind (ksk_fold (fun i s' => ∃ ρ' H' kA e kvs, Inv X pins σ H' s' ∧ Ex X.K ρ H ρ' H' ∧ Rh X.K G ρ' H' h ∧ s'.heap.get? kS = some (seqObj "list" kA e) ∧ s'.heap.get? a = some (seqObj "list" #[] e1) ∧
      H' kS = none ∧ H' a = none ∧ Vals kvs kA.toList ∧ Rvs X.K ρ' H' kvs (ks.take i)) vs 0 _
    ⟨ρ, H, #[], 0, [], IS, Ex.refl, rh, nkS, naS, fpk.1, fpa.1, .nil, by rw [List.take_zero]; exact .nil⟩ ?step ?done)
  case step =>
    rintro i u s' hu ⟨ρ', H', kA, e, kvs, I', ex, rh', nk, na, fk, fa, vk, rk⟩
    simp only [Nat.zero_add] at rk ⊢
    have hi : i < vs.length := (List.getElem?_eq_some_iff.mp hu).1
    obtain ⟨x, hx, rx⟩ := val_at rv hu
    obtain ⟨d, hd, rd⟩ := rs.getV hx
    obtain ⟨kd, hkd⟩ : ∃ kd, ks[i]? = some kd := ⟨_, List.getElem?_eq_getElem (by omega)⟩
    have fk0 := kysOf_at ek hd hkd
    have hsz : kA.size ≤ vs.length := by
      have h1 := vk.length
      rw [rk.length, List.length_take] at h1
      rw [← Array.length_toList, ← h1]
      omega
    have room : Room j X.A.in1.in1 := by
      have h1 := hr.mono hj
      exact ⟨h1.hd, by have := h1.dp; show X.A.depth + 3 * j + 5 < _; omega, by have := h1.un; show X.A.units + 1 + 1 + 16 * j + 200 < _; omega⟩
    have rvd : Rv X.K ρ' H' x d := rd.mono ex
    refine wpAny_bind (wpAny_attempt (wpAny_call (codeAny_mono (F.run X.A.in1.in1 X.stack s' H' ⟨[u], []⟩ [u] [x] (fun v1 H1 => ∃ ρ1, Ex X.K ρ' H' ρ1 H1 ∧ Rh X.K G ρ1 H1 h ∧ Rv X.K ρ1 H1 v1 kd) (fun _ _ _ => False) room I'.env0.in1.in1
      (by have := hb s' [u] I'.kIn (by rw [hp1]; rfl); simpa using this) (.cons rx .nil)
      ⟨ρ', h, [d], rh', .cons rvd .nil, by rw [hp1]; rfl, by rw [fk0]; exact fun ρ1 H1 v1 e2 r2 w2 => ⟨ρ1, e2, r2, w2⟩⟩) fun r s1 hq => ?_)))
    cases r with
    | error er =>
      obtain ⟨_, _, _, _, _, _, _, _, _, _, _, _, hF⟩ := hq
      exact hF.elim
    | ok fl =>
      cases fl with
      | next => exact False.elim hq
      | brk => exact False.elim hq
      | cont => exact False.elim hq
      | ret u1 =>
        obtain ⟨v1, H1, os1, bare1, un1, hok1, r1, ρ1, ex1, rh1, rv1⟩ := hq
        have I1 : Inv X pins σ H1 s1 := I'.call' (ch := []) os1 un1 hok1 bare1 (fun b z => absurd z (by simp))
        have stk : ∀ {b : Addr}, FpOk X pins H b → b ∉ frs X.stack := fun {b} p z => (List.mem_cons.mp (I'.stkSub b z)).elim p.2.1 p.2.2.1
        have nk1 : s1.heap.get? kS = some (seqObj "list" kA e) := un1.keep kS _ nk fk (stk fpk) (by simp)
        have na1 : s1.heap.get? a = some (seqObj "list" #[] e1) := un1.keep a _ na fa (stk fpa) (by simp)
        have fk1 : H1 kS = none := un1.free kS _ nk fk (by simp)
        have fa1 : H1 a = none := un1.free a _ na fa (by simp)
        obtain ⟨c2, hc2⟩ : ∃ c2, (s1.heap.update kS (Obj.mapSeq (·.push u1))).get? kS = some (seqObj "list" (kA.push u1) c2) := ⟨_, get?_update_seq nk1 (·.push u1)⟩
        have sb := Heap.SameBut.update s1.heap kS (Obj.mapSeq (·.push u1))
        dsimp only
        refine wpAny_bind (listUpdate_at nk1 rfl ?_ (Nat.le_trans hsz hZ) (Nat.le_trans (Nat.le_of_eq (Array.size_push ..)) (Nat.succ_le_succ (Nat.le_trans hsz hZ))))
        refine wpAny_pure ⟨rfl, ρ1, H1, kA.push u1, c2, kvs ++ [v1], ?_, ex.trans ex1, rh1, hc2, (sb.2 a hka.symm).trans na1, fk1, fa1, ?_, ?_⟩
        · exact I1.turnedL (ch := [kS]) (t' := s1.toks) (fun b o hb e => (sb.2 b (by simpa using hb)).trans e) (fun b z => by
            have : b = kS := by simpa using z
            rw [this]
            exact fp' fpk fk1)
        · rw [Array.toList_push]
          exact vk.append (.cons r1 .nil)
        · rw [List.take_add_one, hkd]
          exact (rk.mono ex1).append (.cons rv1 .nil)
  case done =>
    rintro s' ⟨ρ', H', kA, e, kvs, I', ex, rh', nk, na, fk, fa, vk, rk⟩
    have e3 : ks.take (0 + vs.length) = ks := List.take_of_length_le (by omega)
    rw [e3] at rk
    have hsz : kA.size = vs.length := by
      have h1 := vk.length
      rw [rk.length, lk, ← lv] at h1
      rw [← Array.length_toList]
      exact h1.symm
    refine wpAny_bind (listItems_at nk rfl ?_)
    have hk' := reads_pyd I' rh' rk vk hok
    have hu : ∀ d, d ∈ ks.map pyd → X.A.in1.in1.units + d.depth < cLine := fun d hd => by
      obtain ⟨kd, hm, rfl⟩ := List.mem_map.mp hd
      have h1 := okD_depth (okDs_mem hok hm)
      have h2 := hr.units
      show X.A.units + 1 + 1 + _ < _
      have h3 := hr.un
      omega
    obtain ⟨h₁, g1, g2⟩ := L2.restrict s'.heap fun b => decide (b ≠ kS)
    have kp : KeepsBut a h₁ s'.heap := fun b o _ q => by
      by_cases z : b = kS
      · rw [g2 b (by simpa using z)] at q; cases q
      · rw [g1 b (by simpa using z)] at q; exact q
    refine keyH_end (κ := dataKind s'.heap (ks.map pyd)) (h₁ := h₁) kp (g2 kS (by simp)) nk na hka (SortsAt.data hk' hal hsk hu) hsz hZ fun h3 tk3 c k3 n3 => ⟨rfl, ?_⟩
    have ko : KeyedOut false (ks.map pyd) vs (sortVals (dataKind s'.heap (ks.map pyd)) false kA.toList vs) := ⟨s'.heap, kA.toList, hal, rfl, hk'⟩
    have ez : (ds.zip ks).map (fun p : D × D => pyd p.2) = ks.map pyd := by
      have := zip_fst (as := ds) (bs := ks) lk
      rw [← this, List.map_map]
      simp [this]
    rw [← ez] at ko
    have eo := keyedOut_each (fun p : D × D => pyd p.2) ko (each_zip (each_rv rv (rs.mono ex)) lk)
    rw [ez] at eo
    obtain ⟨outv, ov, orv⟩ := rv_each (K := X.K) (ρ := ρ') (H := H') (ds := sortD ds ks) (us := sortVals (dataKind s'.heap (ks.map pyd)) false kA.toList vs) (each_fst eo)
    have ol : outv.length ≤ sizeLine := by
      rw [ov.length, sortVals_length false (by rw [Array.length_toList]; exact hsz)]
      exact hZ
    have I3 : Inv X pins σ (upd H' a (.lst outv)) { s' with heap := h3, toks := tk3 } := Inv.born (ch := [a, kS]) (c := c) I' (fun b o hb q => by
        simp only [List.mem_cons, List.not_mem_nil, or_false, not_or] at hb
        exact k3 b o hb.1 ((g1 b (by simpa using hb.2)).trans q)) (fun b hb => by
        simp only [List.mem_cons, List.not_mem_nil, or_false] at hb
        rcases hb with rfl | rfl
        · exact fp' fpa fa
        · exact fp' fpk fk) (by simp) ov ol n3
    obtain ⟨od, I4⟩ := I3.lock (upd_same) trivial
    have e4 : upd (upd H' a (.lst outv)) a (.frz od (.lst outv)) = upd H' a (.frz od (.lst outv)) := by
      funext b
      by_cases q : b = a
      · rw [q, upd_same, upd_same]
      · rw [upd_ne q, upd_ne q, upd_ne q]
    rw [e4] at I4
    exact ⟨.ref a, _, I4, rfl, q ρ' _ _ (ex.trans (Ex.fresh fa)) (rh'.aux fa) (.fls (.inl ⟨od, upd_same⟩) (orv.mono (Ex.fresh fa)))⟩
end
section
variable {X : Cx} {G : Cl} {W : WX} {e : Expr} {pos p p2 kp : Pos} {me : M} {k j : Nat} {kf : Str} {fm : Fm} {ps1 : List Str}
def rSortK (X : Cx) (G : Cl) (W : WX) (fm : Fm) (f : Addr) : List V → List V → Hp → VK → Prop := fun vs zs H Q => ∃ ρ h l xs ds ks, vs = [.ref l] ∧ zs = [.ref f] ∧ SqL X.K H l xs ∧ Rh X.K G ρ H h ∧ Rvs X.K ρ H xs ds ∧ kysOf fm h ds = some ks ∧ AllAlike (ks.map pyd) ∧ Sortable (ks.map pyd) ∧ okDs 60 ks = true ∧
  ∀ ρ' H' v, Ex X.K ρ H ρ' H' → Rh X.K G ρ' H' h → Rv X.K ρ' H' v (.fls (sortD ds ks)) → Q v H'
theorem call_sortK {f : Addr} {fd : FuncData} (hr : Room k X.A) (hj : j + 1 ≤ k) (hb : Binds X.K fd ps1 []) (F : FnOk X.prog X.w X.K X.mg X.base (L2N.CX X.prog X.w) j f fd ps1 (spM X.K G ps1.length fm)) (hp1 : ps1.length = 1) :
    CallRK X (.builtin "sorted") [Str.ofString "key"] (rSortK X G W fm f) := by
  intro pins s σ H xs zs us ws Q I rx rz h
  obtain ⟨ρ, h, l, vs, ds, ks, rfl, rfl, hs, rh, rs, ek, hal, hsk, hok, q⟩ := h
  cases rx with
  | cons r1 r2 =>
    cases r2
    cases r1
    cases rz with
    | cons z1 z2 =>
      cases z2
      cases z1
      exact sortK_run hr hj hb F hp1 I hs rh rs ek hal hsk hok q
open Classical in
/-- sorted(e, key=kf) -/
theorem se_sortK (ct : Ct X W k) (F : Ok X.prog X.w X.K X.mg X.base G j kf ps1 fm) (hj : j + 1 ≤ k) (hp1 : ps1.length = 1) (hg : Gl X "sorted") (hm : X.mg "sorted" = none) (hgk : Gl X kf) (he : PE X e (tM X.K G W me)) (hdb : (kf == ("__debug__" : Str)) = false := by decide)
    (he1 : backTo pos (starEach [e] X.env) = (false, eval e X.env) :: backTo pos (starEach [] X.env) := by rfl) (hpl : (backTo pos (starEach [e] X.env)).any (·.1) = false := by rfl)
    (hall : (backToKw pos (keywordEach [⟨some "key", .Name kf p2, kp⟩] X.env)).all (·.1.isSome) = true := by rfl) (hnone : (backToKw pos (keywordEach [⟨some "key", .Name kf p2, kp⟩] X.env)).any (·.1.isNone) = false := by rfl)
    (hks : (backToKw pos (keywordEach [⟨some "key", .Name kf p2, kp⟩] X.env)).filterMap (·.1) = [Str.ofString "key"] := by rfl) (hs1 : starEach [e] X.env = (false, eval e X.env) :: starEach [] X.env := by rfl) :
    PE X (.Call (.Name "sorted" p) [e] [⟨some "key", .Name kf p2, kp⟩] pos) (tM X.K G W (eU (opSortK fm) me)) := by
  obtain ⟨f, fd, hmf, hkf, hb, F⟩ := F
  refine peImp (pe_callBK (call_sortK (W := W) ct.hr hj hb F hp1) hg hm bt_sorted (pa_cons he pa_nil hs1) (pk_cons (pe_glob hgk hmf (v := .ref f) rfl hdb) pk_nil) (by decide) (by decide) he1 hpl hall hnone hks) fun σ H Q t => ?_
  obtain ⟨ρ, h, env, hr, he, p⟩ := t
  refine tG_mono (tG_bind (rel := relV X.K) hr he p) fun v H1 ⟨ρ1, h1, d, e1, hr1, he1, r1, p1⟩ => ?_
  obtain ⟨d2, h2, eq, kk⟩ := p1.opt
  have fin : ∀ {l : Addr} {xs : List V} {ds : List D}, SqL X.K H1 l xs → Rvs X.K ρ1 H1 xs ds → (match kysOf fm h1 ds with
      | some ks => if AllAlike (ks.map pyd) ∧ Sortable (ks.map pyd) ∧ okDs 60 ks = true then some (.fls (sortD ds ks), h1) else none
      | none => none) = some (d2, h2) → rSortK X G W fm f [.ref l] [.ref f] H1 Q := by
    intro l xs ds hs rs e0
    split at e0
    · rename_i ks ek
      split at e0
      · rename_i hc
        cases e0
        exact ⟨ρ1, h1, l, xs, ds, ks, rfl, rfl, hs, hr1, rs, ek, hc.1, hc.2.1, hc.2.2, fun ρ' H' v a b c => kk _ _ _ a b c⟩
      · cases e0
    · cases e0
  unfold opSortK at eq
  split at eq
  · cases r1 with
    | fls t r => exact fin t.sq r eq
  · cases r1 with
    | ref ra =>
      split at eq
      · rename_i e0
        obtain ⟨vs, q, r⟩ := ref_seq hr1 ra e0
        exact fin q r eq
      · cases eq
  · cases eq
end
end Sm
/-! SmOrd: <, <=, >, >= of any alike data (tuples of numbers, texts, tuples); a statement leaves nothing new behind; tuples of the module's top. -/
namespace Sm
open PySem L2 PyProof.Rows PySem.W
section
variable {K : PySem.W.Frag} {G : Cl} {ρ : List Addr} {H : Hp} {h : Hh} {X : Cx} {W : WX} {ma mb : M} {a b : Expr} {pos : Pos}
/-- the two data can be ordered -/
def ordOk (x y : D) : Prop := okD 60 x = true ∧ okD 60 y = true ∧ alike (pyd x) (pyd y) = true ∧ pyd x ≠ .none
open Classical in
noncomputable def opLtD (x y : D) (h : Hh) : Option (D × Hh) := if ordOk x y then some (.bl (dataLt (pyd x) (pyd y)), h) else none
open Classical in
noncomputable def opGtD (x y : D) (h : Hh) : Option (D × Hh) := if ordOk x y then some (.bl (dataLt (pyd y) (pyd x)), h) else none
open Classical in
noncomputable def opLeD (x y : D) (h : Hh) : Option (D × Hh) := if ordOk x y then some (.bl (!dataLt (pyd y) (pyd x)), h) else none
open Classical in
noncomputable def opGeD (x y : D) (h : Hh) : Option (D × Hh) := if ordOk x y then some (.bl (!dataLt (pyd x) (pyd y)), h) else none
/-- the one reading, or else the other -/
def orOp (f g : D → D → Hh → Option (D × Hh)) (x y : D) (h : Hh) : Option (D × Hh) := match f x y h with
  | some r => some r
  | none => g x y h
noncomputable abbrev opLtX := orOp opLt opLtD
noncomputable abbrev opLeX := orOp opLe opLeD
noncomputable abbrev opGtX := orOp opGt opGtD
noncomputable abbrev opGeX := orOp opGe opGeD
def rDD (K : PySem.W.Frag) (f : PyData → PyData → Bool) : R2 := fun x y H Q => ∃ d e, Dp K H x d ∧ Dp K H y e ∧ alike d e = true ∧ d ≠ .none ∧ d.depth ≤ 60 ∧ Q (.bl (f d e)) H
theorem op_ltD (hu : X.A.units + 64 < cLine) : OpR X (compareOp .Lt) (rDD X.K dataLt) := by
  intro pins s σ H x y v u Q I rx ry h
  obtain ⟨d, e, hd, he, sa, sn, sd, q⟩ := h
  obtain ⟨as, r1⟩ := Dp.reads I d x v hd rx
  obtain ⟨bs, r2⟩ := Dp.reads I e y u he ry
  exact lt_data r1 r2 sa sn (by omega) ⟨.bl _, H, I, rfl, q⟩
theorem op_gtD (hu : X.A.units + 64 < cLine) : OpR X (compareOp .Gt) (rDD X.K fun d e => dataLt e d) := by
  intro pins s σ H x y v u Q I rx ry h
  obtain ⟨d, e, hd, he, sa, sn, sd, q⟩ := h
  obtain ⟨as, r1⟩ := Dp.reads I d x v hd rx
  obtain ⟨bs, r2⟩ := Dp.reads I e y u he ry
  exact gt_data r1 r2 sa sn (by omega) ⟨.bl _, H, I, rfl, q⟩
theorem op_leD (hu : X.A.units + 64 < cLine) : OpR X (compareOp .LtE) (rDD X.K fun d e => !dataLt e d) := by
  intro pins s σ H x y v u Q I rx ry h
  obtain ⟨d, e, hd, he, sa, sn, sd, q⟩ := h
  obtain ⟨as, r1⟩ := Dp.reads I d x v hd rx
  obtain ⟨bs, r2⟩ := Dp.reads I e y u he ry
  exact le_data r1 r2 sa sn (by omega) ⟨.bl _, H, I, rfl, q⟩
theorem op_geD (hu : X.A.units + 64 < cLine) : OpR X (compareOp .GtE) (rDD X.K fun d e => !dataLt d e) := by
  intro pins s σ H x y v u Q I rx ry h
  obtain ⟨d, e, hd, he, sa, sn, sd, q⟩ := h
  obtain ⟨as, r1⟩ := Dp.reads I d x v hd rx
  obtain ⟨bs, r2⟩ := Dp.reads I e y u he ry
  exact ge_data r1 r2 sa sn (by omega) ⟨.bl _, H, I, rfl, q⟩
theorem im_dd {f : PyData → PyData → Bool} {x y : V} {dx dy d : D} {h' : Hh} {Q : VK} (hr : Rh K G ρ H h) (rx : Rv K ρ H x dx) (ry : Rv K ρ H y dy) (o : ordOk dx dy) (k : ∀ ρ' H' v, Ex K ρ H ρ' H' → Rh K G ρ' H' h → Rv K ρ' H' v (.bl (f (pyd dx) (pyd dy))) → Q v H') : rDD K f x y H Q :=
  ⟨pyd dx, pyd dy, toP_dp hr 60 _ _ _ rx (toP_ok h 60 60 _ (Nat.le_refl _) o.1), toP_dp hr 60 _ _ _ ry (toP_ok h 60 60 _ (Nat.le_refl _) o.2.1), o.2.2.1, o.2.2.2, (depth_ok 60 _ o.1).1, k _ _ _ Ex.refl hr (.bl _)⟩
theorem im_ltD : Imp2 K G (rDD K dataLt) opLtD := fun {ρ H h x y dx dy d h' Q} hr rx ry e k => by
  unfold opLtD at e
  split at e
  · cases e; exact im_dd (d := .non) (h' := h) hr rx ry ‹_› k
  · cases e
theorem im_gtD : Imp2 K G (rDD K fun d e => dataLt e d) opGtD := fun {ρ H h x y dx dy d h' Q} hr rx ry e k => by
  unfold opGtD at e
  split at e
  · cases e; exact im_dd (d := .non) (h' := h) hr rx ry ‹_› k
  · cases e
theorem im_leD : Imp2 K G (rDD K fun d e => !dataLt e d) opLeD := fun {ρ H h x y dx dy d h' Q} hr rx ry e k => by
  unfold opLeD at e
  split at e
  · cases e; exact im_dd (d := .non) (h' := h) hr rx ry ‹_› k
  · cases e
theorem im_geD : Imp2 K G (rDD K fun d e => !dataLt d e) opGeD := fun {ρ H h x y dx dy d h' Q} hr rx ry e k => by
  unfold opGeD at e
  split at e
  · cases e; exact im_dd (d := .non) (h' := h) hr rx ry ‹_› k
  · cases e
theorem im_orOp {r r' : R2} {f g : D → D → Hh → Option (D × Hh)} (i : Imp2 K G r f) (j : Imp2 K G r' g) : Imp2 K G (fun x y H Q => r x y H Q ∨ r' x y H Q) (orOp f g) := fun {ρ H h x y dx dy d h' Q} hr rx ry e k => by
  unfold orOp at e
  split at e
  · rename_i q
    cases e
    exact .inl (i hr rx ry q k)
  · exact .inr (j hr rx ry e k)
theorem se_ltX (hu : X.A.units + 64 < cLine) (ha : PE X a (tM X.K G W ma)) (hb : PE X b (tM X.K G W mb)) : PE X (.Compare a [.Lt] [b] pos) (tM X.K G W (eB opLtX ma mb)) := se_cmp ((op_ltAll (by omega)).or (op_ltD hu)) (im_orOp im_lt im_ltD) ha hb (nomark _)
theorem se_leX (hu : X.A.units + 64 < cLine) (ha : PE X a (tM X.K G W ma)) (hb : PE X b (tM X.K G W mb)) : PE X (.Compare a [.LtE] [b] pos) (tM X.K G W (eB opLeX ma mb)) := se_cmp (op_le.or (op_leD hu)) (im_orOp im_le im_leD) ha hb (nomark _)
theorem se_gtX (hu : X.A.units + 64 < cLine) (ha : PE X a (tM X.K G W ma)) (hb : PE X b (tM X.K G W mb)) : PE X (.Compare a [.Gt] [b] pos) (tM X.K G W (eB opGtX ma mb)) := se_cmp (op_gt.or (op_gtD hu)) (im_orOp im_gt im_gtD) ha hb (nomark _)
theorem se_geX (hu : X.A.units + 64 < cLine) (ha : PE X a (tM X.K G W ma)) (hb : PE X b (tM X.K G W mb)) : PE X (.Compare a [.GtE] [b] pos) (tM X.K G W (eB opGeX ma mb)) := se_cmp (op_ge.or (op_geD hu)) (im_orOp im_ge im_geD) ha hb (nomark _)
theorem st_ltX (hu : X.A.units + 64 < cLine) (ha : PE X a (tM X.K G W ma)) (hb : PE X b (tM X.K G W mb)) : PT X (.Compare a [.Lt] [b] pos) (tT X.K G W (tBl (eB opLtX ma mb))) := st_cmp ((op_ltAll (by omega)).or (op_ltD hu)) (im_orOp im_lt im_ltD) ha hb (nomark _)
theorem st_leX (hu : X.A.units + 64 < cLine) (ha : PE X a (tM X.K G W ma)) (hb : PE X b (tM X.K G W mb)) : PT X (.Compare a [.LtE] [b] pos) (tT X.K G W (tBl (eB opLeX ma mb))) := st_cmp (op_le.or (op_leD hu)) (im_orOp im_le im_leD) ha hb (nomark _)
theorem st_gtX (hu : X.A.units + 64 < cLine) (ha : PE X a (tM X.K G W ma)) (hb : PE X b (tM X.K G W mb)) : PT X (.Compare a [.Gt] [b] pos) (tT X.K G W (tBl (eB opGtX ma mb))) := st_cmp (op_gt.or (op_gtD hu)) (im_orOp im_gt im_gtD) ha hb (nomark _)
theorem st_geX (hu : X.A.units + 64 < cLine) (ha : PE X a (tM X.K G W ma)) (hb : PE X b (tM X.K G W mb)) : PT X (.Compare a [.GtE] [b] pos) (tT X.K G W (tBl (eB opGeX ma mb))) := st_cmp (op_ge.or (op_geD hu)) (im_orOp im_ge im_geD) ha hb (nomark _)
@[simp] theorem opLtX_int (i j : Int) (h : Hh) : opLtX (.int i) (.int j) h = some (.bl (decide (i < j)), h) := rfl
@[simp] theorem opLeX_int (i j : Int) (h : Hh) : opLeX (.int i) (.int j) h = some (.bl (decide (i ≤ j)), h) := rfl
@[simp] theorem opGtX_int (i j : Int) (h : Hh) : opGtX (.int i) (.int j) h = some (.bl (decide (j < i)), h) := rfl
@[simp] theorem opGeX_int (i j : Int) (h : Hh) : opGeX (.int i) (.int j) h = some (.bl (decide (j ≤ i)), h) := rfl
/-! ### a statement leaves nothing new behind -/
open Classical in
noncomputable def trS (h : Hh) (r : SR) : SR := match r with
  | .nx env h1 => if (∀ d, some d ∈ env → lo h.length d = true) ∧ Kq h.length h (h1.take h.length) then .nx env (h1.take h.length) else .nx env h1
  | r => r
noncomputable def sTr (s : S) : S := fun env h => trS h (s env h)
theorem s_tr {st : Stmt} {s : S} (hs : PS X st (tS X.K G W s)) : PS X st (tS X.K G W (sTr s)) := psImp hs fun D0 σ H t => by
  obtain ⟨ρ, h, env, hr, he, p⟩ := t
  refine ⟨ρ, h, env, hr, he, ?_⟩
  unfold sTr at p
  cases q : s env h with
  | nx e1 h1 =>
    rw [q] at p
    unfold trS at p
    dsimp only at p
    split at p
    · rename_i hl
      intro ρ' H' σ' e rh re
      have et := e.isTake
      rw [hr.len] at et
      have hp : ∀ (m : Nat) (b : Addr), m < h.length → ρ'[m]? = some b → ρ[m]? = some b := fun m b hm z => by rw [← et, List.getElem?_take, if_pos hm]; exact z
      have r2 := rh.take (n := h.length) (hr.kq (Nat.le_refl _) hl.2)
      rw [et] at r2
      refine p ρ H' σ' e.back r2 ⟨re.len, fun i d z => ?_⟩
      obtain ⟨v, h1, h2⟩ := re.get i d z
      exact ⟨v, h1, h2.cutR hp (hl.1 d (List.mem_of_getElem? z))⟩
    · exact p
  | rt d h1 => rw [q] at p; exact p
  | bk e1 h1 => rw [q] at p; exact p
  | ct e1 h1 => rw [q] at p; exact p
  | exc c fs e1 h1 => rw [q] at p; exact p
  | bad => rw [q] at p; exact p.elim
/-! ### tuples of the module's top -/
/-- the name holds this tuple of texts -/
def TupC (K : PySem.W.Frag) (mg : Str → Option Value) (x : Str) (ts : List Str) : Prop := ∃ a, mg x = some (.ref a) ∧ KT K a (ts.map V.str) ∧ isK (ts.map D.str) = true
theorem rvs_strs (ts : List Str) : Rvs K ρ H (ts.map V.str) (ts.map D.str) := by
  induction ts with
  | nil => exact .nil
  | cons t ts ih => exact .cons (.str t) ih
theorem se_globT {x : Str} {p : Pos} {ts : List Str} (hg : Gl X x) (g : TupC X.K X.mg x ts) (hdb : (x == ("__debug__" : Str)) = false := by decide) : PE X (.Name x p) (tM X.K G W (eC (.tup (ts.map D.str)))) := by
  obtain ⟨a, hm, kt, hk⟩ := g
  refine peImp (pe_glob hg hm (v := .ref a) rfl hdb) fun σ H Q t => ?_
  obtain ⟨ρ, h, env, hr, he, p⟩ := t
  exact p ρ H (.ref a) Ex.refl hr (.ktp kt hk (rvs_strs ts))
theorem tupC_mk {mg : Str → Option Value} {x : Str} {ts : List Str} {a : Addr} {o : Obj} {its : Array Value} {n : Nat} (hm : mg x = some (.ref a)) (hl : K.lookup a = some o) (hc : o.cls = .type "tuple") (hd : o.data = .seq its n) (hz : its.size ≤ sizeLine) (hv : Vals (ts.map V.str) its.toList) (hk : isK (ts.map D.str) = true) : TupC K mg x ts :=
  ⟨a, hm, ⟨o, its, n, hl, hc, hd, hz, hv⟩, hk⟩
end
/-! ### name = [..], the list a value at once -/
def FN (nx : L2.St → Hp → Prop) : L2.St → Hp → Prop := fun σ1 H1 => nx σ1 H1 ∨ ∃ d xs, H1 d = some (.lst xs) ∧ ∀ od, nx σ1 (upd H1 d (.frz od (.lst xs)))
theorem ps_frz {X : Cx} {st : Stmt} {t : TS} (hs : PS X st t) : PS X st (fun D σ H => t { D with nx := FN D.nx } σ H) := by
  refine ⟨fun pins s σ H D I h => ?_⟩
  refine thn (hs.run pins s σ H _ I h) fun f s1 q => ?_
  cases f with
  | next =>
    obtain ⟨σ1, H1, I1, q1⟩ := q
    rcases q1 with q1 | ⟨d, xs, hd, q1⟩
    · exact ⟨σ1, H1, I1, q1⟩
    · obtain ⟨od, I2⟩ := I1.lock hd trivial
      exact ⟨σ1, _, I2, q1 od⟩
  | brk => exact q
  | cont => exact q
  | ret u => exact q
section
variable {X : Cx} {G : Cl} {W : WX} {elt tg iter : Expr} {ifs : List Expr} {pos : Pos} {m : M} {t : MT}
theorem s_setLcF {i : Nat} {y : Str} {py spos : Pos} {scope : Scope} {own : List (Str × Nat)} {wi : TI} {mi : Ev → Hh → R Src} {g : TG} {s : TgM} {tt : TT} (hc : X.calm = true) (hN : X.N.Nodup)
    (hsw : swapsWith (.ListComp elt [⟨tg, iter, ifs, 0⟩] scope pos) (some (.Name y py)) spos.line X.env = pure true) (hi : PI X tg iter wi) (oi : ItOk X.K G W wi mi) (bk : BlkOk X.N X.env.scope scope own)
    (hg : ∀ (s : Shared) (H : Hp) (C : Addr) (cl : List (Str × Addr)) (fp : List Addr), PG (X.blk s H scope (compEnvC scope cl C X.env) fp) tg g) (ok : TgOkW X.K G (own.map (·.2)) g s)
    (ht : ∀ (s : Shared) (H : Hp) (C : Addr) (cl : List (Str × Addr)) (fp : List Addr), PTs (X.blk s H scope (compEnvC scope cl C X.env) fp) ifs tt) (htt : ∀ σ H Q, tT X.K G WN t σ H Q → tt σ H Q)
    (he : ∀ (s : Shared) (H : Hp) (C : Addr) (cl : List (Str × Addr)) (fp : List Addr), PE (X.blk s H scope (compEnvC scope cl C X.env) fp) elt (tM X.K G WN m)) (hs : ∀ x, foldedSetIterable iter X.env x = pure x := by intro _; rfl)
    (hy : X.N[i]? = some y := by rfl) (hyl : X.env.scope.names.lookup y = some .local := by rfl) :
    PS X (.Assign [.Name y py] (.ListComp elt [⟨tg, iter, ifs, 0⟩] scope pos) spos) (tS X.K G W (sSet i (eFz (eLc mi s t m (own.map (·.2)))))) :=
  psImp (ps_frz (ps_setLc hc hN hy hyl hsw hi bk hg ht he hs)) fun D0 σ H q => by
    obtain ⟨ρ, h, env, hr, he, p⟩ := q
    have q1 := tS_bind (rel := relV X.K) hr he p
    have q2 : tG X.K G (relV X.K) W (eFz (eLc mi s t m (own.map (·.2)))) σ H _ := q1
    obtain ⟨ρ0, h0, env0, hr0, he0, p0⟩ := q2
    have q3 : tG X.K G (relV X.K) W (eLc mi s t m (own.map (·.2))) σ H _ := ⟨ρ0, h0, env0, hr0, he0, Po.fz hr0 p0⟩
    refine lc_sound oi ok htt (fun _ _ _ z => z) σ H _ (tG_mono q3 fun x H1 q => ?_)
    rcases q with ⟨ρ1, h1, d, e1, hr1, he1, r1, p1⟩ | ⟨a, xs, rfl, hd, q⟩
    · exact .inl (p1.nx_ hr1 (he1.set r1 i))
    · refine .inr ⟨a, xs, hd, fun od => ?_⟩
      obtain ⟨ρ1, h1, d, e1, hr1, he1, r1, p1⟩ := q od
      exact p1.nx_ hr1 (he1.set r1 i)
end
end Sm
/-! SmRev: a[::-1] of a tuple too. -/
namespace SmRevH
open PySem PyProof.Rows HT PySem.W
section
variable {prog : Program} {w : World} {A : Around} {E : Value → Shared → Prop} {s : Shared}
theorem back_places (n : Nat) : Builtin.Slice.slicePlaces ((n : Int) - 1) (-1) (-1) = n := by
  unfold Builtin.Slice.slicePlaces
  rw [if_neg (by omega)]
  by_cases h : n = 0
  · subst h; decide
  · rw [if_pos (by omega)]
    have : -(-1 : Int) = 1 := rfl
    rw [this, Int.ediv_one]
    omega
theorem back_applied {sl : Addr} {vl vu vs : Value} {n : Nat} {Q : Int × Int × Nat → Shared → Prop} (hs : s.heap.IsSliceOf sl vl vu vs) (pl : IsPart vl none) (pu : IsPart vu none) (ps : IsPart vs (some (-1)))
    (h : Q ((n : Int) - 1, -1, n) s) : wpAny (model prog w) A (Builtin.Slice.sliceApplied (.ref sl) (pure (n : Int))) Q E s := by
  obtain ⟨os, hos, hcs, hds⟩ := id hs
  unfold Builtin.Slice.sliceApplied Builtin.Slice.sliceFields
  refine wpAny_bind (wpAny_bind (wpAny_field hos hds (x := vl) rfl (wpAny_bind (wpAny_field hos hds (x := vu) rfl (wpAny_bind (wpAny_field hos hds (x := vs) rfl (wpAny_pure ?_)))))))
  refine wpAny_bind (slicePart_ ps ?_)
  show wpAny _ _ (if ((-1 : Int) == 0) = true then _ else _) _ _ s
  rw [if_neg (by decide)]
  refine wpAny_bind (slicePart_ pl (wpAny_bind (slicePart_ pu (wpAny_bind (wpAny_pure ?_)))))
  show wpAny _ _ (match Builtin.Slice.sliceAdjust none none (-1) (n : Int) with | (lo, hi) => pure (lo, (-1 : Int), Builtin.Slice.slicePlaces lo hi (-1))) _ _ s
  have e : Builtin.Slice.sliceAdjust none none (-1) (n : Int) = ((n : Int) - 1, -1) := rfl
  rw [e]
  show wpAny _ _ (pure ((n : Int) - 1, (-1 : Int), Builtin.Slice.slicePlaces ((n : Int) - 1) (-1) (-1))) _ _ s
  rw [back_places]
  exact wpAny_pure h
theorem back_pick (xs : Array Value) : ((List.range xs.size).filterMap fun (m : Nat) => xs[(((xs.size : Int) - 1) + (m : Int) * (-1)).toNat]?).toArray = xs.toList.reverse.toArray := by
  congr 1
  apply List.ext_getElem?
  intro i
  have e : (List.range xs.size).filterMap (fun (m : Nat) => xs[(((xs.size : Int) - 1) + (m : Int) * (-1)).toNat]?) = (List.range xs.size).filterMap (fun (m : Nat) => xs.toList.reverse[m]?) := by
    have fc : ∀ {l : List Nat} {f g : Nat → Option Value}, (∀ x ∈ l, f x = g x) → l.filterMap f = l.filterMap g := by
      intro l f g hh
      induction l with
      | nil => rfl
      | cons a l ih => rw [List.filterMap_cons, List.filterMap_cons, hh a (by simp), ih fun x hx => hh x (by simp [hx])]
    apply fc
    intro m hm
    have hm' : m < xs.size := List.mem_range.mp hm
    rw [List.getElem?_reverse (by simpa using hm'), Array.getElem?_toList, Array.length_toList]
    congr 1
    omega
  rw [e]
  have := krv_all xs.toList.reverse.toArray
  simp at this
  rw [this]
theorem getItem_tuple_back {t sl : Addr} {items : Array Value} {vl vu vs : Value} {Q : Value → Shared → Prop} (ht : IsTup s.heap t items) (hs : s.heap.IsSliceOf sl vl vu vs) (pl : IsPart vl none) (pu : IsPart vu none) (ps : IsPart vs (some (-1)))
    (h : Q (.ref s.heap.objs.size) { s with heap := s.heap.push { cls := .type "tuple", data := .seq items.toList.reverse.toArray } })
    (hsz : items.size ≤ sizeLine) : wpAny (model prog w) A (getItem (.ref t) (.ref sl)) Q E s := by
  have htake : sizeOk (.seq items.toList.reverse.toArray) := by
    show items.toList.reverse.toArray.size ≤ sizeLine
    rw [List.size_toArray, List.length_reverse, Array.length_toList]
    exact hsz
  obtain ⟨os, hos, hcs, hds⟩ := id hs
  have hTs : s.TypeIs (.ref sl) "slice" := ⟨os, hos, hcs⟩
  unfold getItem
  try with_reducible refine wpAny_holding ?_
  first | refine wpAny_bind (wpAny_pure ?_) | skip
  refine wpAny_bind (wpAny_sequenceKey ht.typeIs (by decide) ?_)
  refine wpAny_bind (wpAny_callSpecial?_slot (name := Str.ofString "__getitem__") ht.typeIs PyProof.Rows.slot_tuple_getitem
    (wpAny_call_entry PyProof.Rows.slot_tuple_getitem ht.typeIs entry_tuple_getitem ?_ (args_tuple_getitem _ _)))
  show wpAny _ _ (Builtin.Tuple.tupleItemsOf (.ref t) >>= _) _ _ s
  refine wpAny_bind (tupleItemsOf_ ht ?_)
  refine wpAny_bind (wpAny_typeOf hTs ?_)
  rw [if_pos (by decide)]
  refine wpAny_bind (back_applied hs pl pu ps ?_)
  have hno : ¬ ((((items.size : Int) - 1) == 0 && (-1 : Int) == 1 && items.size == items.size) = true) := by
    intro q
    rw [Bool.and_eq_true, Bool.and_eq_true] at q
    exact absurd q.1.2 (by decide)
  show wpAny _ _ (if (((items.size : Int) - 1) == 0 && (-1 : Int) == 1 && items.size == items.size) = true then _ else _) _ _ s
  rw [if_neg hno, back_pick]
  first
    | exact wpAny_bind (m := Builtin.Tuple.tupleExact _) (wpAny_newObj_type (wpAny_pure ⟨_, rfl, wpAny_pure h⟩) htake)
    | exact wpAny_bind (m := Builtin.Tuple.tupleExact _) (wpAny_newObj_type (wpAny_bind (wpAny_pure (wpAny_pure ⟨_, rfl, wpAny_pure h⟩))) htake)
    | exact wpAny_bind (wpAny_bind (m := Builtin.Tuple.tupleExact _) (wpAny_newObj_type (wpAny_pure (wpAny_pure ⟨_, rfl, wpAny_pure h⟩)) htake))
    | exact wpAny_bind (wpAny_bind (m := Builtin.Tuple.tupleExact _) (wpAny_newObj_type (wpAny_pure ⟨_, rfl, wpAny_pure h⟩) htake))
end
end SmRevH
namespace Sm
open PySem L2 PyProof.Rows
section
variable {X : Cx} {G : Cl} {W : WX} {e : Expr} {pos p1 p2 p3 : Pos} {m : M} {K : PySem.W.Frag}
def tRevT (K : PySem.W.Frag) (te : TE) : TE := fun σ H Q => te σ H fun x H1 => ∃ a xs, x = .ref a ∧ SqT K H1 a xs ∧ ∀ p, H1 p = none → Q (.ref p) (upd H1 p (.tup xs.reverse))
theorem pe_revT {te : TE} {k : Nat} (he : PE X e te) : PE X (.Subscript e (.Slice none none (some (.UnaryOp .USub (.Constant (.int 1) k p1) p2)) p3) pos) (tRevT X.K te) := by
  refine ⟨fun pins s σ H Q I h => ?_⟩
  refine Subscript_ (thn (he.run pins s σ H _ I h) fun v s1 ⟨x, H1, I1, r1, q1⟩ => ?_)
  obtain ⟨a, xs, ex, hx, q⟩ := q1
  subst ex
  cases r1
  have hst : PO X (some (.UnaryOp .USub (.Constant (.int 1) k p1) p2)) (tPart (tUn (rU fun i => .int (-i)) (tC (.int 1)))) := po_some (pe_un un_neg pe_int)
  refine wpAny_Slice (thn (po_none.run pins s1 σ H1 (fun o H2 => o = none ∧ H2 = H1) I1 ⟨rfl, rfl⟩) fun vl s2 ⟨l, H2, I2, pl, el, e2⟩ => ?_)
  subst el e2
  refine thn (po_none.run pins s2 σ H2 (fun o H3 => o = none ∧ H3 = H2) I2 ⟨rfl, rfl⟩) fun vu s3 ⟨u, H3, I3, pu, eu, e3⟩ => ?_
  subst eu e3
  refine thn (hst.run pins s3 σ H3 (fun o H4 => o = some (-1) ∧ H4 = H3) I3 ⟨1, rfl, -1, rfl, rfl, rfl⟩) fun vs s4 ⟨o, H4, I4, ps, eo, e4⟩ => ?_
  subst eo e4
  have I5 : L2.Inv X pins σ H4 { s4 with heap := s4.heap.push { cls := .type "slice", data := .fields #[vl, vu, vs] } } := I4.kept (t' := s4.toks) fun b ob q => Heap.get?_push_of_some _ q
  obtain ⟨its, r, ht, hz⟩ := I5.tuple hx
  have hlen := r.length
  show wpAny (model X.prog X.w) X.A (subscriptTail e (.Slice none none (some (.UnaryOp .USub (.Constant (.int 1) k p1) p2)) p3) (.ref a) (.ref s4.heap.objs.size)) (EP X pins σ Q) X.xe { s4 with heap := s4.heap.push { cls := .type "slice", data := .fields #[vl, vu, vs] } }
  refine tail_any (ops := [.ref a, .ref s4.heap.objs.size]) ht.typeIs (PyProof.Rows.slot_tuple_getitem.lookup) ?_ (by with_unfolding_all rfl)
  refine SmRevH.getItem_tuple_back ht (Heap.IsSliceOf.new _ vl vu vs) pl pu ps ?_ (by rw [List.size_toArray]; omega)
  refine ⟨.ref _, _, I5.laid (t' := s4.toks) (o := .tup xs.reverse) (fun b ob q => Heap.get?_push_of_some _ q) (Nat.le_refl _) ?_, rfl, q _ (I5.hok.fresh (Nat.le_refl _))⟩
  exact ⟨by rw [List.length_reverse]; exact hz, _, r.reverse, ⟨_, Heap.get?_push_size _ rfl, rfl, _, rfl⟩⟩
/-- a[::-1], a list or a tuple -/
def opRevT : D → Hh → Option (D × Hh)
  | .tup ds, h => some (.tup ds.reverse, h)
  | _, _ => none
def opRevX (d : D) (h : Hh) : Option (D × Hh) := match d with
  | .tup ds => some (.tup ds.reverse, h)
  | d => opRevF d h
theorem se_revT {k : Nat} (ha : PE X e (tM X.K G W m)) : PE X (.Subscript e (.Slice none none (some (.UnaryOp .USub (.Constant (.int 1) k p1) p2)) p3) pos) (tM X.K G W (eU opRevT m)) := peImp (pe_revT ha) fun σ H Q t => by
  obtain ⟨ρ, h, env, hr, he, p⟩ := t
  refine tG_mono (tG_bind (rel := relV X.K) hr he p) fun v H1 ⟨ρ1, h1, d, e1, hr1, he1, r1, p1⟩ => ?_
  obtain ⟨d2, h2, eq, kk⟩ := p1.opt
  unfold opRevT at eq
  split at eq
  · cases eq
    obtain ⟨a, vs, rfl, t, r⟩ := r1.sqT
    exact ⟨a, vs, rfl, t, fun p n => kk ρ1 _ _ (Ex.fresh n) (hr1.aux n) (.tup upd_same (r.reverse.mono (Ex.fresh n)))⟩
  · cases eq
theorem se_revX {k : Nat} (ha : PE X e (tM X.K G W m)) : PE X (.Subscript e (.Slice none none (some (.UnaryOp .USub (.Constant (.int 1) k p1) p2)) p3) pos) (tM X.K G W (eU opRevX m)) := se_alt (se_revT ha) (se_revF ha) fun env h => by
  unfold eU
  cases q : m env h with
  | bad => exact .inl rfl
  | exc c fs h' => exact .inl rfl
  | ok d h1 =>
    simp only [R.bind_ok]
    cases d with
    | tup ds => exact .inl rfl
    | _ => exact .inr rfl
@[simp] theorem opRevX_t (ds : List D) (h : Hh) : opRevX (.tup ds) h = some (.tup ds.reverse, h) := rfl
@[simp] theorem opRevX_f (ds : List D) (h : Hh) : opRevX (.fls ds) h = some (.fls ds.reverse, h) := rfl
end
end Sm
/-! SmNm: running lemmas for SmIn, SmOrd; labels and names as data. -/
namespace Sm
open PySem L2 PyProof.Rows
section
variable (env : Ev) (h g : Hh) (f : D → D → Hh → Option (D × Hh)) (m mo me mv a b : M) (d e : D) (ds xs ys : List D) (ms : List M) (i j k n c nf : Nat) (s1 : S) (o o1 o2 : O) (x y : Str) (fm : Fm)
-- fields
@[simp] theorem opFld_r : opFld c k (.ref n) h = match h[n]? with
    | some (.ins c' fs) => if c' = c then (match fs[k]? with
      | some (some d) => some (d, h)
      | _ => none) else none
    | _ => none := rfl
def sFld1 (env : Ev) (r : R D) : SR := bindS r env fun v h1 => bindS (mo env h1) env fun o h2 => match o with
  | .ref n => (match h2[n]? with
    | some (.ins c' fs) => if c' = c then .nx env (h2.set n (.ins c (fs.set k (some v)))) else .bad
    | _ => .bad)
  | _ => .bad
def sFld2 (env : Ev) (v : D) (r : R D) : SR := bindS r env fun o h2 => match o with
  | .ref n => (match h2[n]? with
    | some (.ins c' fs) => if c' = c then .nx env (h2.set n (.ins c (fs.set k (some v)))) else .bad
    | _ => .bad)
  | _ => .bad
@[simp] theorem sFld_eq : sFld c k mo mv env h = sFld1 mo k c env (mv env h) := rfl
@[simp] theorem sFld1_ok : sFld1 mo k c env (.ok d h) = sFld2 k c env d (mo env h) := rfl
@[simp] theorem sFld2_r : sFld2 k c env d (.ok (.ref n) h) = match h[n]? with
    | some (.ins c' fs) => if c' = c then .nx env (h.set n (.ins c (fs.set k (some d)))) else .bad
    | _ => .bad := rfl
-- methods
@[simp] theorem noX_ok : noX (.ok d h) = .ok d h := rfl
def eMeth1 (env : Ev) (r : R D) : R D := r.bind fun o h1 => match o with
  | .ref n => (match h1[n]? with
    | some (.ins c' _) => if c' = c then (evs ms env h1).bind fun ds h2 => noX (fm (.ref n :: ds) h2) else .bad
    | _ => .bad)
  | _ => .bad
def eMeth2 (n : Nat) (r : R (List D)) : R D := r.bind fun ds h2 => noX (fm (.ref n :: ds) h2)
@[simp] theorem eMeth_eq : eMeth c fm mo ms env h = eMeth1 ms c fm env (mo env h) := rfl
@[simp] theorem eMeth1_r : eMeth1 ms c fm env (.ok (.ref n) h) = match h[n]? with
    | some (.ins c' _) => if c' = c then eMeth2 fm n (evs ms env h) else .bad
    | _ => .bad := rfl
@[simp] theorem eMeth2_ok : eMeth2 fm n (.ok ds h) = noX (fm (.ref n :: ds) h) := rfl
def eMake1 (r : R (List D)) : R D := r.bind fun ds h1 => match fm (.ref h1.length :: ds) (h1 ++ [.ins c (List.replicate nf none)]) with
  | .ok .non h2 => .ok (.ref h1.length) h2
  | _ => .bad
@[simp] theorem eMake_eq : eMake c nf fm ms env h = eMake1 c nf fm (evs ms env h) := rfl
@[simp] theorem eMake1_ok : eMake1 c nf fm (.ok ds h) = match fm (.ref h.length :: ds) (h ++ [.ins c (List.replicate nf none)]) with
  | .ok .non h2 => .ok (.ref h.length) h2
  | _ => .bad := rfl
-- dicts
@[simp] theorem opGetD_i (p : Int) : opGetD (.ref n) (.int p) h = match h[n]? with
    | some (.dK kvs) => (valP kvs (.inl p)).map fun d => (d, h)
    | _ => none := rfl
@[simp] theorem opGetD_s : opGetD (.ref n) (.str x) h = match h[n]? with
    | some (.dK kvs) => (valP kvs (.inr x)).map fun d => (d, h)
    | _ => none := rfl
@[simp] theorem opInDe_i (p : Int) : opInDe (.int p) (.ref n) h = match h[n]? with
    | some (.dK kvs) => some (.bl (valP kvs (.inl p)).isSome, h)
    | _ => none := by
  unfold opInDe opInD
  cases e : h[n]? with
  | none => simp [e]
  | some o => cases o <;> simp [e]
@[simp] theorem opNinDe_i (p : Int) : opNinDe (.int p) (.ref n) h = match h[n]? with
    | some (.dK kvs) => some (.bl (!(valP kvs (.inl p)).isSome), h)
    | _ => none := by
  unfold opNinDe opInD
  cases e : h[n]? with
  | none => simp [e]
  | some o => cases o <;> simp [e]
-- a statement cut
theorem sTr_eq : sTr s1 env h = trS h (s1 env h) := rfl
theorem trS_rt : trS h (.rt d g) = .rt d g := rfl
end
/-! ### labels, names -/
def LET : Str := "abcdefghijklmnopqrstuvwxyz0123456789-"
def isLet (c : Nat) : Bool := inS c LET
theorem isLet_iff (c : Nat) : inS c "abcdefghijklmnopqrstuvwxyz0123456789-" = isLet c := rfl
theorem l_nil : ("" : Str) = tx [] := rfl
theorem l_dot : ("." : Str) = tx [46] := by decide +kernel
theorem l_star : ("*" : Str) = tx [42] := by decide +kernel
theorem l_dash : ("-" : Str) = tx [45] := by decide +kernel
def lD (l : List Nat) : D := .str (tx l)
def labs (ls : List (List Nat)) : D := .tup (ls.map lD)
def labL (l : List Nat) : Bool := !l.isEmpty && decide (l.length ≤ 12) && l.all isLet && decide (l.head? ≠ some 45) && decide (l.getLast? ≠ some 45)
def labD : D → Bool
  | .str x => labL x.cps.toList
  | _ => false
def namD : D → Bool
  | .tup ds => decide (ds.length ≤ 6) && ds.all labD
  | _ => false
theorem labD_lD (l : List Nat) : labD (lD l) = labL l := by simp [labD, lD]
theorem namD_labs (ls : List (List Nat)) : namD (labs ls) = (decide (ls.length ≤ 6) && ls.all labL) := by
  have : (labD ∘ lD) = labL := by funext l; exact labD_lD l
  simp [namD, labs, List.all_map, this]
theorem let_small {c : Nat} (h : isLet c = true) : c < 128 := by
  have : LET.cps.toList.all (· < 128) = true := by decide +kernel
  unfold isLet inS at h
  have h1 := List.all_eq_true.mp this c (by simpa using h)
  simpa using h1
theorem lab_all {l : List Nat} (h : labL l = true) : ∀ c ∈ l, isLet c = true := by
  simp only [labL, Bool.and_eq_true] at h
  exact fun c hc => List.all_eq_true.mp h.1.1.2 c hc
theorem lab_len {l : List Nat} (h : labL l = true) : l.length ≤ 12 ∧ l ≠ [] := by
  simp [labL] at h
  exact ⟨h.1.1.1.2, h.1.1.1.1⟩
theorem tm_lab {l : List Nat} (h : labL l = true) : tm 1 (lD l) = true := tm_mkS (fun c hc => let_small (lab_all h c hc)) (by have := (lab_len h).1; omega)
theorem tm_labs {ls : List (List Nat)} (hl : ls.length ≤ 6) (hk : ∀ l ∈ ls, labL l = true) : tm 2 (labs ls) = true := by
  refine tm_mkT (fun d hd => ?_) (by simp; omega)
  rw [List.mem_map] at hd
  obtain ⟨l, hl', rfl⟩ := hd
  exact tm_lab (hk l hl')
theorem sig_len : ("abcdefghijklmnopqrstuvwxyz0123456789-" : Str).length = 37 := by decide +kernel
theorem sig_at {i : Nat} (h : i < 37) : ∃ c, ("abcdefghijklmnopqrstuvwxyz0123456789-" : Str).cps.toList[i]? = some c ∧ isLet c = true ∧ (i < 36 → c ≠ 45) := by
  have h1 : LET.cps.toList.length = 37 := by decide +kernel
  have h2 : ∀ i, i < 36 → LET.cps.toList[i]? ≠ some 45 := by
    intro i hi hc
    have h3 : (LET.cps.toList.take 36).all (· ≠ 45) = true := by decide +kernel
    have h4 : (LET.cps.toList.take 36)[i]? = some 45 := by rw [List.getElem?_take, if_pos hi]; exact hc
    have := List.all_eq_true.mp h3 45 (List.mem_of_getElem? h4)
    simp at this
  have hi : i < LET.cps.toList.length := by omega
  refine ⟨LET.cps.toList[i], List.getElem?_eq_getElem hi, ?_, fun z e => h2 i z (by rw [List.getElem?_eq_getElem hi, e])⟩
  unfold isLet inS
  simp
theorem eqds_labs (xs ys : List (List Nat)) : eqd (labs xs) (labs ys) = decide (xs = ys) := by
  unfold labs lD
  simp only [eqd]
  exact eqds_strs xs ys
/-- a comprehension with a test, not frozen -/
theorem lc_pfM {α : Type} {i : Nat} {t : MT} {m : M} {env : Ev} {h : Hh} (p : α → Bool) (e f : α → D) (xs : List α) (ht : ∀ x ∈ xs, ∀ acc, t ((env.set i none).set i (some (e x))) (h ++ [.lst acc]) = .ok (p x) (h ++ [.lst acc])) (hm : ∀ x ∈ xs, p x = true → ∀ acc, m ((env.set i none).set i (some (e x))) (h ++ [.lst acc]) = .ok (f x) (h ++ [.lst acc])) (hl : xs.length ≤ sizeLine) :
    lcL (gtName i) t m [i] h.length none env (xs.map e) (h ++ [.lst []]) = .ok (.ref h.length) (h ++ [.lst ((xs.filter p).map f)]) := by
  have key : ∀ (xs : List α) (acc : List D), (∀ x ∈ xs, ∀ acc, t ((env.set i none).set i (some (e x))) (h ++ [.lst acc]) = .ok (p x) (h ++ [.lst acc])) → (∀ x ∈ xs, p x = true → ∀ acc, m ((env.set i none).set i (some (e x))) (h ++ [.lst acc]) = .ok (f x) (h ++ [.lst acc])) → acc.length + xs.length ≤ sizeLine →
      lcL (gtName i) t m [i] h.length none env (xs.map e) (h ++ [.lst acc]) = .ok (.ref h.length) (h ++ [.lst (acc ++ (xs.filter p).map f)]) := by
    intro xs
    induction xs with
    | nil =>
      intro acc _ _ _
      unfold lcL
      simp [gdOk]
    | cons x xs ih =>
      intro acc ht hm hl
      rw [List.length_cons] at hl
      rw [List.map_cons]
      unfold lcL
      rw [if_pos (show gdOk none (h ++ [.lst acc]) from trivial)]
      simp only [gtName_eq, wipeE]
      rw [ht x (by simp) acc]
      cases hp : p x with
      | true =>
        dsimp only
        rw [hm x (by simp) hp acc]
        simp only [hp_at1, hp_set1]
        rw [if_pos (by omega), ih _ (fun y hy => ht y (by simp [hy])) (fun y hy => hm y (by simp [hy])) (by simp; omega)]
        simp [hp]
      | false =>
        dsimp only
        rw [ih _ (fun y hy => ht y (by simp [hy])) (fun y hy => hm y (by simp [hy])) (by omega)]
        simp [hp]
  simpa using key xs [] ht hm (by simpa using hl)
/-- a statement cut back to the heap's old length -/
theorem trS_cut {h h1 g : Hh} {env : Ev} (hl : h1.length = h.length) (he : ∀ d, some d ∈ env → lo h.length d = true) (hk : Kq h.length h h1) : trS h (.nx env (h1 ++ g)) = .nx env h1 := by
  unfold trS
  dsimp only
  have : (h1 ++ g).take h.length = h1 := by rw [← hl, List.take_left]
  rw [this, if_pos ⟨he, hk⟩]
theorem Kq_set {h : Hh} {n k : Nat} {o : O} (ho : loO n o = true) : Kq n h (h.set k o) := fun i u e => by
  by_cases q : k = i
  · subst q
    by_cases hl : k < h.length
    · rw [List.getElem?_set_self hl] at e
      cases e
      exact .inr ho
    · rw [List.getElem?_eq_none (by rw [List.length_set]; omega)] at e
      cases e
  · rw [List.getElem?_set_ne q] at e
    exact .inl e
end Sm
/-! SmYX: tests of a caught error's fields (==, and); is not True. -/
namespace Sm
open PySem L2 PyProof.Rows
section
variable {X : Cx} {G : Cl} {C : XCt} {a b : Expr} {rest : List Expr} {pos : Pos} {ma mb : List D → M} {K : PySem.W.Frag}
theorem xe_eq (hu : X.A.units + 64 < cLine) (ha : PE X a (tXM X.K G C ma)) (hb : PE X b (tXM X.K G C mb)) : PE X (.Compare a [.Eq] [b] pos) (tXM X.K G C fun fs => eB opEq (ma fs) (mb fs)) :=
  peImp (pe_cmpR (op_eq.or (op_eqD hu)) ha hb (nomark _)) fun σ H Q t => by
    obtain ⟨fs, ρ, h, env, hσ, rx, hr, hE, p⟩ := t
    refine ⟨fs, ρ, h, env, hσ, rx, hr, hE, (Po.bind (rel := relV X.K) hE p).imp fun x H1 ⟨ρ1, h1, d, e1, hr1, he1, r1, p1⟩ => ?_⟩
    refine ⟨fs, ρ1, h1, env, hσ, rx.mono e1, hr1, he1, (Po.bind (rel := relV X.K) he1 p1).imp fun y H2 ⟨ρ2, h2, d2, e2, hr2, he2, r2, p2⟩ => ?_⟩
    obtain ⟨d3, h3, eq, k⟩ := p2.opt
    exact im_eq hr2 (r1.mono e2) r2 eq k
theorem xe_one {op} (ha : PE X a (tXM X.K G C ma)) : PE X (.BoolOp op [a] pos) (tXM X.K G C ma) := pe_one ha
theorem xe_and (ha : PE X a (tXM X.K G C ma)) (hb : PE X (.BoolOp .And (b :: rest) pos) (tXM X.K G C mb)) : PE X (.BoolOp .And (a :: b :: rest) pos) (tXM X.K G C fun fs => eAnd (ma fs) (mb fs)) := peImp (pe_and ha hb) fun σ H Q t => by
  obtain ⟨fs, ρ, h, env, hσ, rx, hr, hE, p⟩ := t
  refine ⟨fs, ρ, h, env, hσ, rx, hr, hE, (Po.bind (rel := relV X.K) hE p).imp fun x H1 ⟨ρ1, h1, d, e1, hr1, he1, r1, p1⟩ => ?_⟩
  cases d with
  | bl k =>
    cases r1
    refine ⟨k, rfl, ?_⟩
    cases k with
    | true => exact ⟨fs, ρ1, h1, env, hσ, rx.mono e1, hr1, he1, p1⟩
    | false => exact p1.ok hr1 (.bl _)
  | _ => exact p1.elim
end
/-! ### is not True -/
def opNotB : D → D → Hh → Option (D × Hh)
  | .bl a, .bl b, h => some (.bl (!decide (a = b)), h)
  | _, _, _ => none
@[simp] theorem opNotB_bb (p q : Bool) (h : Hh) : opNotB (.bl p) (.bl q) h = some (.bl (!decide (p = q)), h) := rfl
section
variable {X : Cx} {G : Cl} {W : WX} {a b : Expr} {pos : Pos} {ma mb : M} {K : PySem.W.Frag}
theorem im_notB : Imp2 K G rNotB opNotB := fun {ρ H h x y dx dy d h' Q} hr rx ry e k => by
  cases rx <;> cases ry <;> simp only [opNotB] at e <;> cases e
  exact ⟨_, _, rfl, rfl, k _ _ _ Ex.refl hr (.bl _)⟩
theorem se_notB (hu : X.A.units + 64 < cLine) (ha : PE X a (tM X.K G W ma)) (hb : PE X b (tM X.K G W mb)) : PE X (.Compare a [.IsNot] [b] pos) (tM X.K G W (eB opNotB ma mb)) := se_cmp op_notBl im_notB ha hb (nomark _)
theorem st_notB (hu : X.A.units + 64 < cLine) (ha : PE X a (tM X.K G W ma)) (hb : PE X b (tM X.K G W mb)) : PT X (.Compare a [.IsNot] [b] pos) (tT X.K G W (tBl (eB opNotB ma mb))) := st_cmp op_notBl im_notB ha hb (nomark _)
end
end Sm
/-! SmTry: try with any number of clauses, each with a name or without one; suites of several statements; a comprehension within a comprehension. -/
namespace Sm
open PySem PySem.Spec L2 PyProof.Rows
/-! ### a comprehension within a comprehension -/
theorem blkOk_in {N : List Str} {sc scope1 scope : Scope} {own : List (Str × Nat)} {env : Env} {cl : List (Str × Addr)} {C : Addr} (he : env.scope = sc) (h : blkC N (relS scope1 sc) scope own = true) : BlkOk N (compEnvC scope1 cl C env).scope scope own := by
  have e : (compEnvC scope1 cl C env).scope = relS scope1 env.scope := rfl
  rw [e, he]
  exact blkOk_by h
/-! ### the clauses -/
abbrev TsX := Addr → Value → Option Addr → TS
/-- a clause: its class, the slot of its name, its suite's reading -/
abbrev ClX := Value × Option Nat × TsX
def endN (io : Option Nat) (D : Ends) : Ends := match io with
  | none => D
  | some i => ⟨fun σ H => D.nx (σ.set i none) H, D.rt, fun σ H => D.bk (σ.set i none) H, fun σ H => D.ct (σ.set i none) H⟩
def slotN (io : Option Nat) (a : Addr) (σ : L2.St) : L2.St := match io with
  | none => σ
  | some i => σ.set i (some (.ref a))
def wCl (K : PySem.W.Frag) (Wo : WX) (D : Ends) : List ClX → WX
  | [] => Wo
  | (c, io, ts) :: r => fun cls d σ H => ∃ b, PySem.W.exmOne K cls c = some b ∧ (b = true → ∀ a, H a = none → ts a cls d (endN io D) (slotN io a σ) H) ∧ (b = false → wCl K Wo D r cls d σ H)
abbrev SuOk (X : Cx) (st : List Stmt) (ts : TsX) : Prop := ∀ (a : Addr) (oe : Obj) (cls : Value) (d : Option Addr) (pn : List (Addr × Obj)), L2N.Zn cls d oe → (∃ vs, oe.data = .fields vs) → PSs (X.suite a ((a, oe) :: pn)) st (ts a cls d)
inductive ClOkX (X : Cx) : List ExceptHandler → List ClX → Prop
  | nil : ClOkX X [] []
  | as_ {x n : Str} {c : Value} {i : Nat} {ts : TsX} {b0 : Stmt} {st : List Stmt} {np ps : Pos} {hs : List ExceptHandler} {l : List ClX} (hi : X.N[i]? = some n) (hl : X.env.kindOf n = some .local) (hc : Names X x c) (su : SuOk X (b0 :: st) ts) (r : ClOkX X hs l) :
      ClOkX X (.ExceptHandler (some (.Name x np)) (some n) (b0 :: st) ps :: hs) ((c, some i, ts) :: l)
  | no {x : Str} {c : Value} {ts : TsX} {b0 : Stmt} {st : List Stmt} {np ps : Pos} {hs : List ExceptHandler} {l : List ClX} (hc : Names X x c) (su : SuOk X (b0 :: st) ts) (r : ClOkX X hs l) :
      ClOkX X (.ExceptHandler (some (.Name x np)) none (b0 :: st) ps :: hs) ((c, none, ts) :: l)
section
variable {X : Cx} {Wo : WX} {body : List Stmt} {tb : WX → TS} {pos : Pos}
theorem ps_clauses {k0 : ExceptHandler} {ks : List ExceptHandler} {l : List ClX} (stk : X.stack = X.env :: X.outer) (frm : X.env.frame = some X.env.locals) (nd : X.N.Nodup) (tk : L2N.Takes X Wo)
    (hb : ∀ (W : WX) (pn : List (Addr × Obj)) (xe : Value → Shared → Prop), L2N.Takes (X.tr pn xe) W → PassesOwn (model X.prog X.w) X.A X.env xe → PSs (X.tr pn xe) body (tb W))
    (hh : ClOkX X (k0 :: ks) l) : PS X (.Try body (k0 :: ks) [] [] pos) (fun D σ H => tb (wCl X.K Wo D l) D σ H) := by
  constructor
  intro pins s σ H D I h
  have iok := I.ok
  have afr : X.A.frames = some (X.env :: X.outer) := iok.frames.trans (by rw [stk])
  refine wpAny_Try_except (wpAny_mono ((hb (wCl X.K Wo D l) (X.pn ++ pins) (fun e z1 => wpAny (model X.prog X.w) X.A (noteFrame e X.env) (fun _ z2 => wpAny (model X.prog X.w) X.A (setFlight e none) (fun _ z3 =>
    wpAny (model X.prog X.w) X.A (handleBy e X.env (k0 :: ks)) (SP X pins D) X.xe z3) X.xe z2) X.xe z1) (fun u y yy => ?caught) PassesOwn.looking).run [] s σ H D (I.toTry _) h) (fun f y ys => ?through) fun _ _ z => z)
  case through =>
    cases f with
    | ret u => exact match ys with | ⟨v, σ', H', J, r, q⟩ => ⟨v, σ', H', J.ofTry iok, r, q⟩
    | brk => exact match ys with | ⟨σ', H', J, q⟩ => ⟨σ', H', J.ofTry iok, q⟩
    | cont => exact match ys with | ⟨σ', H', J, q⟩ => ⟨σ', H', J.ofTry iok, q⟩
    | next => exact match ys with | ⟨σ', H', J, q⟩ => wpAny_execs_nil ⟨σ', H', J.ofTry iok, q⟩
  case caught =>
    obtain ⟨a, B, sI, pins2, σ2, H2, cls, d, rfl, J0, nb, up, sky, na, os, ag, want⟩ := yy
    have Jn : Inv X pins σ2 H2 sI := Inv.ofTry J0 iok
    rw [stk] at sky
    show wpAny (model X.prog X.w) X.A (noteFrame (.ref a) X.env) _ _ _
    refine L2N.Sky.land L2N.Zn.steady afr frm sky fun g1 w1 u1 => ?_
    have J1 : Inv X pins σ2 H2 { y with heap := g1 } := Jn.landed nb w1.1 (up.trans u1) os ag
    obtain ⟨oe, flds, heq, hzc, hdt⟩ := w1.there
    have off : a ∉ frs (X.env :: X.outer) := fun hm => by
      obtain ⟨_, o2, e2, nn⟩ := w1.2.2.1.mem hm
      rw [heq] at e2
      cases e2
      exact nn _ hdt
    have offL : a ≠ X.env.locals := fun z => off (List.mem_filterMap.mpr ⟨X.env, by simp, by rw [frm, z]⟩)
    have offF : a ∉ X.fs := fun hm => by
      obtain ⟨e, he, q⟩ := List.mem_filterMap.mp hm
      exact off (List.mem_filterMap.mpr ⟨e, by simp [he], q⟩)
    have S1 := J1.suite heq hdt na offL offF
    have looks : PySem.W.Looks (model X.prog X.w) g1 (typeOf (.ref a)) cls := fun A Q E z kp q => wpAny_typeOf_ref (kp _ _ heq) (by rw [hzc.1]; exact q)
    have named : ∀ {x : Str} {c : Value} {np : Pos} {Q2 E2 : Value → Shared → Prop}, Names X x c → Q2 c { y with heap := g1 } → wpAny (model X.prog X.w) (X.A.mark (some (.ref a))) (eval (.Name x np) X.env) Q2 E2 { y with heap := g1 } := fun {x c np Q2 E2} nm q2 => by
      obtain ⟨g, dbg, here | ⟨n1, n2, n3⟩⟩ := nm
      · exact ld_glob (X := X.suite a ((a, oe) :: (X.pn ++ pins))) S1 g here q2 dbg
      · exact ld_blt (X := X.suite a ((a, oe) :: (X.pn ++ pins))) S1 g n1 n2 q2 n3 dbg
    have all : ∀ {hs2 : List ExceptHandler} {l2 : List ClX}, ClOkX X hs2 l2 → wCl X.K Wo D l2 cls d σ2 H2 → wpAny (model X.prog X.w) X.A (handleBy (.ref a) X.env hs2) (SP X pins D) X.xe { y with heap := g1 } := by
      intro hs2 l2 hk
      induction hk with
      | nil =>
        intro wn
        obtain ⟨_, _, _, o2, v2, T, oT, tb2, p1, _, p3, p4, _⟩ := id w1
        have last : wpAny (model X.prog X.w) X.A (setFlight (.ref a) X.env.frame) (fun _ z4 => wpAny (model X.prog X.w) X.A (throw (.ref a) : Sem Flow) (SP X pins D) X.xe z4) X.xe { y with heap := g1 } := by
          rw [frm]
          exact HandSPX.setFlight_upZ w1 fun g2 hg2 u2 => wpAny_throw (tk _ _ ⟨a, B, sI, pins, σ2, H2, cls, d, rfl, Jn, nb, (up.trans u1).trans u2, .inr (.inr (by rw [stk]; exact hg2)), na, os, ag, wn⟩)
        refine wpAny_handleBy_nil ?_
        unfold PySem.passOn
        refine wpAny_bind (wpAny_field p1 p3 p4 ?_)
        rw [if_neg (by simp : ¬ ((Value.ref T == Value.none) = true))]
        first
          | exact wpAny_bind last
          | exact wpAny_bind (wpAny_pure (wpAny_bind last))
      | @as_ x n c i ts b0 st np ps hs3 l3 hi hl hc su r ih =>
        rintro ⟨b, t1, yes, no⟩
        refine wpAny_handleBy_cons (codeAny_handlers_test (named hc ((PySem.W.exm_one (M := model X.prog X.w) J1.kIn looks t1).here ?_))) (by intro q; cases q)
        cases b with
        | false => exact ih (no rfl)
        | true =>
          refine codeAny_handlers_suite_as (HandSPX.lands_againZ w1 fun g2 w2 u2 => ?_)
          obtain ⟨oe2, fl2, heq2, hzc2, hdt2⟩ := w2.there
          have S2 := (show Inv X pins σ2 H2 { y with heap := g2 } from Jn.landed nb w2.1 ((up.trans u1).trans u2) os ag).suite heq2 hdt2 na offL offF
          refine store_ok (X := X.suite a ((a, oe2) :: (X.pn ++ pins))) (v := .ref a) S2 nd hi (.inl hl) rfl (fun z5 S5 => ?_) (.inr hl)
          refine wpAny_mono ((su a oe2 cls d (X.pn ++ pins) hzc2 ⟨_, hdt2⟩).run [] z5 _ H2 _ S5 (yes rfl a na)) (fun f z6 ws => ?_) fun _ _ z => z.elim
          have wrap : ∀ {σ6 : L2.St} {H6 : Hp} {Q : Shared → Prop}, Inv (X.suite a ((a, oe2) :: (X.pn ++ pins))) [] σ6 H6 z6 → (∀ z7, Inv X pins (σ6.set i none) H6 z7 → Q z7) →
              wpAny (model X.prog X.w) X.A (do bindName X.env n .none; unbindBehindTheSuite X.env n ps) (fun _ z7 => Q z7) X.xe z6 := fun {σ6 H6 Q} S6 hq => gone_ok (Inv.unsuite S6 iok) nd hi hl hq
          cases f with
          | ret u => exact match ws with | ⟨v6, σ6, H6, S6, r6, q6⟩ => wrap S6 fun _ J7 => ⟨_, _, _, J7, r6, q6⟩
          | brk => exact match ws with | ⟨σ6, H6, S6, q6⟩ => wrap S6 fun _ J7 => ⟨_, _, J7, q6⟩
          | cont => exact match ws with | ⟨σ6, H6, S6, q6⟩ => wrap S6 fun _ J7 => ⟨_, _, J7, q6⟩
          | next => exact match ws with | ⟨σ6, H6, S6, q6⟩ => wrap S6 fun _ J7 => ⟨_, _, J7, q6⟩
      | @no x c ts b0 st np ps hs3 l3 hc su r ih =>
        rintro ⟨b, t1, yes, no⟩
        refine wpAny_handleBy_cons (codeAny_handlers_test (named hc ((PySem.W.exm_one (M := model X.prog X.w) J1.kIn looks t1).here ?_))) (by intro q; cases q)
        cases b with
        | false => exact ih (no rfl)
        | true =>
          refine codeAny_handlers_suite (HandSPX.lands_againZ w1 fun g2 w2 u2 => ?_)
          obtain ⟨oe2, fl2, heq2, hzc2, hdt2⟩ := w2.there
          have S2 := (show Inv X pins σ2 H2 { y with heap := g2 } from Jn.landed nb w2.1 ((up.trans u1).trans u2) os ag).suite heq2 hdt2 na offL offF
          refine wpAny_mono ((su a oe2 cls d (X.pn ++ pins) hzc2 ⟨_, hdt2⟩).run [] _ _ H2 _ S2 (yes rfl a na)) (fun f z6 ws => ?_) fun _ _ z => z.elim
          cases f with
          | ret u => exact match ws with | ⟨v6, σ6, H6, S6, r6, q6⟩ => ⟨_, _, _, Inv.unsuite S6 iok, r6, q6⟩
          | brk => exact match ws with | ⟨σ6, H6, S6, q6⟩ => ⟨_, _, Inv.unsuite S6 iok, q6⟩
          | cont => exact match ws with | ⟨σ6, H6, S6, q6⟩ => ⟨_, _, Inv.unsuite S6 iok, q6⟩
          | next => exact match ws with | ⟨σ6, H6, S6, q6⟩ => ⟨_, _, Inv.unsuite S6 iok, q6⟩
    exact all hh want
end
end Sm
/-! SmGo: running bodies step by step (small proof terms for the kernel). -/
namespace Sm
open PySem L2 PyProof.Rows
section
variable {a b s : S} {env e' : Ev} {h h' g : Hh} {d : D} {c : Nat} {fs : List D} {t : MT} {n : Nat} {ds : List D}
theorem go_nx (e : a env h = .nx e' h') : sSeq a b env h = b e' h' := by
  rw [sSeq_eq, e]; rfl
theorem go_rt (e : a env h = .rt d h') : sSeq a b env h = .rt d h' := by
  rw [sSeq_eq, e]; rfl
theorem go_exc (e : a env h = .exc c fs e' h') : sSeq a b env h = .exc c fs e' h' := by
  rw [sSeq_eq, e]; rfl
theorem go_bk (e : a env h = .bk e' h') : sSeq a b env h = .bk e' h' := by
  rw [sSeq_eq, e]; rfl
theorem go_ct (e : a env h = .ct e' h') : sSeq a b env h = .ct e' h' := by
  rw [sSeq_eq, e]; rfl
theorem go_ifT (e : t env h = .ok true h') : sIf t a b env h = a env h' := by
  unfold sIf
  rw [e]; rfl
theorem go_ifF (e : t env h = .ok false h') : sIf t a b env h = b env h' := by
  unfold sIf
  rw [e]; rfl
theorem fn_rt (e : s (ds.map some ++ List.replicate (n - ds.length) none) h = .rt d h) : fnT n s ds h = .ok d h := by
  rw [fnT_eq, e]
  exact trR_ok0 _ _
theorem fn_nx (e : s (ds.map some ++ List.replicate (n - ds.length) none) h = .nx e' h) : fnT n s ds h = .ok .non h := by
  rw [fnT_eq, e]
  exact trR_ok0 _ _
theorem fn_exc (e : s (ds.map some ++ List.replicate (n - ds.length) none) h = .exc c fs e' h) : fnT n s ds h = .exc c fs h := by
  rw [fnT_eq, e]
  exact trR_exc0 _ _ _
theorem fn_rtA (e : s (ds.map some ++ List.replicate (n - ds.length) none) h = .rt d (h ++ g)) (hl : lo h.length d = true) : fnT n s ds h = .ok d h := by
  rw [fnT_eq, e]
  show trR h (.ok d (h ++ g)) = _
  rw [trR_app, if_pos hl]
theorem fn_nxA (e : s (ds.map some ++ List.replicate (n - ds.length) none) h = .nx e' (h ++ g)) : fnT n s ds h = .ok .non h := by
  rw [fnT_eq, e]
  show trR h (.ok .non (h ++ g)) = _
  rw [trR_app, if_pos (lo_non _)]
theorem fn_excA (e : s (ds.map some ++ List.replicate (n - ds.length) none) h = .exc c fs e' (h ++ g)) (hl : los h.length fs = true) : fnT n s ds h = .exc c fs h := by
  rw [fnT_eq, e]
  show trR h (.exc c fs (h ++ g)) = _
  rw [trR_excA, if_pos hl]
end
@[simp] theorem opAdd_rf (n : Nat) (ys : List D) (h : Hh) : opAdd (.ref n) (.fls ys) h = match h[n]? with
    | some (.lst xs) => if xs.length + ys.length ≤ sizeLine then some (.ref h.length, h ++ [.lst (xs ++ ys)]) else none
    | _ => none := rfl
@[simp] theorem opAdd_fr (n : Nat) (xs : List D) (h : Hh) : opAdd (.fls xs) (.ref n) h = match h[n]? with
    | some (.lst ys) => if xs.length + ys.length ≤ sizeLine then some (.ref h.length, h ++ [.lst (xs ++ ys)]) else none
    | _ => none := rfl
@[simp] theorem opAdd_ff (xs ys : List D) (h : Hh) : opAdd (.fls xs) (.fls ys) h = if xs.length + ys.length ≤ sizeLine then some (.ref h.length, h ++ [.lst (xs ++ ys)]) else none := rfl
theorem below4k (k : Nat) (hk : k ≤ 50000) : k < sizeLine := Nat.lt_of_lt_of_le (by omega : k < 50001) (line4k (by omega))
theorem ix2 : ∀ (x y : D), atI [x, y] (0 : Int) = some x ∧ atI [x, y] (1 : Int) = some y := fun x y => ⟨rfl, rfl⟩
theorem ix3 : ∀ (x y z : D), atI [x, y, z] (0 : Int) = some x ∧ atI [x, y, z] (1 : Int) = some y ∧ atI [x, y, z] (2 : Int) = some z := fun x y z => ⟨rfl, rfl, rfl⟩
theorem ix4 : ∀ (x y z u : D), atI [x, y, z, u] (0 : Int) = some x ∧ atI [x, y, z, u] (1 : Int) = some y ∧ atI [x, y, z, u] (2 : Int) = some z ∧ atI [x, y, z, u] (3 : Int) = some u := fun x y z u => ⟨rfl, rfl, rfl, rfl⟩
theorem ix5 : ∀ (x y z u v : D), atI [x, y, z, u, v] (0 : Int) = some x ∧ atI [x, y, z, u, v] (1 : Int) = some y ∧ atI [x, y, z, u, v] (2 : Int) = some z ∧ atI [x, y, z, u, v] (3 : Int) = some u ∧ atI [x, y, z, u, v] (4 : Int) = some v := fun x y z u v => ⟨rfl, rfl, rfl, rfl, rfl⟩
end Sm
/-! SmMem: x in t, x not in t for data of any depth, t a list or a tuple -/
namespace Sm
open PySem PySem.Spec L2 PyProof.Rows
def inG : PyData → PyData → Option Bool
  | d, .list ds => if SeqAt.shaped d = true ∧ SeqAt.shaped (.list ds) = true then some (ds.any fun z => PyData.eqv z d) else none
  | d, .tuple ds => if SeqAt.shaped d = true ∧ SeqAt.shaped (.tuple ds) = true then some (ds.any fun z => PyData.eqv z d) else none
  | _, _ => none
def opInGB (x y : D) (h : Hh) : Option Bool := match toP h 60 x, toP h 60 y with
  | some p, some q => inG p q
  | _, _ => none
def opInG (x y : D) (h : Hh) : Option (D × Hh) := (opInGB x y h).map fun b => (.bl b, h)
def opNinG (x y : D) (h : Hh) : Option (D × Hh) := (opInGB x y h).map fun b => (.bl (!b), h)
section
variable {X : Cx} {G : Cl} {W : WX} {a b : Expr} {pos : Pos} {ma mb : M} {K : PySem.W.Frag}
abbrev rMem (K : PySem.W.Frag) (neg : Bool) : R2 := fun x y H Q => ∃ p q b, Dp K H x p ∧ Dp K H y q ∧ inG p q = some b ∧ Q (.bl (if neg then !b else b)) H
theorem op_inG (hu : X.A.units + 65 < cLine) : OpR X (compareOp .In) (rMem X.K false) := by
  rintro pins s σ H x y v u Q I rx ry ⟨p, q, b, hp, hq, e, k⟩
  obtain ⟨as, r1⟩ := Dp.reads I p x v hp rx
  obtain ⟨bs, r2⟩ := Dp.reads I q y u hq ry
  unfold inG at e
  split at e
  · split at e
    · rename_i hs
      cases e
      exact SeqAt.in_list_reads r2 r1 (SeqAt.canLay_of_shaped hs.2) (SeqAt.canLay_of_shaped hs.1) (room_in_shaped hs.1 hu) ⟨.bl _, H, I, rfl, k⟩
    · cases e
  · split at e
    · rename_i hs
      cases e
      exact SeqAt.in_tuple_reads r2 r1 (SeqAt.canLay_of_shaped hs.2) (SeqAt.canLay_of_shaped hs.1) (room_in_shaped hs.1 hu) ⟨.bl _, H, I, rfl, k⟩
    · cases e
  · cases e
theorem op_ninG (hu : X.A.units + 65 < cLine) : OpR X (compareOp .NotIn) (rMem X.K true) := by
  rintro pins s σ H x y v u Q I rx ry ⟨p, q, b, hp, hq, e, k⟩
  obtain ⟨as, r1⟩ := Dp.reads I p x v hp rx
  obtain ⟨bs, r2⟩ := Dp.reads I q y u hq ry
  unfold inG at e
  split at e
  · split at e
    · rename_i hs
      cases e
      exact SeqAt.notIn_list_reads r2 r1 (SeqAt.canLay_of_shaped hs.2) (SeqAt.canLay_of_shaped hs.1) (room_in_shaped hs.1 hu) ⟨.bl _, H, I, rfl, k⟩
    · cases e
  · split at e
    · rename_i hs
      cases e
      exact SeqAt.notIn_tuple_reads r2 r1 (SeqAt.canLay_of_shaped hs.2) (SeqAt.canLay_of_shaped hs.1) (room_in_shaped hs.1 hu) ⟨.bl _, H, I, rfl, k⟩
    · cases e
  · cases e
theorem mem_of {ρ : List Addr} {H : Hp} {h : Hh} {x y : V} {dx dy : D} {b : Bool} (hr : Rh K G ρ H h) (rx : Rv K ρ H x dx) (ry : Rv K ρ H y dy) (e : opInGB dx dy h = some b) : ∃ p q, Dp K H x p ∧ Dp K H y q ∧ inG p q = some b := by
  unfold opInGB at e
  split at e
  · rename_i p q e1 e2
    exact ⟨p, q, toP_dp hr _ _ _ _ rx e1, toP_dp hr _ _ _ _ ry e2, e⟩
  · cases e
theorem im_inG : Imp2 K G (rMem K false) opInG := fun {ρ H h x y dx dy d h' Q} hr rx ry e k => by
  unfold opInG at e
  rw [Option.map_eq_some_iff] at e
  obtain ⟨b, e1, e2⟩ := e
  cases e2
  obtain ⟨p, q, h1, h2, h3⟩ := mem_of hr rx ry e1
  exact ⟨p, q, b, h1, h2, h3, k _ _ _ Ex.refl hr (.bl _)⟩
theorem im_ninG : Imp2 K G (rMem K true) opNinG := fun {ρ H h x y dx dy d h' Q} hr rx ry e k => by
  unfold opNinG at e
  rw [Option.map_eq_some_iff] at e
  obtain ⟨b, e1, e2⟩ := e
  cases e2
  obtain ⟨p, q, h1, h2, h3⟩ := mem_of hr rx ry e1
  exact ⟨p, q, b, h1, h2, h3, k _ _ _ Ex.refl hr (.bl _)⟩
theorem Ct.hu65 {k : Nat} (c : Ct X W k) : X.A.units + 65 < cLine := by have := c.hr.un; omega
theorem se_inG (hu : X.A.units + 65 < cLine) (ha : PE X a (tM X.K G W ma)) (hb : PE X b (tM X.K G W mb)) (hm : behindInMarks .In b = false := by rfl) : PE X (.Compare a [.In] [b] pos) (tM X.K G W (eB opInG ma mb)) := se_cmp (op_inG hu) im_inG ha hb hm
theorem se_ninG (hu : X.A.units + 65 < cLine) (ha : PE X a (tM X.K G W ma)) (hb : PE X b (tM X.K G W mb)) (hm : behindInMarks .NotIn b = false := by rfl) : PE X (.Compare a [.NotIn] [b] pos) (tM X.K G W (eB opNinG ma mb)) := se_cmp (op_ninG hu) im_ninG ha hb hm
theorem st_inG (hu : X.A.units + 65 < cLine) (ha : PE X a (tM X.K G W ma)) (hb : PE X b (tM X.K G W mb)) (hm : behindInMarks .In b = false := by rfl) : PT X (.Compare a [.In] [b] pos) (tT X.K G W (tBl (eB opInG ma mb))) := st_cmp (op_inG hu) im_inG ha hb hm
theorem st_ninG (hu : X.A.units + 65 < cLine) (ha : PE X a (tM X.K G W ma)) (hb : PE X b (tM X.K G W mb)) (hm : behindInMarks .NotIn b = false := by rfl) : PT X (.Compare a [.NotIn] [b] pos) (tT X.K G W (tBl (eB opNinG ma mb))) := st_cmp (op_ninG hu) im_ninG ha hb hm
end
/-! running it -/
theorem pyds_any {k : Nat} {d : D} (hd : okD k d = true) : ∀ {ds : List D}, okDs k ds = true → ((pyds ds).any fun z => PyData.eqv z (pyd d)) = ds.any fun z => eqd z d
  | [], _ => rfl
  | x :: ds, h => by
    simp only [okDs, Bool.and_eq_true] at h
    rw [pyds, List.any_cons, List.any_cons, pyds_any (ds := ds) hd h.2, eqd_py k x d h.1 hd]
theorem memT {x : D} {ds : List D} {h : Hh} (hx : okD 59 x = true) (hds : okD 60 (.tup ds) = true) : opInGB x (.tup ds) h = some (ds.any fun z => eqd z x) := by
  unfold opInGB
  rw [toP_ok h 60 60 x (Nat.le_refl _) (okD_mono (by omega) hx), toP_ok h 60 60 (.tup ds) (Nat.le_refl _) hds]
  have h1 := depth_ok 60 x (okD_mono (by omega) hx)
  have h2 := depth_ok 60 (.tup ds) hds
  have e : pyd (.tup ds) = .tuple (pyds ds) := by simp [pyd]
  rw [e] at h2 ⊢
  simp only [inG]
  rw [if_pos ⟨by simp [SeqAt.shaped, h1.2]; omega, by simp [SeqAt.shaped, h2.2]; omega⟩]
  rw [pyds_any (ds := ds) (k := 59) hx (by simpa [okD] using hds)]
theorem memF {x : D} {ds : List D} {h : Hh} (hx : okD 59 x = true) (hds : okD 60 (.fls ds) = true) : opInGB x (.fls ds) h = some (ds.any fun z => eqd z x) := by
  unfold opInGB
  rw [toP_ok h 60 60 x (Nat.le_refl _) (okD_mono (by omega) hx), toP_ok h 60 60 (.fls ds) (Nat.le_refl _) hds]
  have h1 := depth_ok 60 x (okD_mono (by omega) hx)
  have h2 := depth_ok 60 (.fls ds) hds
  have e : pyd (.fls ds) = .list (pyds ds) := by simp [pyd]
  rw [e] at h2 ⊢
  simp only [inG]
  rw [if_pos ⟨by simp [SeqAt.shaped, h1.2]; omega, by simp [SeqAt.shaped, h2.2]; omega⟩]
  rw [pyds_any (ds := ds) (k := 59) hx (by simpa [okD] using hds)]
theorem memR {x : D} {ds : List D} {h : Hh} {n : Nat} (e : h[n]? = some (.lst ds)) (hx : okD 59 x = true) (hds : okD 60 (.fls ds) = true) : opInGB x (.ref n) h = some (ds.any fun z => eqd z x) := by
  rw [← memF (h := h) hx hds]
  unfold opInGB
  have e2 : toP h 60 (.ref n) = toP h 60 (.fls ds) := by
    rw [toP, toP, e]
  rw [e2]
@[simp] theorem opInG_eq (x y : D) (h : Hh) : opInG x y h = (opInGB x y h).map fun b => (.bl b, h) := rfl
@[simp] theorem opNinG_eq (x y : D) (h : Hh) : opNinG x y h = (opInGB x y h).map fun b => (.bl (!b), h) := rfl
end Sm
/-! SmAnti: data that neither precedes the other is equal; a sorted row is told by its members. -/
namespace Sm
open PySem L2 PyProof.Rows PySem.W
theorem toks_of {a b : PyData} (h1 : dataLt a b = false) (h2 : dataLt b a = false) : keyToks a = keyToks b := (PyProof.Rows.listOrd PyProof.Rows.itemOrd).total _ _ h1 h2
theorem eqv_of_toks {a b : PyData} (h : alike a b = true) (e : keyToks a = keyToks b) : PyData.eqv a b = true := by
  cases q : PyData.eqv a b with
  | true => rfl
  | false =>
    exfalso
    have f := (toks_eqv a b h).2 q
    have f1 := f [.inl 0] [.inl 1]
    have f2 := f [] []
    rw [e] at f1 f2
    rw [lex_pre] at f1 f2
    rw [← f2] at f1
    exact absurd f1 (by decide)
theorem eqv_anti {a b : PyData} (h : alike a b = true) (h1 : dataLt a b = false) (h2 : dataLt b a = false) : PyData.eqv a b = true := eqv_of_toks h (toks_of h1 h2)
theorem lt_irr (a : PyData) : dataLt a a = false := (PyProof.Rows.listOrd PyProof.Rows.itemOrd).irrefl _
theorem lt_tr {a b c : PyData} (h1 : dataLt a b = true) (h2 : dataLt b c = true) : dataLt a c = true := (PyProof.Rows.listOrd PyProof.Rows.itemOrd).trans _ _ _ h1 h2
theorem lt_neg {a b c : PyData} (h : dataLt a c = true) : dataLt a b = true ∨ dataLt b c = true := (PyProof.Rows.listOrd PyProof.Rows.itemOrd).negTrans _ _ _ h
/-- not before, and not before: not before -/
theorem le_tr {a b c : PyData} (h1 : dataLt b a = false) (h2 : dataLt c b = false) : dataLt c a = false := by
  cases q : dataLt c a with
  | false => rfl
  | true =>
    rcases lt_neg (b := b) q with h | h
    · rw [h2] at h; cases h
    · rw [h1] at h; cases h
theorem perm_srt {α : Type} {r : α → α → Prop} : ∀ {l1 l2 : List α}, (∀ a ∈ l1, ∀ b ∈ l1, r a b → r b a → a = b) → l1.Perm l2 → l1.Pairwise r → l2.Pairwise r → l1 = l2
  | [], l2, _, p, _, _ => by rw [List.nil_perm] at p; exact p.symm
  | a :: l1, [], _, p, _, _ => by simp at p
  | a :: l1, b :: l2, anti, p, s1, s2 => by
    have hb : b ∈ a :: l1 := p.mem_iff.mpr (by simp)
    have ha : a ∈ b :: l2 := p.mem_iff.mp (by simp)
    rw [List.pairwise_cons] at s1 s2
    have e : a = b := by
      rcases List.mem_cons.mp hb with rfl | hb'
      · rfl
      · rcases List.mem_cons.mp ha with rfl | ha'
        · rfl
        · exact anti a (by simp) b hb (s1.1 b hb') (s2.1 a ha')
    subst e
    rw [perm_srt (fun x hx y hy => anti x (by simp [hx]) y (by simp [hy])) (List.Perm.cons_inv p) s1.2 s2.2]
end Sm
/-! SmTup: tuple * int (from 1 on); sorted(t, key=f) of a tuple -/
namespace Sm
open PySem PySem.Spec L2 PyProof.Rows
theorem tupOnce (l : Addr) (its : Array Value) (n : Nat) (dd : Option Addr) (sl : Array (Option Value)) (u : Tok) :
    Meets (Builtin.«tuple.__mul__» ⟨[.ref l, .int 1 u], []⟩) (fun _ R s => s.heap.get? l = some { cls := .type "tuple", dict := dd, data := .seq its n, slots := sl } ∧ R (.ok (.ret (Value.ref l))) s) :=
  .of_wp fun prog w A R s h => by
    obtain ⟨hp, g, d, tk, os⟩ := s
    obtain ⟨hl, h⟩ := h
    have f1 := AutoSeq1.idx_int
    have c1 : (its.isEmpty || (1 : Int) == 1) = true := by simp
    have c0 : (decide ((1 : Int) < -(2 ^ 63)) || decide ((1 : Int) ≥ 2 ^ 63)) = false := by decide
    wp_walk using wpAny_loadPart' hl
    exact ⟨_, rfl, h⟩
abbrev rOnce (K : PySem.W.Frag) : R2 := fun x y H Q => ∃ l xs, x = .ref l ∧ y = .int 1 ∧ SqT K H l xs ∧ Q (.ref l) H
section
variable {X : Cx} {G : Cl} {W : WX} {a b : Expr} {pos : Pos} {ma mb : M} {K : PySem.W.Frag}
theorem op_once : OpR X (binaryOp .Mult) (rOnce X.K) := by
  intro pins s σ H x y v u Q I rx ry h
  obtain ⟨l, xs, rfl, rfl, hT, q⟩ := h
  cases rx
  obtain ⟨t, rfl⟩ := ry
  obtain ⟨its, r, ⟨⟨cls, dd, data, sl⟩, ho, hc, n, hd⟩, hs⟩ := I.tuple hT
  simp only at hc hd
  subst hc hd
  exact wpAny_binaryOp_repeat_ref (T := "tuple") (U := "int") (by decide) ⟨_, ho, rfl⟩ (fun s' => typeIs_int s' 1 t) noFill_tuple_mul F.fills_int_mul F.slot_int_rmul repeat_tuple F.slot_int_index.lookup
    (call_meets F.slot_int_rmul (typeIs_int s 1 t) F.entry_int_rmul (F.args_int_rmul_2 _ _) (int_rmul_tuple 1 t l its.toArray n dd sl)
      ⟨ho, rfl, ⟨_, ho, rfl⟩, call_meets F.slot_tuple_mul ⟨_, ho, rfl⟩ F.entry_tuple_mul (F.args_tuple_mul_2 _ _) (tupOnce l its.toArray n dd sl t) ⟨ho, .ref l, H, I, rfl, q⟩⟩)
def opMulT : D → D → Hh → Option (D × Hh)
  | .tup xs, .int n, h => if n = 1 then some (.tup xs, h) else if xs ≠ [] ∧ 2 ≤ n ∧ n ≤ 1000 ∧ xs.length ≤ 1000 then some (.tup (List.replicate n.toNat xs).flatten, h) else none
  | _, _, _ => none
theorem Rvs.rep {ρ : List Addr} {H : Hp} {vs : List V} {ds : List D} (r : Rvs K ρ H vs ds) : ∀ n : Nat, Rvs K ρ H (List.replicate n vs).flatten (List.replicate n ds).flatten
  | 0 => .nil
  | n + 1 => by
    rw [List.replicate_succ, List.replicate_succ, List.flatten_cons, List.flatten_cons]
    exact r.append (Rvs.rep r n)
theorem im_mulT : Imp2 K G (fun x y H Q => rOnce K x y H Q ∨ rRepT K x y H Q) opMulT := fun {ρ H h x y dx dy d h' Q} hr rx ry e k => by
  unfold opMulT at e
  split at e
  · rename_i xs n
    obtain ⟨l, vs, rfl, t, r⟩ := rx.sqT
    cases ry
    split at e
    · rename_i q
      subst q
      cases e
      exact .inl ⟨l, vs, rfl, rfl, t, k _ _ _ Ex.refl hr rx⟩
    · split at e
      · rename_i q
        cases e
        refine .inr ⟨l, n, vs, rfl, rfl, t, fun z => q.1 ?_, q.2.1, q.2.2.1, by rw [r.length]; exact q.2.2.2, fun p hp => ?_⟩
        · have := r.length
          rw [z] at this
          exact List.eq_nil_of_length_eq_zero this.symm
        · exact k _ _ _ (Ex.fresh hp) (hr.aux hp) (.tup upd_same ((Rvs.rep r n.toNat).mono (Ex.fresh hp)))
      · cases e
  · cases e
theorem se_mulT (ha : PE X a (tM X.K G W ma)) (hb : PE X b (tM X.K G W mb)) : PE X (.BinOp a .Mult b pos) (tM X.K G W (eB opMulT ma mb)) := se_bin (op_once.or op_repT) im_mulT ha hb
@[simp] theorem opMulT_ti (xs : List D) (n : Int) (h : Hh) : opMulT (.tup xs) (.int n) h = if n = 1 then some (.tup xs, h) else if xs ≠ [] ∧ 2 ≤ n ∧ n ≤ 1000 ∧ xs.length ≤ 1000 then some (.tup (List.replicate n.toNat xs).flatten, h) else none := rfl
end
end Sm
/-! SmSortT: sorted(t, key=f) of a tuple -/
namespace Sm
open PySem L2 PyProof.Rows PySem.W
section
variable {prog : Program} {w : World} {A : Around} {s : Shared} {E : Value → Shared → Prop}
theorem collectTup {l : Addr} {vs : List Value} {Q : List Value → Shared → Prop} (hl : s.heap.IsTuple l vs.toArray) (hsz : vs.length ≤ sizeLine)
    (h : Q vs { s with heap := (s.heap.push (seqObj "list" #[] 0)).update s.heap.objs.size (Obj.mapSeq (· ++ vs.toArray)) }) : wpAny (model prog w) A (collect (.ref l)) Q E s := by
  obtain ⟨o, e1, e2, n, e3⟩ := hl
  have f1 : (s.heap.push (seqObj "list" #[] 0)).get? l = some o := Heap.get?_push_of_some _ e1
  have f2 : (s.heap.push (seqObj "list" #[] 0)).get? s.heap.objs.size = some (seqObj "list" #[] 0) := Heap.get?_push_size _ rfl
  have f3 : ((#[] : Array Value) ++ vs.toArray).size ≤ sizeLine + 1 := by simp; omega
  unfold collect
  apply wpAny_bind
  apply wpAny_runValue
  refine codeAny_builtin entry_proto_collect' ?_
  show wpAny _ _ (do again (.builtin "list.__iadd__" ⟨[← newList [], .ref l], []⟩)) _ _ s
  apply wpAny_bind
  refine wpAny_newList ?_ (Nat.zero_le _)
  refine wpAny_pure ⟨Code.quiet_builtin _ (by decide +kernel), ?_⟩
  refine codeAny_builtin entry_list_iadd' ?_
  show wpAny _ _ (Builtin.List.listExtendWith (.ref s.heap.objs.size) (.ref l) (.ref s.heap.objs.size)) _ _ { s with heap := s.heap.push (seqObj "list" #[] 0) }
  unfold Builtin.List.listExtendWith
  apply wpAny_bind
  refine wpAny_typeOf (T := "tuple") ⟨o, f1, e2⟩ ?_
  have same : (Value.type "tuple" == Value.type "tuple") = true := rfl
  rw [if_pos (by simp [same])]
  apply wpAny_bind
  refine listItems_at f1 e3 ?_
  apply wpAny_bind
  refine listItems_at (xs := #[]) (n := 0) f2 rfl ?_
  rw [if_neg (by simp)]
  apply wpAny_bind
  refine listUpdate_at (xs := #[]) (n := 0) f2 rfl ?_ (Nat.zero_le _) f3
  refine wpAny_pure ?_
  show wpAny (model prog w) A (do
      match (← load s.heap.objs.size).data with
      | .seq ys _ => pure ys.toList
      | _ => unsupported "internal:collect") Q E { s with heap := (s.heap.push (seqObj "list" #[] 0)).update s.heap.objs.size (Obj.mapSeq (· ++ vs.toArray)) }
  apply wpAny_bind
  refine wpAny_load (get?_update_seq f2 _) ?_
  show wpAny _ _ (pure ((#[] : Array Value) ++ vs.toArray).toList) Q E _
  refine wpAny_pure ?_
  simpa using h
theorem sorted_tup {l : Addr} {vs : List Value} {kw : List (Str × Value)} {Q : Value → Shared → Prop} (hl : s.heap.IsTuple l vs.toArray) (hL : vs.length ≤ sizeLine) (a1 : argsOk "sorted" ⟨[.ref l], kw⟩) (a2 : ∀ x, argsOk "list.sort" ⟨[.ref x], kw⟩)
    (body : ∀ E' : Value → Shared → Prop, wpAny (model prog w) A.in1.in1 (Builtin.«list.sort» ⟨[.ref (s.heap.objs.size + 1)], kw⟩) (fun f s' => f = .done (.ret .none) ∧ Q (.ref (s.heap.objs.size + 1)) s') E' { s with heap := copyHeap s.heap vs }) :
    wpAny (model prog w) A (call (.builtin "sorted") [.ref l] kw) Q E s := by
  have sz : ((s.heap.push (seqObj "list" #[] 0)).update s.heap.objs.size (Obj.mapSeq (· ++ vs.toArray))).objs.size = s.heap.objs.size + 1 := by rw [Heap.size_update, size_push']
  refine call_function_entry_kw kind_sorted plain_sorted entry_sorted a1 ?_
  unfold Builtin.«sorted»
  apply wpAny_bind (m := checkCount "sorted" 1 1 _)
  refine wpAny_pure ?_
  apply wpAny_bind
  refine collectTup hl hL ?_
  apply wpAny_bind
  refine wpAny_newList ?_ hL
  show wpAny _ _ _ _ _ { s with heap := copyHeap s.heap vs }
  rw [sz]
  apply wpAny_bind
  refine wpAny_holding (wpAny_call_entry_kw slot_list_sort ⟨_, copyHeap_at s.heap vs, rfl⟩ entry_list_sort ?_ (a2 _))
  refine wpAny_mono (body _) (fun f s2 hf => ?_) fun _ _ e => e
  obtain ⟨rfl, hq⟩ := hf
  exact ⟨_, rfl, wpAny_pure ⟨_, rfl, hq⟩⟩
end
section
variable {X : Cx} {G : Cl} {pins : List (Addr × Obj)} {σ : L2.St} {H : Hp} {s : Shared} {ρ : List Addr} {h : Hh}
/-- sorted(l, key=f) with f a def of the text -/
theorem sortKT_run {k j : Nat} {ps1 : List Str} {fm : Fm} {f : Addr} {fd : FuncData} {l : Addr} {xs : List V} {ds ks : List D} {E : Value → Shared → Prop} {Q : VK} (hr : Room k X.A) (hj : j + 1 ≤ k) (hb : Binds X.K fd ps1 []) (F : FnOk X.prog X.w X.K X.mg X.base (L2N.CX X.prog X.w) j f fd ps1 (spM X.K G ps1.length fm)) (hp1 : ps1.length = 1)
    (I : Inv X pins σ H s) (hs : SqT X.K H l xs) (rh : Rh X.K G ρ H h) (rs : Rvs X.K ρ H xs ds) (ek : kysOf fm h ds = some ks) (hal : AllAlike (ks.map pyd)) (hsk : Sortable (ks.map pyd)) (hok : okDs 60 ks = true)
    (q : ∀ ρ' H' v, Ex X.K ρ H ρ' H' → Rh X.K G ρ' H' h → Rv X.K ρ' H' v (.fls (sortD ds ks)) → Q v H') :
    wpAny (model X.prog X.w) X.A (call (.builtin "sorted") [.ref l] [(Str.ofString "key", .ref f)]) (EP X pins σ Q) E s := by
  obtain ⟨vs, rv, hl, hz⟩ := I.tuple hs
  have hZ : vs.length ≤ sizeLine := by rw [← rv.length]; exact hz
  have lk : ks.length = ds.length := kysOf_len ek
  have lv : vs.length = ds.length := by rw [← rv.length, rs.length]
  refine sorted_tup hl hZ (ksk_s1 _ _) (fun x => ksk_l1 _ _) fun E' => ?_
  rw [ksk_t1]
  obtain ⟨a, ea⟩ : ∃ a, a = s.heap.objs.size + 1 := ⟨_, rfl⟩
  rw [← ea]
  have ho : (copyHeap s.heap vs).get? a = some (seqObj "list" vs.toArray 0) := by rw [ea]; exact copyHeap_at s.heap vs
  obtain ⟨e1, ho1⟩ : ∃ e1, ((copyHeap s.heap vs).update a (Obj.mapSeq fun _ => (#[] : Array Value))).get? a = some (seqObj "list" #[] e1) := ⟨_, get?_update_seq ho fun _ => #[]⟩
  have na0 : ∀ b o, s.heap.get? b = some o → b ≠ a := fun b o e => by
    rw [ea]
    exact Nat.ne_of_lt (Nat.lt_succ_of_lt (Heap.lt_size e))
  have haS : a < (copyHeap s.heap vs).objs.size := Heap.lt_size ho
  obtain ⟨kS, ekS⟩ : ∃ kS, kS = (((copyHeap s.heap vs).update a (Obj.mapSeq fun _ => (#[] : Array Value))).push (seqObj "tuple" vs.toArray 0)).objs.size := ⟨_, rfl⟩
  have hkS : kS = (copyHeap s.heap vs).objs.size + 1 := by rw [ekS, size_push', Heap.size_update]
  have hka : kS ≠ a := by rw [hkS]; exact Nat.ne_of_gt (Nat.lt_succ_of_lt haS)
  unfold ksk_tree
  refine wpAny_bind (listItems_at ho rfl ?_)
  refine wpAny_bind (listUpdate_at ho rfl ?_ (by rw [List.size_toArray]; exact hZ) (Nat.zero_le _))
  refine wpAny_bind (seqEpoch_at ho1 rfl ?_)
  refine wpAny_bind (wpAny_newTuple ?_ (by show vs.length ≤ _; exact hZ))
  refine wpAny_bind (wpAny_newList ?_ (Nat.zero_le _))
  refine wpAny_holding ?_
  obtain ⟨hS, ehS⟩ : ∃ hS, hS = (((copyHeap s.heap vs).update a (Obj.mapSeq fun _ => (#[] : Array Value))).push (seqObj "tuple" vs.toArray 0)).push (seqObj "list" #[] 0) := ⟨_, rfl⟩
  show wpAny _ _ (ksk_rest a (.ref f) false vs.toArray e1 (.ref (((copyHeap s.heap vs).update a (Obj.mapSeq fun _ => (#[] : Array Value))).push (seqObj "tuple" vs.toArray 0)).objs.size)) _ _ { s with heap := (((copyHeap s.heap vs).update a (Obj.mapSeq fun _ => (#[] : Array Value))).push (seqObj "tuple" vs.toArray 0)).push (seqObj "list" #[] 0) }
  rw [← ekS, ← ehS]
  have nkS : hS.get? kS = some (seqObj "list" #[] 0) := by rw [ehS, ekS]; exact Heap.get?_push_size _ rfl
  have naS : hS.get? a = some (seqObj "list" #[] e1) := by rw [ehS]; exact Heap.get?_push_of_some _ (Heap.get?_push_of_some _ ho1)
  have oldS : ∀ b o, s.heap.get? b = some o → hS.get? b = some o := fun b o e => by
    rw [ehS]
    exact sortingHeap_old (na0 b o e) (copyHeap_old e)
  have hkz : s.heap.objs.size ≤ kS := by rw [hkS]; omega
  have IS : Inv X pins σ H { s with heap := hS } := I.turnedL (ch := []) (t' := s.toks) (fun b o _ e => oldS b o e) (fun b z => absurd z (by simp))
  have fpk : FpOk X pins H kS := I.fpOk hkz (I.hok.fresh hkz)
  have fpa : FpOk X pins H a := I.fpOk (by rw [ea]; omega) (I.hok.fresh (by rw [ea]; omega))
  have fp' : ∀ {b : Addr} {H' : Hp}, FpOk X pins H b → H' b = none → FpOk X pins H' b := fun p n => ⟨n, p.2⟩
  unfold ksk_rest
  refine wpAny_bind (wpAny_rule ?_)
  first
    | rw [List.forIn_toArray]
    | (rw [← Array.forIn_toList]; simp only [List.toList_toArray])
    | rw [← Array.forIn_toList]
  refine wpAny_bind (ksk_fold (fun i s' => ∃ ρ' H' kA e kvs, Inv X pins σ H' s' ∧ Ex X.K ρ H ρ' H' ∧ Rh X.K G ρ' H' h ∧ s'.heap.get? kS = some (seqObj "list" kA e) ∧ s'.heap.get? a = some (seqObj "list" #[] e1) ∧
      H' kS = none ∧ H' a = none ∧ Vals kvs kA.toList ∧ Rvs X.K ρ' H' kvs (ks.take i)) vs 0 _
    ⟨ρ, H, #[], 0, [], IS, Ex.refl, rh, nkS, naS, fpk.1, fpa.1, .nil, by rw [List.take_zero]; exact .nil⟩ ?step ?done)
  case step =>
    rintro i u s' hu ⟨ρ', H', kA, e, kvs, I', ex, rh', nk, na, fk, fa, vk, rk⟩
    simp only [Nat.zero_add] at rk ⊢
    have hi : i < vs.length := (List.getElem?_eq_some_iff.mp hu).1
    obtain ⟨x, hx, rx⟩ := val_at rv hu
    obtain ⟨d, hd, rd⟩ := rs.getV hx
    obtain ⟨kd, hkd⟩ : ∃ kd, ks[i]? = some kd := ⟨_, List.getElem?_eq_getElem (by omega)⟩
    have fk0 := kysOf_at ek hd hkd
    have hsz : kA.size ≤ vs.length := by
      have h1 := vk.length
      rw [rk.length, List.length_take] at h1
      rw [← Array.length_toList, ← h1]
      omega
    have room : Room j X.A.in1.in1 := by
      have h1 := hr.mono hj
      exact ⟨h1.hd, by have := h1.dp; show X.A.depth + 3 * j + 5 < _; omega, by have := h1.un; show X.A.units + 1 + 1 + 16 * j + 200 < _; omega⟩
    have rvd : Rv X.K ρ' H' x d := rd.mono ex
    refine wpAny_bind (wpAny_attempt (wpAny_call (codeAny_mono (F.run X.A.in1.in1 X.stack s' H' ⟨[u], []⟩ [u] [x] (fun v1 H1 => ∃ ρ1, Ex X.K ρ' H' ρ1 H1 ∧ Rh X.K G ρ1 H1 h ∧ Rv X.K ρ1 H1 v1 kd) (fun _ _ _ => False) room I'.env0.in1.in1
      (by have := hb s' [u] I'.kIn (by rw [hp1]; rfl); simpa using this) (.cons rx .nil)
      ⟨ρ', h, [d], rh', .cons rvd .nil, by rw [hp1]; rfl, by rw [fk0]; exact fun ρ1 H1 v1 e2 r2 w2 => ⟨ρ1, e2, r2, w2⟩⟩) fun r s1 hq => ?_)))
    cases r with
    | error er =>
      obtain ⟨_, _, _, _, _, _, _, _, _, _, _, _, hF⟩ := hq
      exact hF.elim
    | ok fl =>
      cases fl with
      | next => exact False.elim hq
      | brk => exact False.elim hq
      | cont => exact False.elim hq
      | ret u1 =>
        obtain ⟨v1, H1, os1, bare1, un1, hok1, r1, ρ1, ex1, rh1, rv1⟩ := hq
        have I1 : Inv X pins σ H1 s1 := I'.call' (ch := []) os1 un1 hok1 bare1 (fun b z => absurd z (by simp))
        have stk : ∀ {b : Addr}, FpOk X pins H b → b ∉ frs X.stack := fun {b} p z => (List.mem_cons.mp (I'.stkSub b z)).elim p.2.1 p.2.2.1
        have nk1 : s1.heap.get? kS = some (seqObj "list" kA e) := un1.keep kS _ nk fk (stk fpk) (by simp)
        have na1 : s1.heap.get? a = some (seqObj "list" #[] e1) := un1.keep a _ na fa (stk fpa) (by simp)
        have fk1 : H1 kS = none := un1.free kS _ nk fk (by simp)
        have fa1 : H1 a = none := un1.free a _ na fa (by simp)
        obtain ⟨c2, hc2⟩ : ∃ c2, (s1.heap.update kS (Obj.mapSeq (·.push u1))).get? kS = some (seqObj "list" (kA.push u1) c2) := ⟨_, get?_update_seq nk1 (·.push u1)⟩
        have sb := Heap.SameBut.update s1.heap kS (Obj.mapSeq (·.push u1))
        dsimp only
        refine wpAny_bind (listUpdate_at nk1 rfl ?_ (Nat.le_trans hsz hZ) (Nat.le_trans (Nat.le_of_eq (Array.size_push ..)) (Nat.succ_le_succ (Nat.le_trans hsz hZ))))
        refine wpAny_pure ⟨rfl, ρ1, H1, kA.push u1, c2, kvs ++ [v1], ?_, ex.trans ex1, rh1, hc2, (sb.2 a hka.symm).trans na1, fk1, fa1, ?_, ?_⟩
        · exact I1.turnedL (ch := [kS]) (t' := s1.toks) (fun b o hb e => (sb.2 b (by simpa using hb)).trans e) (fun b z => by
            have : b = kS := by simpa using z
            rw [this]
            exact fp' fpk fk1)
        · rw [Array.toList_push]
          exact vk.append (.cons r1 .nil)
        · rw [List.take_add_one, hkd]
          exact (rk.mono ex1).append (.cons rv1 .nil)
  case done =>
    rintro s' ⟨ρ', H', kA, e, kvs, I', ex, rh', nk, na, fk, fa, vk, rk⟩
    have e3 : ks.take (0 + vs.length) = ks := List.take_of_length_le (by omega)
    rw [e3] at rk
    have hsz : kA.size = vs.length := by
      have h1 := vk.length
      rw [rk.length, lk, ← lv] at h1
      rw [← Array.length_toList]
      exact h1.symm
    refine wpAny_bind (listItems_at nk rfl ?_)
    have hk' := reads_pyd I' rh' rk vk hok
    have hu : ∀ d, d ∈ ks.map pyd → X.A.in1.in1.units + d.depth < cLine := fun d hd => by
      obtain ⟨kd, hm, rfl⟩ := List.mem_map.mp hd
      have h1 := okD_depth (okDs_mem hok hm)
      have h2 := hr.units
      show X.A.units + 1 + 1 + _ < _
      have h3 := hr.un
      omega
    obtain ⟨h₁, g1, g2⟩ := L2.restrict s'.heap fun b => decide (b ≠ kS)
    have kp : KeepsBut a h₁ s'.heap := fun b o _ q => by
      by_cases z : b = kS
      · rw [g2 b (by simpa using z)] at q; cases q
      · rw [g1 b (by simpa using z)] at q; exact q
    refine keyH_end (κ := dataKind s'.heap (ks.map pyd)) (h₁ := h₁) kp (g2 kS (by simp)) nk na hka (SortsAt.data hk' hal hsk hu) hsz hZ fun h3 tk3 c k3 n3 => ⟨rfl, ?_⟩
    have ko : KeyedOut false (ks.map pyd) vs (sortVals (dataKind s'.heap (ks.map pyd)) false kA.toList vs) := ⟨s'.heap, kA.toList, hal, rfl, hk'⟩
    have ez : (ds.zip ks).map (fun p : D × D => pyd p.2) = ks.map pyd := by
      have := zip_fst (as := ds) (bs := ks) lk
      rw [← this, List.map_map]
      simp [this]
    rw [← ez] at ko
    have eo := keyedOut_each (fun p : D × D => pyd p.2) ko (each_zip (each_rv rv (rs.mono ex)) lk)
    rw [ez] at eo
    obtain ⟨outv, ov, orv⟩ := rv_each (K := X.K) (ρ := ρ') (H := H') (ds := sortD ds ks) (us := sortVals (dataKind s'.heap (ks.map pyd)) false kA.toList vs) (each_fst eo)
    have ol : outv.length ≤ sizeLine := by
      rw [ov.length, sortVals_length false (by rw [Array.length_toList]; exact hsz)]
      exact hZ
    have I3 : Inv X pins σ (upd H' a (.lst outv)) { s' with heap := h3, toks := tk3 } := Inv.born (ch := [a, kS]) (c := c) I' (fun b o hb q => by
        simp only [List.mem_cons, List.not_mem_nil, or_false, not_or] at hb
        exact k3 b o hb.1 ((g1 b (by simpa using hb.2)).trans q)) (fun b hb => by
        simp only [List.mem_cons, List.not_mem_nil, or_false] at hb
        rcases hb with rfl | rfl
        · exact fp' fpa fa
        · exact fp' fpk fk) (by simp) ov ol n3
    obtain ⟨od, I4⟩ := I3.lock (upd_same) trivial
    have e4 : upd (upd H' a (.lst outv)) a (.frz od (.lst outv)) = upd H' a (.frz od (.lst outv)) := by
      funext b
      by_cases q : b = a
      · rw [q, upd_same, upd_same]
      · rw [upd_ne q, upd_ne q, upd_ne q]
    rw [e4] at I4
    exact ⟨.ref a, _, I4, rfl, q ρ' _ _ (ex.trans (Ex.fresh fa)) (rh'.aux fa) (.fls (.inl ⟨od, upd_same⟩) (orv.mono (Ex.fresh fa)))⟩
end
section
variable {X : Cx} {G : Cl} {W : WX} {e : Expr} {pos p p2 kp : Pos} {me : M} {k j : Nat} {kf : Str} {fm : Fm} {ps1 : List Str}
def rSortKT (X : Cx) (G : Cl) (W : WX) (fm : Fm) (f : Addr) : List V → List V → Hp → VK → Prop := fun vs zs H Q => ∃ ρ h l xs ds ks, vs = [.ref l] ∧ zs = [.ref f] ∧ SqT X.K H l xs ∧ Rh X.K G ρ H h ∧ Rvs X.K ρ H xs ds ∧ kysOf fm h ds = some ks ∧ AllAlike (ks.map pyd) ∧ Sortable (ks.map pyd) ∧ okDs 60 ks = true ∧
  ∀ ρ' H' v, Ex X.K ρ H ρ' H' → Rh X.K G ρ' H' h → Rv X.K ρ' H' v (.fls (sortD ds ks)) → Q v H'
theorem call_sortKT {f : Addr} {fd : FuncData} (hr : Room k X.A) (hj : j + 1 ≤ k) (hb : Binds X.K fd ps1 []) (F : FnOk X.prog X.w X.K X.mg X.base (L2N.CX X.prog X.w) j f fd ps1 (spM X.K G ps1.length fm)) (hp1 : ps1.length = 1) :
    CallRK X (.builtin "sorted") [Str.ofString "key"] (rSortKT X G W fm f) := by
  intro pins s σ H xs zs us ws Q I rx rz h
  obtain ⟨ρ, h, l, vs, ds, ks, rfl, rfl, hs, rh, rs, ek, hal, hsk, hok, q⟩ := h
  cases rx with
  | cons r1 r2 =>
    cases r2
    cases r1
    cases rz with
    | cons z1 z2 =>
      cases z2
      cases z1
      exact sortKT_run hr hj hb F hp1 I hs rh rs ek hal hsk hok q

open Classical in
noncomputable def opSortKT (fm : Fm) : D → Hh → Option (D × Hh)
  | .tup ds, h => match kysOf fm h ds with
    | some ks => if AllAlike (ks.map pyd) ∧ Sortable (ks.map pyd) ∧ okDs 60 ks = true then some (.fls (sortD ds ks), h) else none
    | none => none
  | _, _ => none
open Classical in
/-- sorted(e, key=kf) -/
theorem se_sortKT (ct : Ct X W k) (F : Ok X.prog X.w X.K X.mg X.base G j kf ps1 fm) (hj : j + 1 ≤ k) (hp1 : ps1.length = 1) (hg : Gl X "sorted") (hm : X.mg "sorted" = none) (hgk : Gl X kf) (he : PE X e (tM X.K G W me)) (hdb : (kf == ("__debug__" : Str)) = false := by decide)
    (he1 : backTo pos (starEach [e] X.env) = (false, eval e X.env) :: backTo pos (starEach [] X.env) := by rfl) (hpl : (backTo pos (starEach [e] X.env)).any (·.1) = false := by rfl)
    (hall : (backToKw pos (keywordEach [⟨some "key", .Name kf p2, kp⟩] X.env)).all (·.1.isSome) = true := by rfl) (hnone : (backToKw pos (keywordEach [⟨some "key", .Name kf p2, kp⟩] X.env)).any (·.1.isNone) = false := by rfl)
    (hks : (backToKw pos (keywordEach [⟨some "key", .Name kf p2, kp⟩] X.env)).filterMap (·.1) = [Str.ofString "key"] := by rfl) (hs1 : starEach [e] X.env = (false, eval e X.env) :: starEach [] X.env := by rfl) :
    PE X (.Call (.Name "sorted" p) [e] [⟨some "key", .Name kf p2, kp⟩] pos) (tM X.K G W (eU (opSortKT fm) me)) := by
  obtain ⟨f, fd, hmf, hkf, hb, F⟩ := F
  refine peImp (pe_callBK (call_sortKT (W := W) ct.hr hj hb F hp1) hg hm bt_sorted (pa_cons he pa_nil hs1) (pk_cons (pe_glob hgk hmf (v := .ref f) rfl hdb) pk_nil) (by decide) (by decide) he1 hpl hall hnone hks) fun σ H Q t => ?_
  obtain ⟨ρ, h, env, hr, he, p⟩ := t
  refine tG_mono (tG_bind (rel := relV X.K) hr he p) fun v H1 ⟨ρ1, h1, d, e1, hr1, he1, r1, p1⟩ => ?_
  obtain ⟨d2, h2, eq, kk⟩ := p1.opt
  have fin : ∀ {l : Addr} {xs : List V} {ds : List D}, SqT X.K H1 l xs → Rvs X.K ρ1 H1 xs ds → (match kysOf fm h1 ds with
      | some ks => if AllAlike (ks.map pyd) ∧ Sortable (ks.map pyd) ∧ okDs 60 ks = true then some (.fls (sortD ds ks), h1) else none
      | none => none) = some (d2, h2) → rSortKT X G W fm f [.ref l] [.ref f] H1 Q := by
    intro l xs ds hs rs e0
    split at e0
    · rename_i ks ek
      split at e0
      · rename_i hc
        cases e0
        exact ⟨ρ1, h1, l, xs, ds, ks, rfl, rfl, hs, hr1, rs, ek, hc.1, hc.2.1, hc.2.2, fun ρ' H' v a b c => kk _ _ _ a b c⟩
      · cases e0
    · cases e0
  unfold opSortKT at eq
  split at eq
  · obtain ⟨a, vs, rfl, t, r⟩ := r1.sqT
    exact fin t r eq
  · cases eq
end
end Sm
/-! SmSu: except suites: clauses, statements, isinstance of the error, calls of defs there (and those defs). -/
namespace Sm
open PySem PySem.Spec L2 PyProof.Rows
/-! ### contexts where an error is handled -/
structure CtH (X : Cx) (W : WX) (k : Nat) : Prop where
  hr : L2H.RoomH k X.A
  hot : L2H.HotC X
  nd : X.N.Nodup
  po : PassesOwn (model X.prog X.w) X.A X.env X.xe
  tk : L2N.Takes X W
theorem CtH.hu {X : Cx} {W : WX} {k : Nat} (c : CtH X W k) : X.A.units + 64 < cLine := by have := c.hr.un; omega
theorem CtH.hu1 {X : Cx} {W : WX} {k : Nat} (c : CtH X W k) : X.A.units + 1 < cLine := by have := c.hr.un; omega
theorem CtH.hu65 {X : Cx} {W : WX} {k : Nat} (c : CtH X W k) : X.A.units + 65 < cLine := by have := c.hr.un; omega
theorem takes_never {X : Cx} : L2N.Takes X WN := fun _ _ ⟨_, _, _, _, _, _, _, _, _, _, _, _, _, _, _, _, w⟩ => w.elim
theorem CtH.suite {X : Cx} {W : WX} {k : Nat} (c : Ct X W k) {a : Addr} {oe : Obj} {cls : Value} {d : Option Addr} {pn : List (Addr × Obj)} (hz : L2N.Zn cls d oe) (hf : ∃ vs, oe.data = .fields vs) : CtH (X.suite a ((a, oe) :: pn)) WN k := by
  obtain ⟨vs, hv⟩ := hf
  exact ⟨L2H.roomH_mark c.hr _, ⟨(a, oe), ⟨rfl, vs, hv, hz.2.2 vs hv⟩, List.mem_cons_self⟩, c.nd, PassesOwn.never, takes_never⟩
/-- a def of the text, called where an error is handled -/
def OkH (P : Program) (w : World) (K : PySem.W.Frag) (mg : Str → Option Value) (base : Heap) (G : Cl) (j : Nat) (x : Str) (ps : List Str) (fm : Fm) : Prop :=
  ∃ f fd, mg x = some (.ref f) ∧ PySem.W.keepIn K (.ref f) = true ∧ Binds K fd ps [] ∧ L2H.FnH P w K mg base (L2N.CX P w) j f fd ps (spM K G ps.length fm)
section
variable {X : Cx} {G : Cl} {W : WX} {e a b c : Expr} {es : List Expr} {pos p : Pos} {ms : List M} {k j : Nat} {x : Str} {ps : List Str} {fm : Fm}
theorem seH_call (ct : CtH X W k) (F : OkH X.prog X.w X.K X.mg X.base G j x ps fm) (hj : j ≤ k) (hg : Gl X x) (ha : PA X (e :: es) (tL X.K G W (evs ms))) (hl : ms.length = ps.length := by rfl) (hdb : (x == ("__debug__" : Str)) = false := by decide)
    (he : starEach (e :: es) X.env = (false, eval e X.env) :: starEach es X.env := by rfl) (hpl : (backTo pos (starEach es X.env)).any (·.1) = false := by rfl) : PE X (.Call (.Name x p) (e :: es) [] pos) (tM X.K G W (eCall fm ms)) := by
  obtain ⟨f, fd, hm, hk, hb, F⟩ := F
  refine peImp (L2H.pe_callH F (ct.hr.mono hj) ct.hot hg hm hk hb (fun σ => L2N.passAt ct.tk σ) ha hdb he hpl) fun σ H Q t => ?_
  obtain ⟨ρ, h, env, hr, he, p⟩ := t
  refine ⟨ρ, h, env, hr, he, ?_⟩
  unfold eCall at p
  cases q : evs ms env h with
  | bad => rw [q] at p; exact p
  | exc c fs h' => rw [q] at p; exact p
  | ok ds h1 =>
    rw [q] at p
    simp only [R.bind_ok] at p
    intro ρ' H' vs e1 a1 b1
    refine ⟨ρ', h1, ds, a1, b1, by rw [b1.length, evs_len q, hl], ?_⟩
    have p' := p.shift e1
    cases q2 : fm ds h1 with
    | bad => rw [q2] at p'; exact p'
    | exc c fs h' => rw [q2] at p'; exact p'
    | ok d h' => rw [q2] at p'; exact p'
end
section
variable {P : Program} {w : World} {K : PySem.W.Frag} {mg : Str → Option Value} {base : Heap} {G : Cl}
theorem fnH_okT {x qual : Str} {st : Stmt} {f : Addr} {fd : FuncData} {N ps : List Str} {k n np : Nat} {body : S} (hn : N.length = n) (hp : ps.length = np) (F : Fun K x qual st f fd) (S : FnScope N ps (defScope st))
    (hb : ∀ (cdv : Value) (A : Around) (outer : List Env) (s : Shared) (H : Hp) (E : XK) (p : Addr × Obj), CtH (L2H.cxH (L2N.CX P w) P w K mg base N qual (defScope st) f cdv A outer s H E p) (fun c d _ H => E c d H) k →
      PSs (L2H.cxH (L2N.CX P w) P w K mg base N qual (defScope st) f cdv A outer s H E p) (defBody st) (tS K G (fun c d _ H => E c d H) body)) : L2H.FnH P w K mg base (L2N.CX P w) (k + 1) f fd ps (spM K G np (fnT n body)) := by
  subst hn hp
  obtain ⟨oc, od, kV, doc, pm, an, cdv, ct, osl, rfl, lk, hcd⟩ := F.ex
  refine L2H.fn_ofH lk hcd S (fun vs H Q E ⟨_, _, _, _, _, l, _⟩ => l) fun A outer s H vs Q E p hot hr sp => ?_
  obtain ⟨ρ, h, ds, rh, rs, l, q⟩ := spT_imp sp
  refine ⟨_, hb cdv A outer s H E p ⟨hr, ⟨p, hot, List.mem_cons_self⟩, S.nd, passes_of rfl, L2N.takes_of rfl rfl rfl rfl⟩, ρ, h, _, rh, start_re rs, ?_⟩
  unfold fnM at q
  cases z : body (ds.map some ++ List.replicate (N.length - ds.length) none) h with
  | nx env h' => rw [z] at q; exact fun ρ' H' σ' e a b => q ρ' H' .non e a .non
  | rt d h' => rw [z] at q; exact q
  | exc c fs env h' => rw [z] at q; exact fun ρ' H' σ' d e a b z => q ρ' H' d e a z
  | bk env h' => rw [z] at q; exact q.elim
  | ct env h' => rw [z] at q; exact q.elim
  | bad => rw [z] at q; exact q.elim
end
section
variable {X : Cx} {G : Cl} {W : WX} {iter tg a b : Expr} {es : List Expr} {body : List Stmt} {pos p : Pos} {k : Nat}
theorem sH_for {wi : TI} {mi : Ev → Hh → R Src} {g : TG} {s : TgM} {sb : S} (c : CtH X W k) (hi : L2H.PIH X tg iter wi) (oi : ItOk X.K G W wi mi) (hg : PG X tg g) (ok : TgOk X.K G g s) (hb : PSs X body (tS X.K G W sb))
    (hs : ∀ x, foldedSetIterable iter X.env x = pure x := by intro _; rfl) : PS X (.For tg iter body [] pos) (tS X.K G W (sFor mi s sb)) := psImp (L2H.ps_forH c.po c.hot hi hg hb hs) fun D0 σ H t => by
  obtain ⟨ρ, h, env, hr, he, p⟩ := t
  refine oi σ H _ (tG_mono (tS_bind hr he p) fun J H1 ⟨ρ1, h1, d, e1, hr1, he1, r1, p1⟩ => ?_)
  exact for_sound r1 ok hr1 he1 p1
end
/-! ### expressions and tests of a suite -/
section
variable {X : Cx} {G : Cl} {C : XCt} {a b c e : Expr} {es rest : List Expr} {pos p : Pos} {ma mb m : List D → M} {ms : List (List D → M)} {ta tb : List D → MT} {K : PySem.W.Frag} {α β γ δ : Type} {rel : List Addr → Hp → β → α → Prop} {rel2 : List Addr → Hp → δ → γ → Prop}
abbrev tXT (K : PySem.W.Frag) (G : Cl) (C : XCt) (m : List D → MT) : TT := tX K G relB C m
/-- a first step within a suite -/
theorem tX_bind {m : List D → Ev → Hh → R α} {σ : L2.St} {H : Hp} {fs : List D} {ρ : List Addr} {h : Hh} {env : Ev} (hσ : σ[C.i]? = some (some (.ref C.a))) (rx : Rx K G ρ H C.d C.c fs) (hr : Rh K G ρ H h) (hE : Re K ρ H σ env) {f : α → Hh → R γ} {Q : δ → Hp → Prop}
    (p : Po K G rel2 WN ρ H σ ((m fs env h).bind f) Q) : tX K G rel C m σ H fun v H1 => ∃ ρ1 h1 d, Ex K ρ H ρ1 H1 ∧ Rx K G ρ1 H1 C.d C.c fs ∧ Rh K G ρ1 H1 h1 ∧ Re K ρ1 H1 σ env ∧ rel ρ1 H1 v d ∧ Po K G rel2 WN ρ1 H1 σ (f d h1) Q :=
  ⟨fs, ρ, h, env, hσ, rx, hr, hE, (Po.bind (rel := rel) hE p).imp fun v H1 ⟨ρ1, h1, d, e1, hr1, he1, r1, p1⟩ => ⟨ρ1, h1, d, e1, rx.mono e1, hr1, he1, r1, p1⟩⟩
theorem tX_mono {m : List D → Ev → Hh → R α} {σ : L2.St} {H : Hp} {Q Q' : β → Hp → Prop} (t : tX K G rel C m σ H Q) (i : ∀ v H, Q v H → Q' v H) : tX K G rel C m σ H Q' := by
  obtain ⟨fs, ρ, h, env, hσ, rx, hr, hE, p⟩ := t
  exact ⟨fs, ρ, h, env, hσ, rx, hr, hE, p.imp i⟩
theorem xe_or (ha : PE X a (tXM X.K G C ma)) (hb : PE X (.BoolOp .Or (b :: rest) pos) (tXM X.K G C mb)) : PE X (.BoolOp .Or (a :: b :: rest) pos) (tXM X.K G C fun fs => eOr (ma fs) (mb fs)) := peImp (pe_or ha hb) fun σ H Q t => by
  obtain ⟨fs, ρ, h, env, hσ, rx, hr, hE, p⟩ := t
  refine tX_mono (tX_bind (rel := relV X.K) hσ rx hr hE p) fun x H1 ⟨ρ1, h1, d, e1, rx1, hr1, he1, r1, p1⟩ => ?_
  cases d with
  | bl k =>
    cases r1
    refine ⟨k, rfl, ?_⟩
    cases k with
    | false => exact ⟨fs, ρ1, h1, env, hσ, rx1, hr1, he1, p1⟩
    | true => exact p1.ok hr1 (.bl _)
  | _ => exact p1.elim
theorem xe_not (ha : PE X a (tXM X.K G C ma)) : PE X (.UnaryOp .Not a pos) (tXM X.K G C fun fs => eNot (ma fs)) := peImp (pe_not ha) fun σ H Q t => by
  obtain ⟨fs, ρ, h, env, hσ, rx, hr, hE, p⟩ := t
  refine tX_mono (tX_bind (rel := relV X.K) hσ rx hr hE p) fun x H1 ⟨ρ1, h1, d, e1, rx1, hr1, he1, r1, p1⟩ => ?_
  cases d with
  | bl k =>
    cases r1
    exact ⟨k, rfl, p1.ok hr1 (.bl _)⟩
  | _ => exact p1.elim
theorem xe_ne (hu : X.A.units + 64 < cLine) (ha : PE X a (tXM X.K G C ma)) (hb : PE X b (tXM X.K G C mb)) : PE X (.Compare a [.NotEq] [b] pos) (tXM X.K G C fun fs => eB opNe (ma fs) (mb fs)) :=
  peImp (pe_cmpR (op_ne.or (op_neD hu)) ha hb (nomark _)) fun σ H Q t => by
    obtain ⟨fs, ρ, h, env, hσ, rx, hr, hE, p⟩ := t
    refine tX_mono (tX_bind (rel := relV X.K) hσ rx hr hE p) fun x H1 ⟨ρ1, h1, d, e1, rx1, hr1, he1, r1, p1⟩ => ?_
    refine tX_mono (tX_bind (rel := relV X.K) hσ rx1 hr1 he1 p1) fun y H2 ⟨ρ2, h2, d2, e2, rx2, hr2, he2, r2, p2⟩ => ?_
    obtain ⟨d3, h3, eq, k⟩ := p2.opt
    exact im_ne hr2 (r1.mono e2) r2 eq k
theorem xt_truth (ha : PE X a (tXM X.K G C ma)) (he : ∀ whole, isTrue a X.env whole = (do let v ← whole; standAt a.pos; holding [v] (truthy v)) := by intro _; rfl) : PT X a (tXT X.K G C fun fs => tTru (ma fs)) := ptImp (pt_truth ha he) fun σ H Q t => by
  obtain ⟨fs, ρ, h, env, hσ, rx, hr, hE, p⟩ := t
  refine tX_mono (tX_bind (rel := relV X.K) hσ rx hr hE p) fun x H1 ⟨ρ1, h1, d, e1, rx1, hr1, he1, r1, p1⟩ => ?_
  obtain ⟨k, ek, q⟩ := p1.optB
  exact ⟨k, truth_ok hr1 r1 ek, q _ _ _ Ex.refl hr1 rfl⟩
theorem xt_of {t : MT} (h : PT X a (tT X.K G WN t)) : PT X a (tXT X.K G C fun _ => t) := ptImp h fun σ H Q ⟨fs, ρ, h, env, _, _, hr, hE, p⟩ => ⟨ρ, h, env, hr, hE, p⟩
theorem xt_not (ha : PT X a (tXT X.K G C ta)) : PT X (.UnaryOp .Not a pos) (tXT X.K G C fun fs => tNotM (ta fs)) := ptImp (pt_not ha) fun σ H Q t => by
  obtain ⟨fs, ρ, h, env, hσ, rx, hr, hE, p⟩ := t
  refine tX_mono (tX_bind (rel := relB) hσ rx hr hE p) fun x H1 ⟨ρ1, h1, d, e1, rx1, hr1, he1, r1, p1⟩ => ?_
  subst r1
  exact p1.ok hr1 rfl
theorem xw_or1 (ha : PT X a (tXT X.K G C ta)) : PW X (.BoolOp .Or [a] pos) (tXT X.K G C ta) := pw_or1 ha
theorem xw_or (ha : PT X a (tXT X.K G C ta)) (hb : PW X (.BoolOp .Or (b :: rest) pos) (tXT X.K G C tb)) : PW X (.BoolOp .Or (a :: b :: rest) pos) (tXT X.K G C fun fs => tOrM (ta fs) (tb fs)) := pwImp (pw_or ha hb) fun σ H Q t => by
  obtain ⟨fs, ρ, h, env, hσ, rx, hr, hE, p⟩ := t
  refine tX_mono (tX_bind (rel := relB) hσ rx hr hE p) fun x H1 ⟨ρ1, h1, d, e1, rx1, hr1, he1, r1, p1⟩ => ?_
  subst r1
  cases x with
  | false => exact ⟨fs, ρ1, h1, env, hσ, rx1, hr1, he1, p1⟩
  | true => exact p1.ok hr1 rfl
theorem xt_w (ha : PW X a (tXT X.K G C ta)) : PT X a (tXT X.K G C ta) := ha.pt
/-- a def called there, with fields of the error -/
theorem xe_callH {k j : Nat} {x : Str} {ps : List Str} {fm : Fm} (ct : CtH X WN k) (F : OkH X.prog X.w X.K X.mg X.base G j x ps fm) (hj : j ≤ k) (hg : Gl X x) (ha : PA X (e :: es) (tXL X.K G C (evsX ms))) (hl : ms.length = ps.length := by rfl) (hdb : (x == ("__debug__" : Str)) = false := by decide)
    (he : starEach (e :: es) X.env = (false, eval e X.env) :: starEach es X.env := by rfl) (hpl : (backTo pos (starEach es X.env)).any (·.1) = false := by rfl) : PE X (.Call (.Name x p) (e :: es) [] pos) (tXM X.K G C fun fs => eCall fm (ms.map fun m => m fs)) := by
  obtain ⟨f, fd, hm, hk, hb, F⟩ := F
  refine peImp (L2H.pe_callH F (ct.hr.mono hj) ct.hot hg hm hk hb (fun σ => L2N.passAt ct.tk σ) ha hdb he hpl) fun σ H Q t => ?_
  obtain ⟨fs, ρ, h, env, hσ, rx, hr, hE, p⟩ := t
  refine ⟨fs, ρ, h, env, hσ, rx, hr, hE, ?_⟩
  dsimp only at p
  unfold eCall at p
  unfold evsX
  cases q : evs (ms.map fun m => m fs) env h with
  | bad => rw [q] at p; exact p
  | exc c fs h' => rw [q] at p; exact p
  | ok ds h1 =>
    rw [q] at p
    simp only [R.bind_ok] at p
    intro ρ' H' vs e1 a1 b1
    refine ⟨ρ', h1, ds, a1, b1, by rw [b1.length, evs_len q, List.length_map, hl], ?_⟩
    have p' := p.shift e1
    cases q2 : fm ds h1 with
    | bad => rw [q2] at p'; exact p'
    | exc c fs h' => rw [q2] at p'; exact p'
    | ok d h' => rw [q2] at p'; exact p'
end
/-! ### isinstance(e, C) -/
/-- what isinstance asks of the error's class -/
structure IsC (K : PySem.W.Frag) (C : Addr) : Prop where
  ha : PySem.W.findIn K (.ref C) "__class__" = some (some (.builtin "object.__class__"))
  hn : PySem.W.specialIn K (.builtin "object.__class__") "__get__" = some (some (.builtin "getset_descriptor.__get__"))
  ht : PySem.W.takesIn K (.builtin "object.__class__") = some true
  hm : PySem.W.mroIn K C (.type "object") = some true
  cl : (PySem.W.clsIn K C).isSome = true
def eKit (o : Option Bool) : M := fun _ h => match o with
  | some b => .ok (.bl b) h
  | none => .bad
@[simp] theorem eKit_some (b : Bool) (env : Ev) (h : Hh) : eKit (some b) env h = .ok (.bl b) h := rfl
section
variable {X : Cx} {G : Cl} {C : XCt} {K : PySem.W.Frag}
def rIsX (K : PySem.W.Frag) (D a : Addr) (dx : Option Addr) : List V → Hp → VK → Prop := fun xs H Q => ∃ (c : V) (cv : Value) (b : Bool), xs = [.ref a, c] ∧ (∀ u, RelV c u → u = cv) ∧ PySem.W.kitOne K (.ref D) cv = some b ∧ (∃ dd fs, dx = some dd ∧ H dd = some (.xd fs)) ∧ Q (.bl b) H
theorem call_isX {a D : Addr} {oe : Obj} {cls : Value} {dx : Option Addr} {pn : List (Addr × Obj)} (T : XfC X.K D) (I : IsC X.K D) (hcls : cls = .ref D) (hz : Zc cls dx oe) (hf : ∃ vs, oe.data = .fields vs) : CallR (X.suite a ((a, oe) :: pn)) (.builtin "isinstance") (rIsX X.K D a dx) := by
  subst hcls
  rintro pins s σ H xs us Q J r ⟨c, cv, b, rfl, one, kit, ⟨dd, fs, e1, e2⟩, q⟩
  subst e1
  cases r with
  | cons ra rr =>
    cases rr with
    | cons rb rr =>
      cases rr
      cases ra
      obtain rfl := one _ rb
      obtain ⟨at_, _⟩ := J.pin (a, oe) (List.mem_append_left _ List.mem_cons_self)
      obtain ⟨vs, hv⟩ := hf
      obtain ⟨mA, hns, _⟩ := (show ObjOk X.prog X.w H s.heap dd (.xd fs) from J.hok dd _ e2)
      obtain ⟨od, ho, _⟩ := lookIn_ns hns
      have In : PySem.W.InstAt s.heap a oe D (some od) := ⟨at_, hz.1, by unfold PySem.W.notCls; rw [hv] <;> rfl, by rw [hz.2]; exact ho⟩
      exact PySem.W.kia_one (PySem.W.kitx_exc I.cl T.ga T.gg T.exC I.ha I.hn I.ht I.hm) J.kIn In kit (fun z => nomatch z) fun tk => ⟨.bl b, H, J.kept (t' := tk) fun _ _ z => z, rfl, q⟩
theorem xe_isi {oe : Obj} {cls : Value} {pn : List (Addr × Obj)} {x cn : Str} {p p1 p2 pos : Pos} {cv : Value} {v : V} {o : Option Bool} (T : XfC X.K (G.at_ C.c)) (I : IsC X.K (G.at_ C.c)) (hcls : cls = .ref (G.at_ C.c)) (hz : Zc cls C.d oe) (hf : ∃ vs, oe.data = .fields vs)
    (hi : X.mg "isinstance" = none) (hgi : Gl X "isinstance") (hx : X.N[C.i]? = some x) (hv : Vis X.env.scope x) (hd : (x == ("__debug__" : Str)) = false) (hcd : (x == ("__classdict__" : Str)) = false)
    (hc : PE (X.suite C.a ((C.a, oe) :: pn)) (.Name cn p2) (tC v)) (hone : ∀ u, RelV v u → u = cv) (hk : ∀ b, o = some b → PySem.W.kitOne X.K (.ref (G.at_ C.c)) cv = some b) (hs : starEach [.Name x p1, .Name cn p2] X.env = (false, eval (.Name x p1) X.env) :: starEach [.Name cn p2] X.env)
    (hs2 : starEach [.Name cn p2] X.env = (false, eval (.Name cn p2) X.env) :: starEach [] X.env) (hpl : (backTo pos (starEach [.Name cn p2] X.env)).any (·.1) = false) :
    PE (X.suite C.a ((C.a, oe) :: pn)) (.Call (.Name "isinstance" p) [.Name x p1, .Name cn p2] [] pos) (tXM X.K G C fun _ => eKit o) := by
  refine peImp (pe_callB (X := X.suite C.a ((C.a, oe) :: pn)) (call_isX T I hcls hz hf) hgi hi PyProof.Rows.boot_isinstance (pa_cons (pe_var (X := X.suite C.a ((C.a, oe) :: pn)) (i := C.i) hx hv hd hcd) (pa_cons hc pa_nil hs2) hs) (by decide) (by decide) hs hpl) fun σ H Q t => ?_
  obtain ⟨fs, ρ, h, env, hσ, rx, hr, hE, p⟩ := t
  obtain ⟨dd, vfs, k1, k2, _⟩ := rx
  cases o with
  | none => exact p.elim
  | some b => exact ⟨_, hσ, ⟨v, cv, b, rfl, hone, hk b rfl, ⟨dd, vfs, k1, k2⟩, p ρ H _ Ex.refl hr (.bl b)⟩⟩
end
/-! ### suites -/
structure Hd where
  mt : Nat → Option Bool
  io : Option Nat
  su : Nat → List D → S
def endE (i : Nat) : SR → SR
  | .nx e h => .nx (e.set i none) h
  | .bk e h => .bk (e.set i none) h
  | .ct e h => .ct (e.set i none) h
  | .rt d h => .rt d h
  | _ => .bad
def endP : SR → SR
  | .exc _ _ _ _ => .bad
  | r => r
def runHd : List Hd → Nat → List D → Ev → Hh → SR
  | [], c, fs, env, h => .exc c fs env h
  | k :: r, c, fs, env, h => match k.mt c with
    | some true => (match k.io with
      | some i => if i < env.length then endE i (k.su c fs (env.set i none) h) else .bad
      | none => endP (k.su c fs env h))
    | some false => runHd r c fs env h
    | none => .bad
def sTryL (body : S) (hs : List Hd) : S := fun env h => match body env h with
  | .exc c fs e' h' => runHd hs c fs e' h'
  | r => r
def tXS (K : PySem.W.Frag) (G : Cl) (C : XCt) (s : List D → S) : TS := fun D σ H =>
  ∃ fs ρ h env, σ[C.i]? = some (some (.ref C.a)) ∧ Rx K G ρ H C.d C.c fs ∧ Rh K G ρ H h ∧ Re K ρ H σ env ∧ PoS K G WN ρ H D (s fs env h)
/-- if t: return m, else r -/
def sIfR (t : MT) (m : M) (r : S) : S := fun env h => bindS (t env h) env fun b h1 => if b = true then sRet m env h1 else r env h1
section
variable {X : Cx} {G : Cl} {C : XCt} {e a c : Expr} {st rest : List Stmt} {pos p : Pos} {m : List D → M} {t : List D → MT} {r : List D → S} {K : PySem.W.Frag} {D0 : Ends} {σ : L2.St} {H : Hp}
theorem tXS_bind {α β : Type} {rel : List Addr → Hp → β → α → Prop} {m : List D → Ev → Hh → R α} {fs : List D} {ρ : List Addr} {h : Hh} {env : Ev} (hσ : σ[C.i]? = some (some (.ref C.a))) (rx : Rx K G ρ H C.d C.c fs) (hr : Rh K G ρ H h) (hE : Re K ρ H σ env) {f : α → Hh → SR}
    (p : PoS K G WN ρ H D0 (bindS (m fs env h) env f)) : tX K G rel C m σ H fun v H1 => ∃ ρ1 h1 d, Ex K ρ H ρ1 H1 ∧ Rx K G ρ1 H1 C.d C.c fs ∧ Rh K G ρ1 H1 h1 ∧ Re K ρ1 H1 σ env ∧ rel ρ1 H1 v d ∧ PoS K G WN ρ1 H1 D0 (f d h1) := by
  refine ⟨fs, ρ, h, env, hσ, rx, hr, hE, ?_⟩
  cases q : m fs env h with
  | bad => rw [q] at p; exact p
  | exc c' fs' h' => rw [q] at p; exact fun ρ' H' d e a b => p ρ' H' σ d e a (hE.mono e) b
  | ok d h1 => rw [q] at p; exact fun ρ' H' v e1 a b => ⟨ρ', h1, d, e1, rx.mono e1, a, hE.mono e1, b, p.shift e1⟩
theorem xs_ret (ha : PE X a (tXM X.K G C m)) : PSs X [.Return (some a) pos] (tXS X.K G C fun fs => sRet (m fs)) := pss_one (psImp (ps_ret ha) fun D0 σ H ⟨fs, ρ, h, env, hσ, rx, hr, hE, q⟩ =>
  tX_mono (tXS_bind (rel := relV X.K) hσ rx hr hE q) fun x H1 ⟨ρ1, h1, d, e1, rx1, hr1, he1, r1, p1⟩ => p1.rt_ hr1 r1)
theorem xs_expr (ha : PE X a (tXM X.K G C m)) (hs : swapsWith a none pos.line X.env = pure false := by rfl) : PSs X [.Expr a pos] (tXS X.K G C fun fs => sExpr (m fs)) := pss_one (psImp (ps_expr ha hs) fun D0 σ H ⟨fs, ρ, h, env, hσ, rx, hr, hE, q⟩ =>
  tX_mono (tXS_bind (rel := relV X.K) hσ rx hr hE q) fun x H1 ⟨ρ1, h1, d, e1, rx1, hr1, he1, r1, p1⟩ => p1.nx_ hr1 he1)
theorem xs_set (j : Nat) {x : Str} {pos' : Pos} (hN : X.N.Nodup) (ha : PE X a (tXM X.K G C m)) (hi : X.N[j]? = some x := by rfl) (hx : Loc X.env.scope x := by first | exact Or.inl rfl | exact Or.inr rfl) (hs : swapsWith a (some (.Name x pos')) pos.line X.env = pure false := by rfl)
    (hf : X.fn x = true ∨ X.env.scope.names.lookup x = some .local := by first | exact .inl rfl | exact .inr rfl) : PSs X [.Assign [.Name x pos'] a pos] (tXS X.K G C fun fs => sSet j (m fs)) := pss_one (psImp (ps_set hN hi hx ha hs hf) fun D0 σ H ⟨fs, ρ, h, env, hσ, rx, hr, hE, q⟩ =>
  tX_mono (tXS_bind (rel := relV X.K) hσ rx hr hE q) fun x H1 ⟨ρ1, h1, d, e1, rx1, hr1, he1, r1, p1⟩ => p1.nx_ hr1 (he1.set r1 j))
theorem xs_ifr (hc : PT X c (tXT X.K G C t)) (ha : PE X a (tXM X.K G C m)) (hb : PSs X rest (tXS X.K G C r)) {p2 : Pos} : PSs X (.If c [.Return (some a) p2] [] pos :: rest) (tXS X.K G C fun fs => sIfR (t fs) (m fs) (r fs)) :=
  pssImp (pss_cons (ps_if hc (pss_one (ps_ret ha)) pss_nil) hb) fun D0 σ H ⟨fs, ρ, h, env, hσ, rx, hr, hE, q⟩ => tX_mono (tXS_bind (rel := relB) hσ rx hr hE q) fun x H1 ⟨ρ1, h1, d, e1, rx1, hr1, he1, r1, p1⟩ => by
    subst r1
    cases x with
    | true => exact tX_mono (tXS_bind (rel := relV X.K) (m := m) hσ rx1 hr1 he1 p1) fun x H1 ⟨ρ1, h1, d, e1, rx1, hr1, he1, r1, p1⟩ => p1.rt_ hr1 r1
    | false => exact ⟨fs, ρ1, h1, env, hσ, rx1, hr1, he1, p1⟩
end
inductive HOk (X : Cx) (G : Cl) : List ExceptHandler → List Hd → Prop
  | nil : HOk X G [] []
  | as_ {x n : Str} {cv : Value} {i : Nat} {mt : Nat → Option Bool} {su : Nat → List D → S} {b0 : Stmt} {st : List Stmt} {np ps : Pos} {hs : List ExceptHandler} {l : List Hd} (hi : X.N[i]? = some n) (hl : X.env.kindOf n = some .local) (hc : Names X x cv)
      (hm : ∀ c b, mt c = some b → PySem.W.exmOne X.K (.ref (G.at_ c)) cv = some b)
      (hsu : ∀ c, mt c = some true → ∀ (a : Addr) (oe : Obj) (cls : Value) (d : Option Addr) (pn : List (Addr × Obj)), L2N.Zn cls d oe → (∃ vs, oe.data = .fields vs) → cls = .ref (G.at_ c) → PSs (X.suite a ((a, oe) :: pn)) (b0 :: st) (tXS X.K G ⟨i, a, d, c⟩ (su c)))
      (r : HOk X G hs l) : HOk X G (.ExceptHandler (some (.Name x np)) (some n) (b0 :: st) ps :: hs) (⟨mt, some i, su⟩ :: l)
  | no {x : Str} {cv : Value} {mt : Nat → Option Bool} {su : S} {b0 : Stmt} {st : List Stmt} {np ps : Pos} {hs : List ExceptHandler} {l : List Hd} (hc : Names X x cv)
      (hm : ∀ c b, mt c = some b → PySem.W.exmOne X.K (.ref (G.at_ c)) cv = some b)
      (hsu : ∀ (a : Addr) (oe : Obj) (cls : Value) (d : Option Addr) (pn : List (Addr × Obj)), L2N.Zn cls d oe → (∃ vs, oe.data = .fields vs) → PSs (X.suite a ((a, oe) :: pn)) (b0 :: st) (tS X.K G WN su))
      (r : HOk X G hs l) : HOk X G (.ExceptHandler (some (.Name x np)) none (b0 :: st) ps :: hs) (⟨mt, none, fun _ _ => su⟩ :: l)
section
variable {X : Cx} {G : Cl} {W : WX}
/-- the kit's clauses of ours -/
theorem hok_cl {hs : List ExceptHandler} {l : List Hd} (h : HOk X G hs l) : ∃ cl : List ClX, ClOkX X hs cl ∧ ∀ (D0 : Ends) (c : Nat) (fs : List D) (e' : Ev) (h' : Hh) (ρ : List Addr) (H : Hp), PoS X.K G W ρ H D0 (runHd l c fs e' h') →
    ∀ ρ' H' σ' d, Ex X.K ρ H ρ' H' → Rh X.K G ρ' H' h' → Re X.K ρ' H' σ' e' → Rx X.K G ρ' H' d c fs → wCl X.K W D0 cl (.ref (G.at_ c)) d σ' H' := by
  induction h with
  | nil => exact ⟨[], .nil, fun D0 c fs e' h' ρ H q ρ' H' σ' d e a b z => q ρ' H' σ' d e a b z⟩
  | @as_ x n cv i mt su b0 st np ps hs l hi hl hc hm hsu r ih =>
    obtain ⟨cl, ok, go⟩ := ih
    refine ⟨(cv, some i, fun a cls d D σ H => ∃ c, mt c = some true ∧ cls = .ref (G.at_ c) ∧ tXS X.K G ⟨i, a, d, c⟩ (su c) D σ H) :: cl, .as_ hi hl hc (fun a oe cls d pn hz hf => ⟨fun pins s σ H D I ⟨c, h1, h2, q⟩ => (hsu c h1 a oe cls d pn hz hf h2).run pins s σ H D I q⟩) ok, fun D0 c fs e' h' ρ H q ρ' H' σ' d e1 r1 re1 rx => ?_⟩
    unfold runHd at q
    dsimp only at q
    cases hmc : mt c with
    | none => rw [hmc] at q; exact q.elim
    | some b =>
      rw [hmc] at q
      cases b with
      | false => exact ⟨false, hm _ _ hmc, (fun z => nomatch z), fun _ => go D0 c fs e' h' ρ H q ρ' H' σ' d e1 r1 re1 rx⟩
      | true =>
        dsimp only at q
        have hlen : i < e'.length := by
          refine Classical.byContradiction fun hn => ?_
          rw [if_neg hn] at q
          exact q
        rw [if_pos hlen] at q
        refine ⟨true, hm _ _ hmc, fun _ a ha => ⟨c, hmc, rfl, fs, ρ', h', e'.set i none, ?_, rx, r1, re1.drop i _, ?_⟩, fun z => nomatch z⟩
        · exact List.getElem?_set_self (by rw [re1.len]; exact hlen)
        · have q1 := q.shift e1
          cases qs : su c fs (e'.set i none) h' with
          | bad => rw [qs] at q1; exact q1.elim
          | exc c2 fs2 e2 h2 => rw [qs] at q1; exact q1.elim
          | rt d2 h2 => rw [qs] at q1; exact q1
          | nx e2 h2 => rw [qs] at q1; exact fun ρ2 H2 σ2 e3 r2 re2 => q1 ρ2 H2 _ e3 r2 (re2.drop i _)
          | bk e2 h2 => rw [qs] at q1; exact fun ρ2 H2 σ2 e3 r2 re2 => q1 ρ2 H2 _ e3 r2 (re2.drop i _)
          | ct e2 h2 => rw [qs] at q1; exact fun ρ2 H2 σ2 e3 r2 re2 => q1 ρ2 H2 _ e3 r2 (re2.drop i _)
  | @no x cv mt su b0 st np ps hs l hc hm hsu r ih =>
    obtain ⟨cl, ok, go⟩ := ih
    refine ⟨(cv, none, fun a cls d D σ H => tS X.K G WN su D σ H) :: cl, .no hc (fun a oe cls d pn hz hf => hsu a oe cls d pn hz hf) ok, fun D0 c fs e' h' ρ H q ρ' H' σ' d e1 r1 re1 rx => ?_⟩
    unfold runHd at q
    dsimp only at q
    cases hmc : mt c with
    | none => rw [hmc] at q; exact q.elim
    | some b =>
      rw [hmc] at q
      cases b with
      | false => exact ⟨false, hm _ _ hmc, (fun z => nomatch z), fun _ => go D0 c fs e' h' ρ H q ρ' H' σ' d e1 r1 re1 rx⟩
      | true =>
        dsimp only at q
        refine ⟨true, hm _ _ hmc, fun _ a ha => ⟨ρ', h', e', r1, re1, ?_⟩, fun z => nomatch z⟩
        have q1 := q.shift e1
        cases qs : su e' h' with
        | exc c2 fs2 e2 h2 => rw [qs] at q1; exact q1.elim
        | bad => rw [qs] at q1; exact q1
        | rt d2 h2 => rw [qs] at q1; exact q1
        | nx e2 h2 => rw [qs] at q1; exact q1
        | bk e2 h2 => rw [qs] at q1; exact q1
        | ct e2 h2 => rw [qs] at q1; exact q1
theorem s_tryL {k0 : ExceptHandler} {ks : List ExceptHandler} {l : List Hd} {k : Nat} {body : List Stmt} {sb : S} {pos : Pos} (ct : Ct X W k) (hs : X.stack = X.env :: X.outer) (hf : X.env.frame = some X.env.locals)
    (hb : ∀ (W : WX) (pn : List (Addr × Obj)) (xe : Value → Shared → Prop), Ct (X.tr pn xe) W k → PSs (X.tr pn xe) body (tS X.K G W sb)) (hh : HOk X G (k0 :: ks) l) :
    PS X (.Try body (k0 :: ks) [] [] pos) (tS X.K G W (sTryL sb l)) := by
  obtain ⟨cl, ok, go⟩ := hok_cl (W := W) hh
  refine psImp (ps_clauses (Wo := W) (tb := fun W => tS X.K G W sb) hs hf ct.nd ct.tk (fun W' pn xe tk po => hb W' pn xe (ct.tr pn xe tk po)) ok) fun D0 σ H t => ?_
  obtain ⟨ρ, h, env, hr, he, q⟩ := t
  refine ⟨ρ, h, env, hr, he, ?_⟩
  unfold sTryL at q
  cases qb : sb env h with
  | bad => rw [qb] at q; exact q
  | nx e' h' => rw [qb] at q; exact q
  | rt d h' => rw [qb] at q; exact q
  | bk e' h' => rw [qb] at q; exact q
  | ct e' h' => rw [qb] at q; exact q
  | exc c' fs e' h' =>
    rw [qb] at q
    exact fun ρ' H' σ' d e1 r1 re1 rx => go D0 c' fs e' h' ρ H q ρ' H' σ' d e1 r1 re1 rx
end
end Sm
/-! SmRep: list * int; isinstance of a class; all kinds of clauses. -/
namespace Sm
open PySem PySem.Spec L2 PyProof.Rows
section
variable {X : Cx} {G : Cl} {W : WX} {a b : Expr} {pos : Pos} {ma mb : M} {K : PySem.W.Frag}
def opRepL : D → D → Hh → Option (D × Hh)
  | .ref m, .int n, h => match h[m]? with
    | some (.lst xs) => if 0 ≤ n ∧ n ≤ 1000 ∧ xs.length ≤ 1000 then some (.ref h.length, h ++ [.lst (List.replicate n.toNat xs).flatten]) else none
    | _ => none
  | _, _, _ => none
theorem im_repL : Imp2 K G rRep opRepL := fun {ρ H h x y dx dy d h' Q} hr rx ry e k => by
  unfold opRepL at e
  split at e
  · rename_i m n
    split at e
    · rename_i xs e1
      split at e
      · rename_i q
        cases e
        cases ry
        cases rx with
        | ref ra =>
          obtain ⟨vs, q1, r1⟩ := ref_lst hr ra e1
          have hl := r1.length
          refine ⟨_, n, _, rfl, rfl, q1, by omega, by omega, ?_, new_lst hr (r1.rep _) k⟩
          rw [hl]
          have : xs.length * n.toNat ≤ 1000 * 1000 := Nat.mul_le_mul q.2.2 (by omega)
          exact Nat.le_trans this (by decide)
      · cases e
    · cases e
  · cases e
theorem se_repL (ha : PE X a (tM X.K G W ma)) (hb : PE X b (tM X.K G W mb)) : PE X (.BinOp a .Mult b pos) (tM X.K G W (eB opRepL ma mb)) := se_bin op_rep im_repL ha hb
end
/-! ### classes of errors -/
theorem kit_mk {K : PySem.W.Frag} {C D : Addr} {b : Bool} {cd : ClassData} (cl : PySem.W.clsIn K C = some cd) (ty : PySem.W.typeIn K (.ref C) = some (.type "type")) (s : PySem.W.subIn K (.ref D) (.ref C) = some b) (s0 : PySem.W.subIn K (.ref C) (.ref C) = some true) : PySem.W.kitOne K (.ref D) (.ref C) = some b := by
  unfold PySem.W.kitOne PySem.W.kitCls
  by_cases h : (Value.ref D == Value.ref C) = true
  · rw [if_pos h]
    have e := beq_iff_eq.mp h
    cases e
    exact s0.symm.trans s
  · rw [if_neg h]
    simp only [cl, ty, s, Option.isSome_some, beq_self_eq_true, Bool.and_self, if_true]
theorem kit_mkT {K : PySem.W.Frag} {D : Addr} {T : String} {b : Bool} (m : PySem.W.kitMeta T = true) (s : PySem.W.subIn K (.ref D) (.type T) = some b) : PySem.W.kitOne K (.ref D) (.type T) = some b := by
  unfold PySem.W.kitOne PySem.W.kitCls
  have h : ¬ (Value.ref D == Value.type T) = true := fun h => by cases h
  rw [if_neg h]
  simp only [m, s, if_true]
theorem km_ValueError : PySem.W.kitMeta "ValueError" = true := by decide +kernel
theorem bt_ValueError : bootBuiltins "ValueError" = some (.type "ValueError") := by decide +kernel
/-- the tables of exact classes, of a base class, of ValueError -/
def tabX (n k c2 : Nat) : Option Bool := if k < n ∧ c2 < n then some (decide (c2 = k)) else none
def tabA (n c2 : Nat) : Option Bool := if c2 < n then some true else none
theorem tabX_one {n k c2 : Nat} (h : tabX n k c2 = some true) : c2 = k := by
  unfold tabX at h
  split at h
  · simpa using h
  · cases h
theorem tabA_lt {n c2 : Nat} {b : Bool} (h : tabA n c2 = some b) : c2 < n := by
  unfold tabA at h
  split at h
  · assumption
  · cases h
theorem tabA_tt {n c2 : Nat} {b : Bool} (h : tabA n c2 = some b) : b = true := by
  unfold tabA at h
  split at h
  · cases h
    rfl
  · cases h
theorem xs_of {X : Cx} {G : Cl} {C : XCt} {st : List Stmt} {s : S} (h : PSs X st (tS X.K G WN s)) : PSs X st (tXS X.K G C fun _ => s) := pssImp h fun D σ H ⟨fs, ρ, h, env, _, _, hr, hE, q⟩ => ⟨ρ, h, env, hr, hE, q⟩
theorem hd_set {i : Nat} {e : Ev} (h : i < e.length) : i < (e.set i none).length := by rw [List.length_set]; exact h
end Sm
/-! SmRunL: running tries with clauses of all kinds -/
namespace Sm
open PySem L2 PyProof.Rows
section
variable {hs : List Hd} {b : S} {env e' : Ev} {h h' : Hh} {c i n k : Nat} {fs : List D} {d : D} {mt : Nat → Option Bool} {su : Nat → List D → S} {t : MT} {m : M} {r : S}
def sTryL1 (hs : List Hd) : SR → SR
  | .exc c fs e' h' => runHd hs c fs e' h'
  | r => r
@[simp] theorem sTryL_eq : sTryL b hs env h = sTryL1 hs (b env h) := rfl
@[simp] theorem sTryL1_nx : sTryL1 hs (.nx e' h') = .nx e' h' := rfl
@[simp] theorem sTryL1_rt : sTryL1 hs (.rt d h') = .rt d h' := rfl
@[simp] theorem sTryL1_bk : sTryL1 hs (.bk e' h') = .bk e' h' := rfl
@[simp] theorem sTryL1_ct : sTryL1 hs (.ct e' h') = .ct e' h' := rfl
@[simp] theorem sTryL1_exc : sTryL1 hs (.exc c fs e' h') = runHd hs c fs e' h' := rfl
def runHd1 (i : Option Nat) (su : Nat → List D → S) (r : List Hd) (c : Nat) (fs : List D) (env : Ev) (h : Hh) : Option Bool → SR
  | some true => (match i with
    | some i => if i < env.length then endE i (su c fs (env.set i none) h) else .bad
    | none => endP (su c fs env h))
  | some false => runHd r c fs env h
  | none => .bad
@[simp] theorem runHd_nil : runHd [] c fs env h = .exc c fs env h := rfl
@[simp] theorem runHd_cons {io : Option Nat} : runHd (⟨mt, io, su⟩ :: hs) c fs env h = runHd1 io su hs c fs env h (mt c) := by
  show (match mt c with | some true => _ | some false => _ | none => _) = _
  cases mt c with
  | none => rfl
  | some b => cases b <;> rfl
@[simp] theorem runHd1_no {io : Option Nat} : runHd1 io su hs c fs env h (some false) = runHd hs c fs env h := rfl
@[simp] theorem runHd1_as : runHd1 (some i) su hs c fs env h (some true) = if i < env.length then endE i (su c fs (env.set i none) h) else .bad := rfl
@[simp] theorem runHd1_un : runHd1 none su hs c fs env h (some true) = endP (su c fs env h) := rfl
@[simp] theorem endE_nx : endE i (.nx e' h') = .nx (e'.set i none) h' := rfl
@[simp] theorem endE_rt : endE i (.rt d h') = .rt d h' := rfl
@[simp] theorem endE_bk : endE i (.bk e' h') = .bk (e'.set i none) h' := rfl
@[simp] theorem endE_ct : endE i (.ct e' h') = .ct (e'.set i none) h' := rfl
@[simp] theorem endP_nx : endP (.nx e' h') = .nx e' h' := rfl
@[simp] theorem endP_rt : endP (.rt d h') = .rt d h' := rfl
@[simp] theorem endP_bk : endP (.bk e' h') = .bk e' h' := rfl
@[simp] theorem endP_ct : endP (.ct e' h') = .ct e' h' := rfl
@[simp] theorem sIfR_seq : sIfR t m r env h = sSeq (sIf t (sRet m) sSkip) r env h := by
  unfold sIfR
  rw [sSeq_eq]
  unfold sIf
  cases q : t env h with
  | bad => rfl
  | exc c fs g => rfl
  | ok b g =>
    cases b with
    | false => rfl
    | true =>
      show sRet m env g = _
      unfold sRet
      dsimp only [bindS]
      cases m env g <;> rfl
@[simp] theorem tabX_eq : tabX n k c = if k < n ∧ c < n then some (decide (c = k)) else none := rfl
@[simp] theorem tabA_eq : tabA n c = if c < n then some true else none := rfl
end
end Sm
/-! SmEc: isinstance with tuples of classes; an error that is given to a def -/
namespace Sm
open PySem PySem.Spec L2 PyProof.Rows
/-! ### class names, one after another -/
def tCs (vs : List V) : TA := fun _ H Q => Q vs H
section
variable {X : Cx} {G : Cl} {W : WX} {C : XCt} {e : Expr} {es : List Expr} {v : V} {vs : List V} {pos p : Pos} {m : M} {K : PySem.W.Frag}
theorem pa_cls_nil : PA X [] (tCs []) := paImp pa_nil fun σ H Q q => q
theorem pa_cls (hc : PE X e (tC v)) (r : PA X es (tCs vs)) (hs : starEach (e :: es) X.env = (false, eval e X.env) :: starEach es X.env := by rfl) : PA X (e :: es) (tCs (v :: vs)) := paImp (pa_cons hc r hs) fun σ H Q q => q
/-! ### isinstance(x, (T1, T2, ..)) of data -/
def isTs (u : Ty) : List Ty → Bool
  | [] => false
  | t :: r => isT u t || isTs u r
theorem kitAny_ts {K : PySem.W.Frag} (u : Ty) : ∀ ts : List Ty, (∀ t ∈ ts, t ≠ .none) → PySem.W.kitAny K (.type u.name) (ts.map fun t => Value.type t.name) = some (isTs u ts)
  | [], _ => rfl
  | t :: r, h => by
    have h1 := kit_ty (K := K) (kit_isT u t (h t (by simp)))
    have ih := kitAny_ts (K := K) u r fun t ht => h t (by simp [ht])
    rw [List.map_cons, isTs]
    unfold PySem.W.kitAny
    rw [h1]
    cases q : isT u t with
    | true => simp
    | false => simpa using ih
theorem clsV_ts : ∀ ts : List Ty, Paired ClsV (ts.map fun t => V.ty t.name) (ts.map fun t => Value.type t.name)
  | [] => .nil
  | t :: r => .cons (.ty _) (clsV_ts r)
def opIsiT (ts : List Ty) (d : D) (h : Hh) : Option (D × Hh) := (tyD d h).map fun u => (.bl (isTs u ts), h)
theorem se_isiT (ts : List Ty) {es : List Expr} {p1 : Pos} {x1 : Nat} (hx : PE X e (tM X.K G W m)) (hc : PA X es (tCs (ts.map fun t => V.ty t.name))) (hg : Gl X "isinstance") (hm : X.mg "isinstance" = none) (ht : ∀ t ∈ ts, t ≠ .none := by decide) (hl : ts.length ≤ 100 := by decide)
    (h1 : starEach [e, .Tuple es x1 p1] X.env = (false, eval e X.env) :: starEach [.Tuple es x1 p1] X.env := by rfl) (h2 : starEach [.Tuple es x1 p1] X.env = (false, eval (.Tuple es x1 p1) X.env) :: starEach [] X.env := by rfl)
    (hpl : (backTo pos (starEach [.Tuple es x1 p1] X.env)).any (·.1) = false := by rfl) : PE X (.Call (.Name "isinstance" p) [e, .Tuple es x1 p1] [] pos) (tM X.K G W (eU (opIsiT ts) m)) :=
  peImp (pe_callB call_isiT hg hm boot_isinstance (pa_cons hx (pa_cons (pe_tup hc) pa_nil h2) h1) (by decide) (by decide) h1 hpl) fun σ H Q t' => by
    obtain ⟨ρ, h, env, hr, he, q⟩ := t'
    refine tG_mono (tG_bind (rel := relV X.K) hr he q) fun x H1 ⟨ρ1, h1', d, e1, hr1, he1, r1, p1⟩ => ?_
    obtain ⟨d2, h2', eq, k⟩ := p1.opt
    unfold opIsiT at eq
    simp only [Option.map_eq_some_iff, Prod.mk.injEq] at eq
    obtain ⟨u, eu, rfl, rfl⟩ := eq
    refine ⟨by rw [List.length_map]; exact line4k (by omega), fun tp hp => ?_⟩
    exact ⟨x, tp, _, .type u.name, _, _, rfl, upd_same, clsV_ts ts, tyD_ok (hr1.aux hp) (r1.mono (Ex.fresh hp)) eu, kitAny_ts u ts ht, k _ _ _ (Ex.fresh hp) (hr1.aux hp) (.bl _)⟩
end
/-! ### isinstance(e, C) and isinstance(e, (C1, C2, ..)) wherever the error is pinned -/
section
variable {X : Cx} {G : Cl} {C : XCt} {K : PySem.W.Frag}
theorem isIn {a D : Addr} {oe : Obj} {dd : Addr} {fs : List (Str × V)} (T : XfC X.K D) {pins : List (Addr × Obj)} {σ : L2.St} {H : Hp} {s : Shared} (J : Inv X pins σ H s) (hz : Zc (.ref D) (some dd) oe) (hf : ∃ vs, oe.data = .fields vs) (hp : (a, oe) ∈ X.pn) (e2 : H dd = some (.xd fs)) :
    ∃ od, PySem.W.InstAt s.heap a oe D (some od) := by
  obtain ⟨at_, _⟩ := J.pin (a, oe) (List.mem_append_left _ hp)
  obtain ⟨vs, hv⟩ := hf
  obtain ⟨mA, hns, _⟩ := (show ObjOk X.prog X.w H s.heap dd (.xd fs) from J.hok dd _ e2)
  obtain ⟨od, ho, _⟩ := lookIn_ns hns
  exact ⟨od, at_, hz.1, by unfold PySem.W.notCls; rw [hv] <;> rfl, by rw [hz.2]; exact ho⟩
theorem call_isP {a D : Addr} {oe : Obj} {dx : Option Addr} (T : XfC X.K D) (I : IsC X.K D) (hz : Zc (.ref D) dx oe) (hf : ∃ vs, oe.data = .fields vs) (hp : (a, oe) ∈ X.pn) : CallR X (.builtin "isinstance") (rIsX X.K D a dx) := by
  rintro pins s σ H xs us Q J r ⟨c, cv, b, rfl, one, kit, ⟨dd, fs, e1, e2⟩, q⟩
  subst e1
  cases r with
  | cons ra rr =>
    cases rr with
    | cons rb rr =>
      cases rr
      cases ra
      obtain rfl := one _ rb
      obtain ⟨od, In⟩ := isIn T J hz hf hp e2
      exact PySem.W.kia_one (PySem.W.kitx_exc I.cl T.ga T.gg T.exC I.ha I.hn I.ht I.hm) J.kIn In kit (fun z => nomatch z) fun tk => ⟨.bl b, H, J.kept (t' := tk) fun _ _ z => z, rfl, q⟩
def rIsXT (K : PySem.W.Frag) (D a : Addr) (dx : Option Addr) : List V → Hp → VK → Prop := fun xs H Q => ∃ (tp : Addr) (cs : List V) (ws : List Value) (b : Bool), xs = [.ref a, .ref tp] ∧ H tp = some (.tup cs) ∧ Paired ClsV cs ws ∧ PySem.W.kitAny K (.ref D) ws = some b ∧ (∃ dd fs, dx = some dd ∧ H dd = some (.xd fs)) ∧ Q (.bl b) H
theorem call_isPT {a D : Addr} {oe : Obj} {dx : Option Addr} (T : XfC X.K D) (I : IsC X.K D) (hz : Zc (.ref D) dx oe) (hf : ∃ vs, oe.data = .fields vs) (hp : (a, oe) ∈ X.pn) : CallR X (.builtin "isinstance") (rIsXT X.K D a dx) := by
  rintro pins s σ H xs us Q J r ⟨tp, cs, ws, b, rfl, hT, k, kit, ⟨dd, fs, e1, e2⟩, q⟩
  subst e1
  cases r with
  | cons ra rr =>
    cases rr with
    | cons rb rr =>
      cases rr
      cases ra
      cases rb
      obtain ⟨od, In⟩ := isIn T J hz hf hp e2
      obtain ⟨_, its, rv, o, h1, h2, n, h3⟩ := (show ObjOk X.prog X.w H s.heap tp (.tup cs) from J.hok tp _ hT)
      have e3 := ClsV.all k rv
      subst e3
      obtain ⟨oc, od', dt, sl⟩ := o
      simp only at h2 h3
      subst h2 h3
      exact PySem.W.kia_tup (PySem.W.kitx_exc I.cl T.ga T.gg T.exC I.ha I.hn I.ht I.hm) J.kIn In h1 kit (fun z => nomatch z) fun tk => ⟨.bl b, H, J.kept (t' := tk) fun _ _ z => z, rfl, q⟩
/-- one class after another -/
def anyK : List (Option Bool) → Option Bool
  | [] => some false
  | some true :: _ => some true
  | some false :: r => anyK r
  | none :: _ => none
inductive KO (K : PySem.W.Frag) (t : Value) : List (Option Bool) → List V → List Value → Prop
  | nil : KO K t [] [] []
  | cons {o : Option Bool} {v : V} {u : Value} {os : List (Option Bool)} {vs : List V} {us : List Value} : ClsV v u → (∀ b, o = some b → PySem.W.kitOne K t u = some b) → KO K t os vs us → KO K t (o :: os) (v :: vs) (u :: us)
theorem KO.any {t : Value} : ∀ {os : List (Option Bool)} {vs : List V} {us : List Value} {b : Bool}, KO K t os vs us → anyK os = some b → PySem.W.kitAny K t us = some b
  | _, _, _, _, .nil, e => e
  | some true :: _, _, _, _, .cons c h r, e => by
    unfold PySem.W.kitAny
    rw [h _ rfl]
    exact e
  | some false :: _, _, _, _, .cons c h r, e => by
    unfold PySem.W.kitAny
    rw [h _ rfl]
    exact r.any e
  | none :: _, _, _, _, .cons c h r, e => by cases e
theorem KO.cls {t : Value} : ∀ {os : List (Option Bool)} {vs : List V} {us : List Value}, KO K t os vs us → Paired ClsV vs us
  | _, _, _, .nil => .nil
  | _, _, _, .cons c _ r => .cons c r.cls
theorem KO.len {t : Value} : ∀ {os : List (Option Bool)} {vs : List V} {us : List Value}, KO K t os vs us → vs.length = os.length
  | _, _, _, .nil => rfl
  | _, _, _, .cons _ _ r => by rw [List.length_cons, List.length_cons, r.len]
theorem xe_isp {oe : Obj} {x cn : Str} {p p1 p2 pos : Pos} {cv : Value} {v : V} {o : Option Bool} (T : XfC X.K (G.at_ C.c)) (I : IsC X.K (G.at_ C.c)) (hz : Zc (.ref (G.at_ C.c)) C.d oe) (hf : ∃ vs, oe.data = .fields vs) (hp : (C.a, oe) ∈ X.pn)
    (hi : X.mg "isinstance" = none) (hgi : Gl X "isinstance") (hx : X.N[C.i]? = some x) (hv : Vis X.env.scope x) (hd : (x == ("__debug__" : Str)) = false) (hcd : (x == ("__classdict__" : Str)) = false)
    (hc : PE X (.Name cn p2) (tC v)) (hone : ∀ u, RelV v u → u = cv) (hk : ∀ b, o = some b → PySem.W.kitOne X.K (.ref (G.at_ C.c)) cv = some b) (hs : starEach [.Name x p1, .Name cn p2] X.env = (false, eval (.Name x p1) X.env) :: starEach [.Name cn p2] X.env)
    (hs2 : starEach [.Name cn p2] X.env = (false, eval (.Name cn p2) X.env) :: starEach [] X.env) (hpl : (backTo pos (starEach [.Name cn p2] X.env)).any (·.1) = false) :
    PE X (.Call (.Name "isinstance" p) [.Name x p1, .Name cn p2] [] pos) (tXM X.K G C fun _ => eKit o) := by
  refine peImp (pe_callB (call_isP T I hz hf hp) hgi hi PyProof.Rows.boot_isinstance (pa_cons (pe_var (i := C.i) hx hv hd hcd) (pa_cons hc pa_nil hs2) hs) (by decide) (by decide) hs hpl) fun σ H Q t => ?_
  obtain ⟨fs, ρ, h, env, hσ, rx, hr, hE, q⟩ := t
  obtain ⟨dd, vfs, k1, k2, _⟩ := rx
  cases o with
  | none => exact q.elim
  | some b => exact ⟨_, hσ, ⟨v, cv, b, rfl, hone, hk b rfl, ⟨dd, vfs, k1, k2⟩, q ρ H _ Ex.refl hr (.bl b)⟩⟩
theorem xe_ispT {oe : Obj} {x : Str} {es : List Expr} {p p1 p2 pos : Pos} {x1 : Nat} {vs : List V} {us : List Value} {os : List (Option Bool)} (T : XfC X.K (G.at_ C.c)) (I : IsC X.K (G.at_ C.c)) (hz : Zc (.ref (G.at_ C.c)) C.d oe) (hf : ∃ vs, oe.data = .fields vs) (hp : (C.a, oe) ∈ X.pn)
    (hi : X.mg "isinstance" = none) (hgi : Gl X "isinstance") (hx : X.N[C.i]? = some x) (hv : Vis X.env.scope x) (hd : (x == ("__debug__" : Str)) = false) (hcd : (x == ("__classdict__" : Str)) = false)
    (hc : PA X es (tCs vs)) (ko : KO X.K (.ref (G.at_ C.c)) os vs us) (hl : os.length ≤ 100) (hs : starEach [.Name x p1, .Tuple es x1 p2] X.env = (false, eval (.Name x p1) X.env) :: starEach [.Tuple es x1 p2] X.env)
    (hs2 : starEach [.Tuple es x1 p2] X.env = (false, eval (.Tuple es x1 p2) X.env) :: starEach [] X.env) (hpl : (backTo pos (starEach [.Tuple es x1 p2] X.env)).any (·.1) = false) :
    PE X (.Call (.Name "isinstance" p) [.Name x p1, .Tuple es x1 p2] [] pos) (tXM X.K G C fun _ => eKit (anyK os)) := by
  refine peImp (pe_callB (call_isPT T I hz hf hp) hgi hi PyProof.Rows.boot_isinstance (pa_cons (pe_var (i := C.i) hx hv hd hcd) (pa_cons (pe_tup hc) pa_nil hs2) hs) (by decide) (by decide) hs hpl) fun σ H Q t => ?_
  obtain ⟨fs, ρ, h, env, hσ, rx, hr, hE, q⟩ := t
  obtain ⟨dd, vfs, k1, k2, _⟩ := rx
  cases ho : anyK os with
  | none => rw [ho] at q; exact q.elim
  | some b =>
    rw [ho] at q
    refine ⟨_, hσ, by rw [ko.len]; exact line4k (by omega), fun tp hp' => ?_⟩
    exact ⟨tp, vs, us, b, rfl, upd_same, ko.cls, ko.any ho, ⟨dd, vfs, k1, (Ex.fresh (K := X.K) (ρ := ρ) (u := .tup vs) hp').xds _ _ k2⟩, q _ _ _ (Ex.fresh hp') (hr.aux hp') (.bl b)⟩
end
/-! ### a def of one parameter, to which the handled error is given -/
/-- what such a def promises: fm c fs for an error of class c with fields fs -/
structure FnE (P : Program) (w : World) (K : PySem.W.Frag) (mg : Str → Option Value) (base : Heap) (G : Cl) (k : Nat) (f : Addr) (fd : FuncData) (x : Str) (fm : Nat → List D → Hh → R D) : Prop where
  run : ∀ (A : Around) (outer : List Env) (s : Shared) (H : Hp) (args : Args) (Q : VK) (E : XK) (p : Addr × Obj) (c : Nat) (d : Option Addr) (fs : List D) (ρ : List Addr) (h : Hh), L2H.RoomH k A → L2H.Hot1 A p → L2H.PinOk outer H s p → Env0 P w K mg base A outer s H →
    BindsTo s fd args [(x, .ref p.1)] → L2N.Zn (.ref (G.at_ c)) d p.2 → (∃ vs, p.2.data = .fields vs) → Rx K G ρ H d c fs → Rh K G ρ H h → Po K G (relV K) (fun c d _ H => E c d H) ρ H [] (fm c fs h) Q →
    codeAny (model P w) A (.call (.ref f) args) (CR (L2N.CX P w) outer P w H s Q E) s
def fnE0 : SR → R D
  | .nx _ h' => .ok .non h'
  | .rt d h' => .ok d h'
  | _ => .bad
def fnE (e n : Nat) (body : Nat → List D → S) (c : Nat) (fs : List D) (h : Hh) : R D := if c < e then fnE0 (body c fs (List.replicate n none) h) else .bad
@[simp] theorem fnE_lt {e n : Nat} {body : Nat → List D → S} {c : Nat} {fs : List D} {h : Hh} (hc : c < e) : fnE e n body c fs h = fnE0 (body c fs (List.replicate n none) h) := if_pos hc
@[simp] theorem fnE0_nx (e : Ev) (h : Hh) : fnE0 (.nx e h) = .ok .non h := rfl
@[simp] theorem fnE0_rt (d : D) (h : Hh) : fnE0 (.rt d h) = .ok d h := rfl
section
variable {P : Program} {w : World} {K : PySem.W.Frag} {mg : Str → Option Value} {base : Heap} {G : Cl}
theorem fnE_ok {x qual y : Str} {st : Stmt} {f : Addr} {fd : FuncData} {N : List Str} {k n en : Nat} {body : Nat → List D → S} (hn : N.length = n) (h0 : 0 < n) (F : Fun K x qual st f fd) (S : FnScope N [y] (defScope st))
    (hb : ∀ (cdv : Value) (A : Around) (outer : List Env) (s : Shared) (H : Hp) (E : XK) (p : Addr × Obj) (c : Nat) (d : Option Addr) (hlt : c < en) (hz : L2N.Zn (.ref (G.at_ c)) d p.2) (hf : ∃ vs, p.2.data = .fields vs), CtH (L2H.cxH (L2N.CX P w) P w K mg base N qual (defScope st) f cdv A outer s H E p) (fun c d _ H => E c d H) k →
      PSs (L2H.cxH (L2N.CX P w) P w K mg base N qual (defScope st) f cdv A outer s H E p) (defBody st) (tXS K G ⟨0, p.1, d, c⟩ (body c))) : FnE P w K mg base G (k + 1) f fd y (fnE en n body) := by
  subst hn
  obtain ⟨oc, od, kV, doc, pm, an, cdv, ct, osl, rfl, lk, hcd⟩ := F.ex
  refine ⟨fun A outer s H args Q E p c d fs ρ h hr hot hpin e0 hbd hz hf rx rh q => ?_⟩
  have KX : K.In s.heap := e0.mod.kin.keeps fun b o e => (e0.bs b o e).1
  have lim : s.heap.NoLimit := e0.mod.nolimit.keeps fun b o e => (e0.bs b o e).1
  refine codeAny_call_function hr.depth (KX _ _ lk) rfl S.co S.gen rfl (PySem.W.codeRec_of KX hcd) (hbd _ _ _ _ ?_)
  refine wpAny_newFunctionEnv_cells S.kind (fun z hz' => ?_) fun env he s1 x1 => ?_
  · have e : z = (y, Value.ref p.1) := by simpa using hz'
    rcases S.par y (by simp) with q' | q'
    · left
      rw [e]
      exact q'
    · right
      rw [e]
      exact ⟨q', PySem.W.cellsFrom_some _ _ _ (.inl q')⟩
  subst he
  refine ⟨lim.keeps x1.toInCall.keep, codeAny_func ?_⟩
  have I : Inv (L2H.cxH (L2N.CX P w) P w K mg base N qual (defScope st) f cdv A outer s H E p) [] (L2.start N [.ref p.1]) H s1 := L2H.inv_startH (ps := [y]) (vs := [.ref p.1]) (us := [.ref p.1]) S hpin e0 rfl (.cons rfl .nil) x1
  have C : CtH (L2H.cxH (L2N.CX P w) P w K mg base N qual (defScope st) f cdv A outer s H E p) (fun c d _ H => E c d H) k := ⟨hr.deeper _, ⟨p, hot, List.mem_cons_self⟩, S.nd, passes_of rfl, L2N.takes_of rfl rfl rfl rfl⟩
  have hs0 : (L2.start N [.ref p.1])[0]? = some (some (.ref p.1)) := by unfold L2.start; rfl
  have re : Re K ρ H (L2.start N [.ref p.1]) (List.replicate N.length none) := by
    refine ⟨?_, fun i d e => ?_⟩
    · unfold L2.start
      simp
      omega
    · simp [List.getElem?_replicate] at e
  have hlt : c < en := by
    refine Classical.byContradiction fun hn => ?_
    unfold fnE at q
    rw [if_neg hn] at q
    exact q
  have q0 : PoS K G WN ρ H { nx := fun _ H' => Q .non H', rt := Q } (body c fs (List.replicate N.length none) h) := by
    rw [fnE_lt hlt] at q
    cases z : body c fs (List.replicate N.length none) h with
    | nx env h' => rw [z] at q; exact fun ρ' H' σ' e a b => q ρ' H' .non e a .non
    | rt d h' => rw [z] at q; exact q
    | exc c fs env h' => rw [z] at q; exact q.elim
    | bk env h' => rw [z] at q; exact q.elim
    | ct env h' => rw [z] at q; exact q.elim
    | bad => rw [z] at q; exact q.elim
  refine wpAny_mono ((hb cdv A outer s H E p c d hlt hz hf C).run [] s1 (L2.start N [.ref p.1]) H _ I ⟨fs, ρ, h, _, hs0, rx, rh, re, q0⟩) (fun fl s' hs => ?_) fun e s' hs => hs
  have fin : ∀ {σ' : L2.St} {H' : Hp} {v : V} {u : Value}, Inv (L2H.cxH (L2N.CX P w) P w K mg base N qual (defScope st) f cdv A outer s H E p) [] σ' H' s' → RelV v u → Q v H' → CE outer P w H s Q u s' :=
    fun {σ' H' v u} J rv q => ⟨v, H', J.os, J.bare, J.base, J.hok, rv, q⟩
  cases fl with
  | ret u =>
    obtain ⟨v, σ', H', J, rv, q⟩ := hs
    exact fin J rv q
  | next =>
    obtain ⟨σ', H', J, q⟩ := hs
    exact fin (v := V.non) (u := Value.none) J rfl q
  | brk =>
    obtain ⟨_, _, _, q⟩ := hs
    exact False.elim q
  | cont =>
    obtain ⟨_, _, _, q⟩ := hs
    exact False.elim q
end
/-- a def of the text that takes the handled error -/
def OkE (P : Program) (w : World) (K : PySem.W.Frag) (mg : Str → Option Value) (base : Heap) (G : Cl) (j : Nat) (x : Str) (y : Str) (fm : Nat → List D → Hh → R D) : Prop :=
  ∃ f fd, mg x = some (.ref f) ∧ PySem.W.keepIn K (.ref f) = true ∧ Binds K fd [y] [] ∧ FnE P w K mg base G j f fd y fm
theorem FnE.mono {P : Program} {w : World} {K : PySem.W.Frag} {mg : Str → Option Value} {base : Heap} {G : Cl} {j k : Nat} {f : Addr} {fd : FuncData} {x : Str} {fm : Nat → List D → Hh → R D} (F : FnE P w K mg base G j f fd x fm) (h : j ≤ k) : FnE P w K mg base G k f fd x fm :=
  ⟨fun A outer s H args Q E p c d fs ρ h' hr => F.run A outer s H args Q E p c d fs ρ h' (hr.mono h)⟩
def eErr (fm : Nat → List D → Hh → R D) (c : Nat) (fs : List D) : M := fun _ h => fm c fs h
@[simp] theorem eErr_eq (fm : Nat → List D → Hh → R D) (c : Nat) (fs : List D) (env : Ev) (h : Hh) : eErr fm c fs env h = fm c fs h := rfl
section
variable {X : Cx} {G : Cl} {C : XCt} {pos p p1 : Pos} {k j : Nat} {x y n : Str} {fm : Nat → List D → Hh → R D}
theorem xe_err {a : Addr} {oe : Obj} {cls : Value} {pn : List (Addr × Obj)} (hC : C.a = a) (ct : CtH (X.suite a ((a, oe) :: pn)) WN k) (F : OkE X.prog X.w X.K X.mg X.base G j x y fm) (hj : j ≤ k) (hg : Gl X x) (hcls : cls = .ref (G.at_ C.c)) (hz : L2N.Zn cls C.d oe) (hf : ∃ vs, oe.data = .fields vs)
    (hx : X.N[C.i]? = some n) (hv : Vis X.env.scope n) (hd : (n == ("__debug__" : Str)) = false := by decide) (hcd : (n == ("__classdict__" : Str)) = false := by decide) (hdb : (x == ("__debug__" : Str)) = false := by decide)
    (he : starEach [.Name n p1] X.env = (false, eval (.Name n p1) X.env) :: starEach [] X.env := by rfl) (hpl : (backTo pos (starEach [] X.env)).any (·.1) = false := by rfl) :
    PE (X.suite a ((a, oe) :: pn)) (.Call (.Name x p) [.Name n p1] [] pos) (tXM X.K G C (eErr fm C.c)) := by
  obtain ⟨f, fd, hm, hk, hb, F⟩ := F
  subst hC hcls
  refine ⟨fun pins s σ H Q I t => ?_⟩
  obtain ⟨fs, ρ, h, env, hσ, rx, rh, hE, q⟩ := t
  refine wpAny_Call_Name_kw (ld_glob I hg hm ?_ hdb)
  have ha : PA (X.suite C.a ((C.a, oe) :: pn)) [.Name n p1] _ := pa_cons (pe_var (X := X.suite C.a ((C.a, oe) :: pn)) (i := C.i) hx hv hd hcd) pa_nil he
  refine PySem.W.callWith_K (h₀ := X.base) I.ok.mod.kin hk (thn (ha.run pos pins s σ H (fun vs H1 => vs = [.ref C.a] ∧ H1 = H) I ⟨_, hσ, rfl, rfl⟩) fun us s1 ⟨vs, H1, I1, r, q1, q2⟩ => ⟨I1.kIn, ?_⟩) he hpl
  subst q1 q2
  cases r with
  | cons ra rr =>
  cases rr
  cases ra
  have P1 := I1.pin (C.a, oe) (List.mem_append_left _ List.mem_cons_self)
  have hpin : L2H.PinOk (X.suite C.a ((C.a, oe) :: pn)).stack H1 s1 (C.a, oe) := ⟨P1.1, P1.2.1, fun hm => (List.mem_cons.mp (I1.stkSub C.a hm)).elim P1.2.2.1 P1.2.2.2.1, P1.2.2.2.2⟩
  obtain ⟨vs, hv'⟩ := hf
  have hot : L2H.Hot1 (X.suite C.a ((C.a, oe) :: pn)).A (C.a, oe) := ⟨rfl, vs, hv', hz.2.2 vs hv'⟩
  have b := hb s1 [.ref C.a] I1.kIn (by rfl)
  rw [List.append_nil] at b
  refine wpAny_call (codeAny_mono ((F.mono hj).run (X.suite C.a ((C.a, oe) :: pn)).A (X.suite C.a ((C.a, oe) :: pn)).stack s1 H1 ⟨[.ref C.a], []⟩ Q (fun _ _ _ => False) (C.a, oe) C.c C.d fs ρ h ct.hr hot hpin I1.env0 b hz ⟨vs, hv'⟩ rx rh ?_) fun r s' hq => ?_)
  · unfold eErr at q
    cases z : fm C.c fs h with
    | ok d h' => rw [z] at q; exact q
    | bad => rw [z] at q; exact q
    | exc c' fs' h' => rw [z] at q; exact q
  · cases r with
    | error e => exact L2N.passAt ct.tk σ pins H1 s1 e s' I1 hq
    | ok fl =>
      cases fl with
      | ret u => exact I1.after hq
      | next => exact False.elim hq
      | brk => exact False.elim hq
      | cont => exact False.elim hq
end
/-! ### more of what stands in a suite -/
section
variable {X : Cx} {G : Cl} {C : XCt} {a b e : Expr} {es : List Expr} {rest : List Stmt} {pos p : Pos} {ma mb m : List D → M} {ms : List (List D → M)} {r : List D → S} {x : Str}
theorem xe_bin {op : Operator} {rr : R2} {f : D → D → Hh → Option (D × Hh)} (ho : OpR X (binaryOp op) rr) (i : Imp2 X.K G rr f) (ha : PE X a (tXM X.K G C ma)) (hb : PE X b (tXM X.K G C mb)) : PE X (.BinOp a op b pos) (tXM X.K G C fun fs => eB f (ma fs) (mb fs)) :=
  peImp (pe_op ho ha hb) fun σ H Q ⟨fs, ρ, h, env, hσ, rx, hr, hE, q⟩ =>
    tX_mono (tX_bind (rel := relV X.K) hσ rx hr hE q) fun x H1 ⟨ρ1, h1, d, e1, rx1, hr1, he1, r1, p1⟩ =>
      tX_mono (tX_bind (rel := relV X.K) hσ rx1 hr1 he1 p1) fun y H2 ⟨ρ2, h2, d2, e2, rx2, hr2, he2, r2, p2⟩ => by
        obtain ⟨d3, h3, eq, k⟩ := p2.opt
        exact i hr2 (r1.mono e2) r2 eq k
theorem xe_callT {T : String} {rr : List V → Hp → VK → Prop} {f : List D → Hh → Option (D × Hh)} (hc : CallR X (.type T) rr) (i : ImpN X.K G rr f) (hg : Gl X x) (hm : X.mg x = none) (hv : bootBuiltins x = some (.type T)) (ha : PA X (e :: es) (tXL X.K G C (evsX ms))) (hn : x ≠ "__name__" := by decide) (hdb : (x == ("__debug__" : Str)) = false := by decide)
    (he : starEach (e :: es) X.env = (false, eval e X.env) :: starEach es X.env := by rfl) (hpl : (backTo pos (starEach es X.env)).any (·.1) = false := by rfl) : PE X (.Call (.Name x p) (e :: es) [] pos) (tXM X.K G C fun fs => eN f (ms.map fun m => m fs)) :=
  peImp (pe_callTy hc hg hm hv ha hn hdb he hpl) fun σ H Q ⟨fs, ρ, h, env, hσ, rx, hr, hE, q⟩ => by
    refine ⟨fs, ρ, h, env, hσ, rx, hr, hE, ?_⟩
    dsimp only at q
    unfold eN at q
    unfold evsX
    cases z : evs (ms.map fun m => m fs) env h with
    | bad => rw [z] at q; exact q
    | exc c fs h' => rw [z] at q; exact q
    | ok ds h1 =>
      rw [z] at q
      intro ρ' H' vs e1 a1 b1
      have q' : Po X.K G (relV X.K) WN ρ' H' σ (R.opt (f ds h1)) Q := Po.shift q e1
      obtain ⟨d, h2, eq, k⟩ := q'.opt
      exact i a1 b1 eq k
def sSetR (j : Nat) (m : M) (r : S) : S := fun env h => bindS (m env h) env fun d h1 => r (env.set j (some d)) h1
@[simp] theorem sSetR_seq (j : Nat) (m : M) (r : S) (env : Ev) (h : Hh) : sSetR j m r env h = sSeq (sSet j m) r env h := by
  unfold sSetR
  rw [sSeq_eq]
  unfold sSet
  cases m env h <;> rfl
theorem xs_setc (j : Nat) {y : Str} {pos' : Pos} (hj : j ≠ C.i) (hN : X.N.Nodup) (ha : PE X a (tXM X.K G C m)) (hb : PSs X rest (tXS X.K G C r)) (hi : X.N[j]? = some y := by rfl) (hx : Loc X.env.scope y := by first | exact Or.inl rfl | exact Or.inr rfl) (hs : swapsWith a (some (.Name y pos')) pos.line X.env = pure false := by rfl)
    (hf : X.fn y = true ∨ X.env.scope.names.lookup y = some .local := by first | exact .inl rfl | exact .inr rfl) : PSs X (.Assign [.Name y pos'] a pos :: rest) (tXS X.K G C fun fs => sSetR j (m fs) (r fs)) :=
  pssImp (pss_cons (ps_set hN hi hx ha hs hf) hb) fun D0 σ H ⟨fs, ρ, h, env, hσ, rx, hr, hE, q⟩ => tX_mono (tXS_bind (rel := relV X.K) hσ rx hr hE q) fun x H1 ⟨ρ1, h1, d, e1, rx1, hr1, he1, r1, p1⟩ =>
    ⟨fs, ρ1, h1, _, by rw [List.getElem?_set_ne hj]; exact hσ, rx1, hr1, he1.set r1 j, p1⟩
end
theorem fnH_bad {P : Program} {w : World} {K : PySem.W.Frag} {mg : Str → Option Value} {base : Heap} {G : Cl} {k : Nat} {f : Addr} {fd : FuncData} {ps : List Str} {n : Nat} (hp : ps.length = n) : L2H.FnH P w K mg base (L2N.CX P w) k f fd ps (spM K G n fun _ _ => .bad) :=
  ⟨fun vs H Q E ⟨_, _, _, _, _, l, _⟩ => by rw [l, hp], fun A outer s H args us vs Q E p _ _ _ _ _ _ ⟨_, _, _, _, _, _, q⟩ => q.elim⟩
end Sm
/-! SmStr: str(int), ord(sign) -/
namespace Sm
open PySem PySem.Spec L2 PyProof.Rows
def opStr : List D → Hh → Option (D × Hh)
  | [.int i], h => if i.natAbs.log2 < 1920 then some (.str (toString i), h) else none
  | _, _ => none
theorem im_str {K : PySem.W.Frag} {G : Cl} : ImpN K G (fun xs H Q => ∃ i, xs = [V.int i] ∧ i.natAbs.log2 < 1920 ∧ Q (.str (toString i)) H) opStr := fun {ρ H h xs ds d h' Q} hr rs e k => by
  unfold opStr at e
  split at e
  · split at e
    · rename_i q
      cases e
      obtain ⟨v, rfl, r⟩ := rs.one
      cases r
      exact ⟨_, rfl, q, k _ _ _ Ex.refl hr (.str _)⟩
    · cases e
  · cases e
def opOrd : List D → Hh → Option (D × Hh)
  | [.str x], h => if x.length = 1 then some (.int (x.cps.getD 0 0 : Nat), h) else none
  | _, _ => none
theorem im_ord {K : PySem.W.Frag} {G : Cl} : ImpN K G (fun xs H Q => ∃ x : Str, xs = [V.str x] ∧ x.length = 1 ∧ Q (.int (x.cps.getD 0 0 : Nat)) H) opOrd := fun {ρ H h xs ds d h' Q} hr rs e k => by
  unfold opOrd at e
  split at e
  · split at e
    · rename_i q
      cases e
      obtain ⟨v, rfl, r⟩ := rs.one
      cases r
      exact ⟨_, rfl, q, k _ _ _ Ex.refl hr (.int _)⟩
    · cases e
  · cases e
section
variable {X : Cx} {G : Cl} {W : WX} {K : PySem.W.Frag}
@[simp] theorem opStr_i (i : Int) (h : Hh) : opStr [.int i] h = if i.natAbs.log2 < 1920 then some (.str (toString i), h) else none := rfl
@[simp] theorem opOrd_s (x : Str) (h : Hh) : opOrd [.str x] h = if x.length = 1 then some (.int (x.cps.getD 0 0 : Nat), h) else none := rfl
end
end Sm
/-! SmHc: where an error is handled: list comprehensions over a range, all(..). -/
namespace Sm
open PySem PySem.Spec L2 PyProof.Rows
/-- the block of a comprehension there: the handled error stays pinned -/
abbrev blkH (X : Cx) (s0 : Shared) (G0 : Hp) (sc : Scope) (ev : Env) (own : List Addr) (p : Addr × Obj) : Cx := { X.blk s0 G0 sc ev own with pn := [p] }
theorem Inv.blkH {X : Cx} {s0 s1 : Shared} {G0 G1 : Hp} {sc : Scope} {ev : Env} {own : List Addr} {p : Addr × Obj} {τ : L2.St} (J : Inv (X.blk s0 G0 sc ev own) [] τ G1 s1)
    (hp : s1.heap.get? p.1 = some p.2 ∧ G1 p.1 = none ∧ p.1 ≠ ev.locals ∧ p.1 ∉ frs X.stack ∧ ∀ v, p.2.data ≠ .cell v) : Inv (Sm.blkH X s0 G0 sc ev own p) [] τ G1 s1 := by
  have k := J.ok
  have k' : (Sm.blkH X s0 G0 sc ev own p).Ok := ⟨k.mod, k.kind, k.glob, k.blt, k.above, k.inj, k.has, k.cab, k.hd, k.frames, k.stk, k.exf, k.bs, k.bsz, k.noex, k.exfs, k.funs, k.frf⟩
  exact ⟨k', J.os, J.bare, J.base, J.loc, J.cell, J.free, J.freeC, fun q hq => by
    have e : q = p := by simpa using hq
    rw [e]; exact hp, J.hok, J.len⟩
section
variable {X : Cx} {pins : List (Addr × Obj)} {s : Shared} {σ : L2.St} {H : Hp} {Q : VK} {elt tg iter : Expr} {ifs : List Expr} {sc : Scope} {own : List (Str × Nat)} {pos pq : Pos} {wi : TI} {g : TG} {tt : TT} {te : TE} {use : Option (Value → Sem Unit)} {Z : Value → Shared → Prop}
theorem lcH_run (hot : L2H.HotC X) (nd : X.N.Nodup) (I : Inv X pins σ H s) (hi : L2H.PIH X tg iter wi) (bk : BlkOk X.N X.env.scope sc own)
    (hg : ∀ s0 G0 C cl fp p, L2H.Hot1 X.A p → PG (blkH X s0 G0 sc (compEnvC sc cl C X.env) fp p) tg g)
    (ht : ∀ s0 G0 C cl fp p, L2H.Hot1 X.A p → PTs (blkH X s0 G0 sc (compEnvC sc cl C X.env) fp p) ifs tt)
    (he : ∀ s0 G0 C cl fp p, L2H.Hot1 X.A p → PE (blkH X s0 G0 sc (compEnvC sc cl C X.env) fp p) elt te)
    (hs : ∀ x, foldedSetIterable iter X.env x = pure x) (h : tLc wi g tt te (own.map (·.2)) σ H Q)
    (out : ∀ B C t m G1, Inv X pins σ G1 t → Q (.ref B) G1 → t.heap.Ns C m → FpOk X pins G1 C → compPost (model X.prog X.w) X.A X.xe use Z (.ref B) C (.ok .next) t) :
    wpAny (model X.prog X.w) X.A (comprehension (.ListComp elt [⟨tg, iter, ifs, 0⟩] sc pos) sc X.env pq (newList []) false (eval iter X.env) use) Z X.xe s := by
  obtain ⟨p, hp1, hp2⟩ := hot
  have clo : ∀ y ∈ sc.names, y.2 = .free → ∃ c, X.env.cells.lookup y.1 = some c := by
    intro y hy e
    cases bk.free y hy e with
    | inl k => exact I.ok.has _ (.inl k)
    | inr k => exact I.ok.has _ (.inr k)
  have uq : ∀ y ∈ sc.names, y.2 = .local → sc.names.lookup y.1 = some .local := fun y hy e => (bk.uniq y hy).trans (congrArg some e)
  refine wpAny_comprehension_free (use := use) rfl hs (closure_ok clo) bk.kind uq (thn (hi.run pins s σ H _ I h) fun a1 t1 q1 => thn q1 fun a2 t2 q2 => ?_)
  obtain ⟨it, fp, tn, J, G2, rfl, K2, T, n2, f2, qq⟩ := q2
  refine wpAny_newObj_type (newEnv_comp ?_) (by show 0 ≤ sizeLine; decide)
  obtain ⟨B, hB⟩ : ∃ B, t2.heap.objs.size = B := ⟨_, rfl⟩
  rw [hB]
  have nB : G2 B = none := K2.hok.fresh (Nat.le_of_eq hB)
  obtain ⟨W, ⟨m0, w0⟩, turn⟩ := qq B nB
  obtain ⟨t3, e3⟩ : ∃ t3 : Shared, t3 = { t2 with heap := t2.heap.push { cls := .type "list", data := .seq ([] : List Value).toArray } } := ⟨_, rfl⟩
  have h3 : t3.heap = t2.heap.push { cls := .type "list", data := .seq ([] : List Value).toArray } := by rw [e3]
  rw [← e3]
  have K3 : Inv X pins σ (upd G2 B (.lst [])) t3 := by
    rw [e3]
    exact K2.laid (t' := t2.toks) (fun b o e => Heap.get?_push_of_some _ e) (Nat.le_of_eq hB) ⟨Nat.zero_le _, [], 0, .nil, by rw [← hB]; exact Heap.get?_push_size _ rfl⟩
  have f3 : ∀ b ∈ fp, FpOk X pins (upd G2 B (.lst [])) b ∧ b < t3.heap.objs.size := by
    intro b hb
    obtain ⟨o, e, _⟩ := T.obj _ _ n2 b hb
    have lt := Heap.lt_size e
    constructor
    · refine ⟨?_, (f2 b hb).2⟩
      rw [upd_ne (Nat.ne_of_lt (hB ▸ lt))]
      exact (f2 b hb).1
    · rw [h3, Heap.size_push]; exact Nat.lt_succ_of_lt lt
  have n3 : tn 0 t3.heap := T.keep _ _ _ n2 fun b _ o e => by rw [h3]; exact Heap.get?_push_of_some _ e
  have K4' := block_start K3 bk nd f3
  obtain ⟨C, hC⟩ : ∃ C, C = t3.heap.objs.size := ⟨_, rfl⟩
  obtain ⟨cl, hcl⟩ : ∃ cl, cl = cellsFrom (t3.heap.objs.size + 1) sc.names (cloFrom X.env.cells sc.names []) := ⟨_, rfl⟩
  show codeAny _ _ (.compStart (.ListComp elt [⟨tg, iter, ifs, 0⟩] sc pos) 0 (.ref it) (.ref B) (compEnvC sc (cellsFrom (t3.heap.objs.size + 1) sc.names (cloFrom X.env.cells sc.names [])) t3.heap.objs.size X.env)) (compPost (model X.prog X.w) X.A X.xe use Z (.ref B) t3.heap.objs.size) { t3 with heap := pushCells (t3.heap.push { cls := .type "dict", data := .dict #[] }) sc.names }
  obtain ⟨t4, e4⟩ : ∃ t4 : Shared, t4 = { t3 with heap := pushCells (t3.heap.push { cls := .type "dict", data := .dict #[] }) sc.names } := ⟨_, rfl⟩
  obtain ⟨G3, eG3⟩ : ∃ G3, G3 = upd G2 B (.lst []) := ⟨_, rfl⟩
  rw [← e4, ← hcl, ← hC]
  rw [← e4, ← hcl, ← hC, ← eG3] at K4'
  rw [← eG3] at K3 f3 w0
  have keep4 : ∀ b o, t3.heap.get? b = some o → t4.heap.get? b = some o := fun b o e => by rw [e4]; exact pushCells_keeps _ _ _ _ (Heap.get?_push_of_some _ e)
  have n4 : tn 0 t4.heap := T.keep _ _ _ n3 fun b _ o e => keep4 b o e
  have pin3 := K3.pin p (List.mem_append_left _ hp2)
  have K4 : Inv (blkH X t3 G3 sc (compEnvC sc cl C X.env) fp p) [] (wipe σ (own.map (·.2))) G3 t4 := Inv.blkH K4' ⟨keep4 _ _ pin3.1, pin3.2.1, by
    show p.1 ≠ C
    rw [hC]
    exact Nat.ne_of_lt (Heap.lt_size pin3.1), fun hm => by
    rcases List.mem_cons.mp (K3.stkSub p.1 hm) with z | z
    · exact pin3.2.2.1 z
    · exact pin3.2.2.2.1 z, pin3.2.2.2.2⟩
  have hotB : L2H.HotC (blkH X t3 G3 sc (compEnvC sc cl C X.env) fp p) := ⟨p, hp1, List.mem_cons_self⟩
  have stay : ∀ {τ : L2.St} {G1 : Hp} {t : Shared}, Inv (blkH X t3 G3 sc (compEnvC sc cl C X.env) fp p) [] τ G1 t → (∀ b ∈ fp, G1 b = none) → ∀ b ∈ fp, FpOk (blkH X t3 G3 sc (compEnvC sc cl C X.env) fp p) [] G1 b := by
    intro τ G1 t K nn b hb
    refine ⟨nn b hb, (K.ok.exf b hb).1, K.ok.exfs b hb, .inl hb, fun x c e => (K.ok.exf b hb).2 x c e, fun q hq => ?_⟩
    have e : q = p := by simpa using hq
    rw [e]
    exact (f3 b hb).1.2.2.2.2.2 p (List.mem_append_left _ hp2)
  have pg := hg t3 G3 C cl fp p hp1
  have pt := ht t3 G3 C cl fp p hp1
  have pe := he t3 G3 C cl fp p hp1
  have loop : codeAny (model X.prog X.w) X.A (.compLoop (.ListComp elt [⟨tg, iter, ifs, 0⟩] sc pos) 0 (.ref it) (.ref B) (compEnvC sc cl C X.env)) (compPost (model X.prog X.w) X.A X.xe use Z (.ref B) C) t4 := by
    refine compLoop_any (fun n t => ∃ i G1, Inv (blkH X t3 G3 sc (compEnvC sc cl C X.env) fp p) [] (wipe σ (own.map (·.2))) G1 t ∧ tn i t.heap ∧ (∀ b ∈ fp, G1 b = none) ∧ W i n G1) ?_ m0 ⟨0, G3, K4, n4, fun b hb => (f3 b hb).1.1, w0⟩
    rintro n t5 ⟨i, G5, K5, n5, z5, w5⟩
    cases turn i n G5 w5 with
    | inl st =>
      refine thnF (T.done (blkH X t3 G3 sc (compEnvC sc cl C X.env) fp p) rfl rfl rfl hotB i [] t5 _ G5 (fun _ _ => False) K5 (stay K5 z5) n5 st.1) fun r t6 hr => ?_
      obtain ⟨rfl, K6⟩ := hr
      have K7 : Inv X pins σ G5 t6 := K3.call' (ch := fp) K6.os K6.base K6.hok K6.bare fun b hb => by
        have z := (f3 b hb).1.2
        exact ⟨z.2.2.1, z.1, z.2.2.2.1, z.2.2.2.2⟩
      have nC : G5 C = none := K6.free
      obtain ⟨m, hn, _⟩ := K6.loc
      exact out B C t6 m G5 K7 st.2 hn (K3.fpOk (Nat.le_of_eq hC.symm) nC)
    | inr st =>
      obtain ⟨go, Nx, hNx, step⟩ := st
      refine thnF (T.item (blkH X t3 G3 sc (compEnvC sc cl C X.env) fp p) rfl rfl rfl hotB i [] t5 _ G5 (fun _ _ => False) K5 (stay K5 z5) n5 go) fun r t6 hr => ?_
      obtain ⟨u, rfl, q6⟩ := hr
      refine thnF q6 fun _ t7 q7 => ?_
      obtain ⟨x, G7, K7, r7, y7, n7, z7⟩ := q7
      have K7p := K7.pinned (stay K7 z7) (T.obj _ _ n7)
      refine thnF (pg.run _ t7 _ G7 x u _ K7p r7 (step x G7 y7)) fun _ t8 q8 => ?_
      obtain ⟨τ8, G8, K8, hw, q8⟩ := q8
      refine thnF (pt.run _ t8 τ8 G8 _ K8 q8) fun b t9 q9 => ?_
      obtain ⟨G9, K9, q9⟩ := q9
      have next : ∀ {t : Shared} {G1 : Hp}, Inv (blkH X t3 G3 sc (compEnvC sc cl C X.env) fp p) ([] ++ pinsAt fp t7.heap) τ8 G1 t → Nx G1 → ∃ m, m < n ∧ ∃ i G1, Inv (blkH X t3 G3 sc (compEnvC sc cl C X.env) fp p) [] (wipe σ (own.map (·.2))) G1 t ∧ tn i t.heap ∧ (∀ b ∈ fp, G1 b = none) ∧ W i m G1 := by
        intro t G1 K nx
        obtain ⟨m', hm, w'⟩ := hNx G1 nx
        have held : ∀ b ∈ fp, ∀ o, t7.heap.get? b = some o → t.heap.get? b = some o ∧ G1 b = none := by
          intro b hb o e
          have z := K.pin (b, o) (List.mem_append_right _ (List.mem_append_right _ (mem_pinsAt hb e)))
          exact ⟨z.1, z.2.1⟩
        refine ⟨m', hm, i + 1, G1, (K.unpinned (pins := [])).weak (by rw [← hw, wipe_length]) (fun j v e => ?_), T.keep _ _ _ n7 fun b hb o e => (held b hb o e).1, fun b hb => ?_, w'⟩
        · rw [← hw] at e
          exact (wipe_some e).1
        · obtain ⟨o, e, _⟩ := T.obj _ _ n7 b hb
          exact (held b hb o e).2
      cases b with
      | false =>
        simp only [Bool.false_eq_true, if_false] at q9 ⊢
        exact next K9 q9
      | true =>
        simp only [if_true] at q9 ⊢
        refine thnF (pe.run _ t9 τ8 G9 _ K9 q9) fun z t10 q10 => ?_
        obtain ⟨yv, G10, K10, r10, acc, hB10, hz10, nx⟩ := q10
        exact app_ok (X := blkH X t3 G3 sc (compEnvC sc cl C X.env) fp p) K10 hB10 hz10 r10 fun t11 K11 => next K11 nx
  exact codeAny_compStart_list loop (T.self X.A 0 _ _ _ n4 loop)
theorem peH_lc (hot : L2H.HotC X) (nd : X.N.Nodup) (hi : L2H.PIH X tg iter wi) (bk : BlkOk X.N X.env.scope sc own)
    (hg : ∀ s0 G0 C cl fp p, L2H.Hot1 X.A p → PG (blkH X s0 G0 sc (compEnvC sc cl C X.env) fp p) tg g)
    (ht : ∀ s0 G0 C cl fp p, L2H.Hot1 X.A p → PTs (blkH X s0 G0 sc (compEnvC sc cl C X.env) fp p) ifs tt)
    (he : ∀ s0 G0 C cl fp p, L2H.Hot1 X.A p → PE (blkH X s0 G0 sc (compEnvC sc cl C X.env) fp p) elt te)
    (hs : ∀ x, foldedSetIterable iter X.env x = pure x := by intro _; rfl) : PE X (.ListComp elt [⟨tg, iter, ifs, 0⟩] sc pos) (tLc wi g tt te (own.map (·.2))) :=
  ⟨fun pins s σ H Q I h => by
    rw [eval_ListComp]
    refine lcH_run hot nd I hi bk hg ht he hs h fun B C t m G1 K q hn f => ⟨m, hn, fun h2 sb => ?_⟩
    exact ⟨.ref B, G1, K.turned (t' := t.toks) (fun b o hb e => (sb.2 b hb).trans e) f.1 f.2.1 f.2.2.2.1 f.2.2.2.2.1 f.2.2.2.2.2, rfl, q⟩⟩
end
section
variable {X : Cx} {G : Cl} {W : WX} {elt tg iter : Expr} {ifs : List Expr} {sc : Scope} {own : List (Str × Nat)} {pos : Pos} {k : Nat} {m : M} {t : MT}
theorem CtH.blk (c : CtH X W k) {p : Addr × Obj} (hot : L2H.Hot1 X.A p) (s0 : Shared) (G0 : Hp) (ev : Env) (fp : List Addr) : CtH (blkH X s0 G0 sc ev fp p) WN k :=
  ⟨c.hr, ⟨p, hot, List.mem_cons_self⟩, c.nd, PassesOwn.never, takes_never⟩
theorem seH_lc {wi : TI} {mi : Ev → Hh → R Src} {g : TG} {s : TgM} {tt : TT} (c : CtH X W k) (hi : L2H.PIH X tg iter wi) (oi : ItOk X.K G W wi mi) (bk : BlkOk X.N X.env.scope sc own)
    (hg : ∀ s0 G0 C cl fp p, L2H.Hot1 X.A p → PG (blkH X s0 G0 sc (compEnvC sc cl C X.env) fp p) tg g) (ok : TgOkW X.K G (own.map (·.2)) g s)
    (ht : ∀ s0 G0 C cl fp p, L2H.Hot1 X.A p → PTs (blkH X s0 G0 sc (compEnvC sc cl C X.env) fp p) ifs tt) (htt : ∀ σ H Q, tT X.K G WN t σ H Q → tt σ H Q)
    (he : ∀ s0 G0 C cl fp p, L2H.Hot1 X.A p → PE (blkH X s0 G0 sc (compEnvC sc cl C X.env) fp p) elt (tM X.K G WN m)) (hs : ∀ x, foldedSetIterable iter X.env x = pure x := by intro _; rfl) :
    PE X (.ListComp elt [⟨tg, iter, ifs, 0⟩] sc pos) (tM X.K G W (eLc mi s t m (own.map (·.2)))) :=
  peImp (peH_lc c.hot c.nd hi bk hg ht he hs) fun σ H Q q => lc_sound oi ok htt (fun _ _ _ z => z) σ H Q q
theorem inBlkEH {te : TE} {ev : Env} (c : CtH X W k) {s0 : Shared} {G0 : Hp} {fp : List Addr} {p : Addr × Obj} (hot : L2H.Hot1 X.A p) (f : CtH (blkH X s0 G0 sc ev fp p) WN k → PE (blkH X s0 G0 sc ev fp p) elt te) : PE (blkH X s0 G0 sc ev fp p) elt te := f (c.blk hot _ _ _ _)
end
/-! ### all(..) -/
section
variable {prog : Program} {w : World} {A : Around} {E : Value → Shared → Prop} {s : Shared}
theorem list_end_hot {it l x1 : Addr} {i : Nat} {xs : Array Value} {Q : Option Value → Shared → Prop} (hot : HotX.HotAt A x1 s.heap) (hx : x1 ≠ it) (ht : s.heap.IsListIter it l i) (hl : s.heap.IsList l xs) (hn : xs[i]? = none)
    (q : ∀ h2, (∀ b o, b ≠ it → s.heap.get? b = some o → h2.get? b = some o) → Q none { s with heap := h2 }) : wpAny (model prog w) A (pyNext (.ref it)) Q E s := by
  obtain ⟨hh, o1, vs1, g1, d1, c1⟩ := hot
  have ht' := ht
  obtain ⟨oi, gi, ci, di⟩ := ht'
  obtain ⟨ol, gl, _, nl, dl⟩ := hl
  have hT := ht.typeIs
  unfold pyNext
  refine wpAny_bind (wpAny_attempt (wpAny_callSpecial?_slot (name := Str.ofString "__next__") hT
    slot_listiter_next (wpAny_call_entry slot_listiter_next hT entry_listiter_next ?_ (args_listiter_next _))))
  show wpAny _ _ (field (.ref it) 0 >>= _) _ _ _
  refine wpAny_bind (wpAny_field gi di (x := .ref l) rfl ?_)
  show wpAny _ _ (if (Value.ref l == Value.none) = true then _ else _) _ _ _
  rw [if_neg (by intro z; exact absurd z Bool.false_ne_true)]
  show wpAny _ _ (field (.ref it) 1 >>= _) _ _ _
  refine wpAny_bind (wpAny_field gi di (x := .int i 0) rfl ?_)
  show wpAny _ _ (seqItems? (.ref l) >>= _) _ _ _
  refine wpAny_bind (wpAny_seqItems gl dl ?_)
  simp only [Int.toNat_natCast, hn]
  refine wpAny_bind (wpAny_rule (wpAny_bind (wpAny_setField gi di (by simp) ?_)))
  refine wpAny_bind (m := newExc (.type "StopIteration") []) ?_
  simp only [newExc, newTuple]
  refine wpAny_bind (wpAny_newObj_type ?_ (by size_fits))
  refine wpAny_bind (m := firstArgMember _ _) (wpAny_of_eq (a := Value.none) (by first | rfl | (simp only [firstArgMember]; rfl)) ?_)
  refine wpAny_newObj_type ?_ (by size_fits)
  have sb := Heap.SameBut.update s.heap it (Obj.mapFields (·.setIfInBounds 0 Value.none))
  have up : ∀ (h0 : Heap) (oa ob : Obj) b o, h0.get? b = some o → ((h0.push oa).push ob).get? b = some o := fun h0 oa ob b o e => Heap.get?_push_of_some _ (Heap.get?_push_of_some _ e)
  refine HotX.raiseNew_hot ⟨hh, o1, vs1, up _ _ _ _ _ ((sb.2 x1 hx).trans g1), d1, c1⟩ (Nat.ne_of_lt (Heap.lt_size (Heap.get?_push_of_some _ ((sb.2 x1 hx).trans g1)))) (Heap.get?_push_size _ rfl) rfl (by first | (simp; done) | (simp; omega) | decide) ?_
  refine wpAny_bind (wpAny_isInstance (T := "StopIteration") (b := true) ⟨_, Heap.get?_update_self _ (Heap.get?_push_size _ rfl) rfl, rfl⟩ isSubtype_stop ?_)
  refine wpAny_pure (q _ fun b o hb e => ?_)
  have e1 := (sb.2 b hb).trans e
  rw [Heap.get?_update_other _ _ (Nat.ne_of_gt (Heap.lt_size (Heap.get?_push_of_some _ e1)))]
  exact up _ _ _ _ _ e1
theorem walk_hot {x1 I l : Addr} {o1 : Obj} {vs1 : Array Value} (hh : A.handled = some (.ref x1)) (d1 : o1.data = .fields vs1) (c1 : vs1[2]? = some .none) (hx : x1 ≠ I) (hl : l ≠ I) (xs : Array Value) :
    PySem.Walks prog w A I [I, l, x1] [I] xs.size (fun i v => xs[i]? = some v) (fun i h => h.IsListIter I l i ∧ h.IsList l xs ∧ h.get? x1 = some o1) where
  sub := fun b hb => by
    have e : b = I := by simpa using hb
    simp [e]
  frame := fun _ _ _ st k => ⟨st.1.at fun o e => k I (by simp) o e, st.2.1.at fun o e => k l (by simp) o e, k x1 (by simp) _ st.2.2⟩
  item := fun i s Q E hi st q => by
    obtain ⟨a, b, c⟩ := st
    refine wpAny_pyNext_list_item a b (x := xs[i]) (by simp [hi]) fun h2 a2 sb => ?_
    refine q _ h2 s.toks (by simp [hi]) ⟨a2, b.extBut sb.extBut hl, (sb.2 x1 hx).trans c⟩ fun y o hy e => ?_
    exact (sb.2 y (by simpa using hy)).trans e
  done := fun s Q E st q => list_end_hot ⟨hh, o1, vs1, st.2.2, d1, c1⟩ hx st.1 st.2.1 (by simp) fun h2 k => q h2 s.toks fun b o hb e => k b o (by simpa using hb) e
  self := fun _ _ _ _ st q => wpAny_pyIter_listiter st.1 q
end
theorem crH_all {X : Cx} (hot : L2H.HotC X) : CallR X (.builtin "all") (rAll X.K) := by
  intro pins s σ H vs us Q I r h
  obtain ⟨l, bs, rfl, hs, q⟩ := h
  obtain ⟨its, rv, hl, _⟩ := I.list hs
  obtain ⟨p, ⟨hh, vs1, d1, c1⟩, hp⟩ := hot
  have gp := (I.pin p (List.mem_append_left _ hp)).1
  rw [Vals.ref1 r]
  have eb := rv.bls
  refine call_all_walk (iter_any hl.isList fun t2 e2 st hne => ?_)
  subst e2
  refine ⟨_, _, _, _, _, _, _, rfl, walk_hot (A := X.A.in1) hh d1 c1 (Nat.ne_of_lt (Heap.lt_size gp)) hne its.toArray, ⟨st.1, st.2, Heap.get?_push_of_some _ gp⟩, truth_bools eb, fun h2 tk k => ?_⟩
  refine ⟨.bl _, H, I.kept fun b o eo => k b o (fun hm => ?_) (Heap.get?_push_of_some _ eo), ?_, q⟩
  · have e1 : b = s.heap.objs.size := by simpa using hm
    exact absurd (e1 ▸ Heap.lt_size eo) (Nat.lt_irrefl _)
  · show Value.bool _ = Value.bool _
    rw [← L2.all_range, eb, List.size_toArray, List.length_map]
end Sm
/-! SmMt: l.reverse(), l.insert(i, x), text.find(text), text.index(text). -/
namespace Sm
open PySem L2 PyProof.Rows
def opReverse : D → List D → Hh → Option (D × Hh)
  | .ref n, [], h => match h[n]? with
    | some (.lst xs) => some (.non, h.set n (.lst xs.reverse))
    | _ => none
  | _, _, _ => none
def opInsert : D → List D → Hh → Option (D × Hh)
  | .ref n, [.int i, y], h => match h[n]? with
    | some (.lst xs) => if xs.length < sizeLine ∧ 0 ≤ i ∧ i < 2 ^ 63 then some (.non, h.set n (.lst (xs.take i.toNat ++ [y] ++ xs.drop i.toNat))) else none
    | _ => none
  | _, _, _ => none
def opFind : D → D → Hh → Option (D × Hh)
  | .str a, .str b, h => some (.int (Txt.find a b), h)
  | _, _, _ => none
def opSIdx : D → D → Hh → Option (D × Hh)
  | .str a, .str b, h => match Builtin.Str.occurrences a b 0 a.length 1 with
    | i :: _ => some (.int (i : Int), h)
    | [] => none
  | _, _, _ => none
section
variable {X : Cx} {G : Cl} {W : WX} {e o : Expr} {es : List Expr} {pos : Pos} {mo me : M} {ms : List M} {K : PySem.W.Frag} {ρ : List Addr} {H : Hp} {h : Hh}
theorem Rvs.rev : ∀ {vs : List V} {ds : List D}, Rvs K ρ H vs ds → Rvs K ρ H vs.reverse ds.reverse
  | _, _, .nil => .nil
  | _, _, .cons a t => by rw [List.reverse_cons, List.reverse_cons]; exact (Rvs.rev t).append (.cons a .nil)
theorem Rvs.takeD : ∀ {vs : List V} {ds : List D}, Rvs K ρ H vs ds → ∀ k, Rvs K ρ H (vs.take k) (ds.take k)
  | _, _, .nil, k => by simp only [List.take_nil]; exact .nil
  | _, _, .cons _ _, 0 => .nil
  | _, _, .cons a t, k + 1 => .cons a (Rvs.takeD t k)
theorem Rvs.dropD : ∀ {vs : List V} {ds : List D}, Rvs K ρ H vs ds → ∀ k, Rvs K ρ H (vs.drop k) (ds.drop k)
  | _, _, .nil, k => by simp only [List.drop_nil]; exact .nil
  | _, _, .cons a t, 0 => .cons a t
  | _, _, .cons _ t, k + 1 => Rvs.dropD t k
theorem im_reverse : ImpM K G rReverse opReverse := fun {ρ H h x o xs ds d h' Q} hr ro rs e k => by
  unfold opReverse at e
  split at e
  · cases ro with
    | ref ra =>
      cases rs
      split at e
      · rename_i zs e0
        cases e
        obtain ⟨vs, q, r2⟩ := ref_lst hr ra e0
        exact ⟨_, vs, rfl, rfl, q, wr_lst hr ra e0 r2.rev .non k⟩
      · cases e
  · cases e
theorem im_insert : ImpM K G (fun x vs H Q => ∃ (l : Addr) (xs : List V) (i : Int) (y : V), x = .ref l ∧ vs = [.int i, y] ∧ H l = some (.lst xs) ∧ xs.length < sizeLine ∧ 0 ≤ i ∧ i < 2 ^ 63 ∧ Q .non (upd H l (.lst (xs.take i.toNat ++ [y] ++ xs.drop i.toNat)))) opInsert := fun {ρ H h x o xs ds d h' Q} hr ro rs e k => by
  unfold opInsert at e
  split at e
  · cases ro with
    | ref ra =>
      cases rs with
      | cons r1 rs =>
        cases r1
        obtain ⟨v, rfl, r⟩ := rs.one
        split at e
        · rename_i zs e0
          split at e
          · rename_i hl
            cases e
            obtain ⟨vs, q, r2⟩ := ref_lst hr ra e0
            exact ⟨_, vs, _, v, rfl, rfl, q, by rw [r2.length]; exact hl.1, hl.2.1, hl.2.2, wr_lst hr ra e0 (((r2.takeD _).append (.cons r .nil)).append (r2.dropD _)) .non k⟩
          · cases e
        · cases e
  · cases e
theorem se_reverse (ho : PE X o (tM X.K G W mo)) {apos : Pos} (hbase : attributeBase o "reverse" X.env (eval o X.env) = eval o X.env := by rfl) (hline : (apos.endLine == pos.line) = true := by rfl) :
    PE X (.Call (.Attribute o "reverse" apos) [] [] pos) (tM X.K G W (eMt opReverse mo [])) :=
  peImp (pe_bm0 PySem.F.plainAttrs_list PySem.F.slot_list_reverse PySem.F.type_list_reverse mt_reverse ho hbase hline) fun σ H Q t => mt0_imp im_reverse σ H Q t
theorem se_insert (ho : PE X o (tM X.K G W mo)) (ha : PA X (e :: es) (tL X.K G W (evs ms))) {apos : Pos} (hbase : attributeBase o "insert" X.env (eval o X.env) = eval o X.env := by rfl)
    (hfew : ((backTo pos (starEach (e :: es) X.env)).all (fun x => !x.1) && (backToKw pos (keywordEach [] X.env)).all (fun x => x.1.isSome)
      && decide ((e :: es).length + ([] : List Keyword).length + (if ([] : List Keyword).isEmpty then 0 else 1) < 30)) = true := by rfl)
    (hline : (apos.endLine == pos.line) = true := by rfl) (hs : starEach (e :: es) X.env = (false, eval e X.env) :: starEach es X.env := by rfl) (hplain : (backTo pos (starEach es X.env)).any (·.1) = false := by rfl) :
    PE X (.Call (.Attribute o "insert" apos) (e :: es) [] pos) (tM X.K G W (eMt opInsert mo ms)) :=
  peImp (pe_bm PySem.F.plainAttrs_list PySem.F.slot_list_insert PySem.F.type_list_insert mt_insert ho ha hbase hfew hline hs hplain) fun σ H Q t => mt_imp im_insert σ H Q t
theorem se_find {apos : Pos} (ho : PE X o (tM X.K G W mo)) (he : PE X e (tM X.K G W me)) (hs : starEach [e] X.env = [(false, eval e X.env)] := by rfl) (hbase : attributeBase o "find" X.env (eval o X.env) = eval o X.env := by rfl) (hline : (apos.endLine == pos.line) = true := by rfl) :
    PE X (.Call (.Attribute o "find" apos) [e] [] pos) (tM X.K G W (eM1 opFind mo me)) :=
  peImp (pe_m1 PySem.F.slot_str_find PySem.F.type_str_find mt_find ho he hs hbase hline) fun σ H Q t => m1_imp (fun {ρ H h x y dx dy d h' Q} hr rx ry e k => by
    cases rx <;> cases ry <;> simp only [opFind] at e <;> first | (cases e; done) | skip
    cases e
    exact ⟨_, _, rfl, rfl, k _ _ _ Ex.refl hr (.int _)⟩) σ H Q t
theorem se_sidx {apos : Pos} (ho : PE X o (tM X.K G W mo)) (he : PE X e (tM X.K G W me)) (hs : starEach [e] X.env = [(false, eval e X.env)] := by rfl) (hbase : attributeBase o "index" X.env (eval o X.env) = eval o X.env := by rfl) (hline : (apos.endLine == pos.line) = true := by rfl) :
    PE X (.Call (.Attribute o "index" apos) [e] [] pos) (tM X.K G W (eM1 opSIdx mo me)) :=
  peImp (pe_m1 PySem.F.slot_str_index PySem.F.type_str_index mt_sindex ho he hs hbase hline) fun σ H Q t => m1_imp (fun {ρ H h x y dx dy d h' Q} hr rx ry e k => by
    cases rx <;> cases ry <;> simp only [opSIdx] at e <;> first | (cases e; done) | skip
    split at e
    · rename_i i r q
      cases e
      exact ⟨_, _, i, r, rfl, rfl, q, k _ _ _ Ex.refl hr (.int _)⟩
    · cases e) σ H Q t
end
end Sm
/-! SmPool3: the drawing functions of SmPool, as gen3.py prints them. -/
namespace SmPool3
open PySem L2 PyProof.Rows Sm
open SmPool (Pl Xt get_app set_app)
noncomputable def b__law_pool_2 : S := (sIf (tBl (eB opGtX (eV 4) (eC (.int 0)))) (sSeq (sExpr (eMt opAppend (eV 1) [(eB opMod (eN opInt [(eV 4)]) (eC (.int 1000)))]))
    (sSet 4 (eB opFdiv (eV 4) (eC (.int 1000))))) sSkip)
noncomputable def b__law_pool_1 : S := (sSeq (sSet 4 (eB opMod (eN opInt [(eB opAdd (eB opMulA (eC (.int 2)) (eN opAbs [(eN opInt [(eV 3)])])) (eN opInt [(eB opLtX (eV 3) (eC (.int 0)))]))]) (eB opPow (eC (.int 10)) (eC (.int 60)))))
    (sSeq (sSet 2 (eB opMod (eN opInt [(eB opAdd (eB opAdd (eB opMulA (eV 2) (eC (.int 48271))) (eV 4)) (eC (.int 11)))]) (eC (.int 2147483647))))
    (sSeq (sIf (tBl (eB opLtX (eV 4) (eB opPow (eC (.int 10)) (eC (.int 18))))) (sSeq (sExpr (eMt opAppend (eV 1) [(eB opFdiv (eB opMod (eN opInt [(eB opMulA (eV 2) (eC (.int 742938285)))]) (eC (.int 2147483399))) (eC (.int 64)))]))
    (sSet 4 (eC (.int 0)))) sSkip)
    (sFor (mRng1 (eC (.int 20))) (gtName 5) b__law_pool_2))))
noncomputable def b__law_pool : S := (sSeq (sSet 1 (eLst []))
    (sSeq (sSet 2 (eC (.int 7)))
    (sSeq (sFor (mSeqS (eSlF (eV 0) none (some (eC (.int 63))))) (gtName 3) b__law_pool_1)
    (sRet (eB opAdd (eLstF [(eV 2)]) (eU opRevX (eV 1)))))))
noncomputable def m__law_pool : Fm := fnT 6 b__law_pool
noncomputable def b__law_take : S := (sSeq (sIf (tBl (eB opGtX (eN opLen [(eV 0)]) (eC (.int 1)))) (sRet (eB opMod (eN opInt [(eMt opPop (eV 0) [])]) (eV 1))) sSkip)
    (sSeq (sSetIx (eV 0) (eC (.int 0)) (eB opMod (eN opInt [(eB opAdd (eB opMulA (eB opIx (eV 0) (eC (.int 0))) (eC (.int 48271))) (eC (.int 11)))]) (eC (.int 2147483647))))
    (sRet (eB opMod (eN opInt [(eB opFdiv (eB opMod (eN opInt [(eB opMulA (eB opIx (eV 0) (eC (.int 0))) (eC (.int 742938285)))]) (eC (.int 2147483399))) (eC (.int 64)))]) (eV 1)))))
noncomputable def m__law_take : Fm := fnT 2 b__law_take
noncomputable def b__law_wide : S := (sRet (eB opMod (eN opInt [(eB opAdd (eB opMulA (eCall m__law_take [(eV 0), (eC (.int 1000))]) (eC (.int 1000))) (eCall m__law_take [(eV 0), (eC (.int 1000))]))]) (eV 1)))
noncomputable def m__law_wide : Fm := fnT 2 b__law_wide
noncomputable def b__law_edge : S := (sSeq (sSet 2 (eCall m__law_take [(eV 0), (eC (.int 6))]))
    (sSeq (sIf (tBl (eB opEq (eV 2) (eC (.int 0)))) (sRet (eC (.int 0))) sSkip)
    (sSeq (sIf (tBl (eB opEq (eV 2) (eC (.int 1)))) (sRet (eV 1)) sSkip)
    (sSeq (sIf (tBl (eB opEq (eV 2) (eC (.int 2)))) (sRet (eN opMax [(eC (.int 0)), (eB opSub (eV 1) (eCall m__law_take [(eV 0), (eC (.int 3))]))])) sSkip)
    (sSeq (sIf (tBl (eB opEq (eV 2) (eC (.int 3)))) (sRet (eN opMin [(eV 1), (eCall m__law_take [(eV 0), (eC (.int 8))])])) sSkip)
    (sRet (eCall m__law_wide [(eV 0), (eB opAdd (eV 1) (eC (.int 1)))])))))))
noncomputable def m__law_edge : Fm := fnT 3 b__law_edge

theorem trR_len {d : D} {h h1 : Hh} (hl : h1.length = h.length) : trR h (.ok d h1) = .ok d h1 := by
  unfold trR
  dsimp only
  rw [← hl, List.take_length]
  split <;> rfl
theorem trR_set {d : D} {h : Hh} {n : Nat} {o : O} : trR h (.ok d (h.set n o)) = .ok d (h.set n o) := trR_len (by simp)
theorem take_spec {h : Hh} {n : Nat} {m : Int} {p : List Int} (hp : p ≠ []) (hl : p.length ≤ 2000) (e : h[n]? = some (.lst (p.map D.int))) (hm : 0 < m) :
    ∃ (r : Int) (q : List Int), q ≠ [] ∧ q.length ≤ 2000 ∧ 0 ≤ r ∧ r < m ∧ m__law_take [.ref n, .int m] h = .ok (.int r) (h.set n (.lst (q.map D.int))) := by
  obtain ⟨hn, e'⟩ := List.getElem?_eq_some_iff.mp e
  by_cases hlen : 1 < p.length
  · have hlen' : (1 : Int) < (p.length : Int) := by omega
    obtain ⟨y, hy⟩ : ∃ y, p[p.length - 1]? = some y := ⟨p[p.length - 1], by simp⟩
    refine ⟨y % m, p.dropLast, ?_, ?_, Int.emod_nonneg _ (by omega), Int.emod_lt_of_pos _ hm, ?_⟩
    · intro z
      have := congrArg List.length z
      simp at this
      omega
    · simp; omega
    · simp [m__law_take, b__law_take, e, hlen', hy, hm, trR_set]
  · cases p with
    | nil => exact absurd rfl hp
    | cons x p =>
      have hp0 : p = [] := by
        cases p with
        | nil => rfl
        | cons _ _ => simp at hlen
      subst hp0
      refine ⟨(((x * 48271 + 11) % 2147483647) * 742938285 % 2147483399 / 64) % m, [(x * 48271 + 11) % 2147483647], by simp, by simp, Int.emod_nonneg _ (by omega), Int.emod_lt_of_pos _ hm, ?_⟩
      have hs : ∀ o : O, (h.set n o)[n]? = some o := fun o => List.getElem?_set_self hn
      simp [m__law_take, b__law_take, e, hm, mulOk_r, ixN, atI, hs, trR_set]

theorem big_line {n : Nat} (h : n ≤ 3000) : n < sizeLine := by rw [sizeLine_eq]; omega
theorem inner_spec (h : Hh) (e0 e2 e3 : Option D) (num : Int) (e5 : Option D) (xs : List D) (p : List Int) (hl : p.length + xs.length ≤ 2900) :
    ∃ (q : List Int) (num' : Int) (e5' : Option D), q.length ≤ p.length + xs.length ∧ forL (gtName 5) b__law_pool_2 none xs [e0, some (.ref h.length), e2, e3, some (.int num), e5] (h ++ [.lst (p.map D.int)]) =
      .nx [e0, some (.ref h.length), e2, e3, some (.int num'), e5'] (h ++ [.lst (q.map D.int)]) := by
  obtain ⟨e', h', eq, q, num', e5', hq, rfl, rfl⟩ := forL_inv (g := gtName 5) (body := b__law_pool_2) (gd := none)
    (fun rest env h' => ∃ (q : List Int) (num' : Int) (e5' : Option D), q.length + rest.length ≤ p.length + xs.length ∧ env = [e0, some (.ref h.length), e2, e3, some (.int num'), e5'] ∧ h' = h ++ [.lst (q.map D.int)])
    xs _ _ ⟨p, num, e5, Nat.le_refl _, rfl, rfl⟩ (fun _ _ _ _ => trivial) (fun x rest env h' => by
      rintro ⟨q, num', e5', hq, rfl, rfl⟩
      rw [List.length_cons] at hq
      have hq' : q.length < sizeLine := big_line (by omega)
      refine ⟨_, rfl, ?_⟩
      by_cases hn : 0 < num'
      · exact ⟨[e0, some (.ref h.length), e2, e3, some (.int (num' / 1000)), some x], h ++ [.lst ((q ++ [num' % 1000]).map D.int)], by simp [b__law_pool_2, hn, hq'], q ++ [num' % 1000], num' / 1000, some x, by simp; omega, rfl, rfl⟩
      · exact ⟨[e0, some (.ref h.length), e2, e3, some (.int num'), some x], h ++ [.lst (q.map D.int)], by simp [b__law_pool_2, hn], q, num', some x, by omega, rfl, rfl⟩)
  exact ⟨q, num', e5', by simpa using hq, eq⟩
theorem rngD_len (lo : Int) (n : Nat) : (rngD lo n).length = n := by unfold rngD; simp
theorem pool_turn (h : Hh) (e0 : Option D) (seed y : Int) (e4 e5 : Option D) (q : List Int) (hq : q.length ≤ 1400) :
    ∃ (q2 : List Int) (seed' : Int) (e4' e5' : Option D), q2.length ≤ q.length + 21 ∧ b__law_pool_1 [e0, some (.ref h.length), some (.int seed), some (.int y), e4, e5] (h ++ [.lst (q.map D.int)]) =
      .nx [e0, some (.ref h.length), some (.int seed'), some (.int y), e4', e5'] (h ++ [.lst (q2.map D.int)]) := by
  have hq' : q.length < sizeLine := big_line (by omega)
  have h60 : (10 : Int) ^ 60 = 1000000000000000000000000000000000000000000000000000000000000 := by decide
  have h18 : (10 : Int) ^ 18 = 1000000000000000000 := by decide
  have hb : ∀ (b : Bool), (if b = true then (1 : Int) else 0) = (if b = true then (1 : Int) else 0) := fun _ => rfl
  generalize hN : (2 * (if y < 0 then -y else y) + (if decide (y < 0) = true then 1 else 0)) % (1000000000000000000000000000000000000000000000000000000000000 : Int) = N
  by_cases hn : N < 1000000000000000000
  · obtain ⟨q2, n2, e2, hl, eq⟩ := inner_spec h e0 (some (.int ((seed * 48271 + N + 11) % 2147483647))) (some (.int y)) 0 e5 (rngD 0 20) (q ++ [(seed * 48271 + N + 11) % 2147483647 * 742938285 % 2147483399 / 64]) (by rw [rngD_len]; simp; omega)
    rw [rngD_len, List.length_append] at hl
    refine ⟨q2, (seed * 48271 + N + 11) % 2147483647, some (.int n2), e2, by simp at hl; omega, ?_⟩
    rw [List.map_append, List.map_cons, List.map_nil] at eq
    rw [← eq]
    simp [b__law_pool_1, mulOk_r, mulOk_l, h60, h18, Sm.inR] at hN ⊢
    simp [hN, hn, hq', mulOk_r, mulOk_l, Sm.inR]
  · obtain ⟨q2, n2, e2, hl, eq⟩ := inner_spec h e0 (some (.int ((seed * 48271 + N + 11) % 2147483647))) (some (.int y)) N e5 (rngD 0 20) q (by rw [rngD_len]; omega)
    rw [rngD_len] at hl
    refine ⟨q2, (seed * 48271 + N + 11) % 2147483647, some (.int n2), e2, by omega, ?_⟩
    rw [← eq]
    simp [b__law_pool_1, mulOk_r, mulOk_l, h60, h18, Sm.inR] at hN ⊢
    simp [hN, hn, mulOk_r, mulOk_l, Sm.inR]
theorem pool_spec (ns : List Int) (hl : ns.length ≤ 63) (h : Hh) : ∃ (p : List Int) (a : O), p ≠ [] ∧ p.length ≤ 2000 ∧
    m__law_pool [.fls (ns.map D.int)] h = .ok (.ref (h.length + 1)) (h ++ [a, .lst (p.map D.int)]) := by
  obtain ⟨e', h', eq, seed, q, e3, e4, e5, ⟨⟨r, hr⟩, hq⟩, rfl, rfl⟩ := forL_inv (g := gtName 3) (body := b__law_pool_1) (gd := none)
    (fun rest env h' => ∃ (seed : Int) (q : List Int) (e3 e4 e5 : Option D), ((∃ r : List Int, rest = r.map D.int) ∧ q.length + 21 * rest.length ≤ 1323) ∧ env = [some (.fls (ns.map D.int)), some (.ref h.length), some (.int seed), e3, e4, e5] ∧ h' = h ++ [.lst (q.map D.int)])
    (ns.map D.int) [some (.fls (ns.map D.int)), some (.ref h.length), some (.int 7), none, none, none] (h ++ [.lst []]) ⟨7, [], none, none, none, ⟨⟨ns, rfl⟩, by simp; omega⟩, rfl, rfl⟩
    (fun rest env h' ⟨_, _, _, _, _, _, _, z⟩ => trivial) (fun x rest env h' => by
      rintro ⟨seed, q, e3, e4, e5, ⟨⟨r, hr⟩, hq⟩, rfl, rfl⟩
      cases r with
      | nil => cases hr
      | cons y r =>
        obtain ⟨rfl, rfl⟩ := List.cons.inj hr
        rw [List.length_cons] at hq
        obtain ⟨q2, seed', e4', e5', l2, eq⟩ := pool_turn h (some (.fls (ns.map D.int))) seed y e4 e5 q (by omega)
        exact ⟨_, rfl, _, _, eq, seed', q2, some (.int y), e4', e5', ⟨⟨r, rfl⟩, by omega⟩, rfl, rfl⟩)
  have hc : cutD (ns.map D.int) none (some 63) = ns.map D.int := by
    have := cut_to (xs := ns.map D.int) (n := 63)
    rw [List.take_of_length_le (by simpa using hl)] at this
    exact this
  have hz : 1 + q.length ≤ sizeLine := by rw [sizeLine_eq]; simp at hq; omega
  refine ⟨seed :: q.reverse, .lst (q.map D.int), by simp, by simp at hq ⊢; omega, ?_⟩
  have nl : ¬ h.length + 1 < h.length := by omega
  simp [m__law_pool, b__law_pool, hc, eq, hz, trR_app, opRevX, opRev, nl]
/-! ### draws: the pool at n -/
theorem set_at3 {h : Hh} {n : Nat} {o u : O} (e : h[n]? = some u) : (h.set n o)[n]? = some o := List.getElem?_set_self (List.getElem?_eq_some_iff.mp e).1
theorem wide_spec {h : Hh} {n : Nat} {m : Int} {p : List Int} (hp : p ≠ []) (hl : p.length ≤ 2000) (e : h[n]? = some (.lst (p.map D.int))) (hm : 0 < m) :
    ∃ (r : Int) (q : List Int), q ≠ [] ∧ q.length ≤ 2000 ∧ 0 ≤ r ∧ r < m ∧ m__law_wide [.ref n, .int m] h = .ok (.int r) (h.set n (.lst (q.map D.int))) := by
  obtain ⟨r1, q1, a1, b1, _, _, e1⟩ := take_spec (m := 1000) hp hl e (by decide)
  obtain ⟨r2, q2, a2, b2, _, _, e2⟩ := take_spec (h := h.set n (.lst (q1.map D.int))) (m := 1000) a1 b1 (set_at3 e) (by decide)
  refine ⟨(r1 * 1000 + r2) % m, q2, a2, b2, Int.emod_nonneg _ (by omega), Int.emod_lt_of_pos _ hm, ?_⟩
  simp [m__law_wide, b__law_wide, e1, e2, mulOk_r, hm, trR_set]
theorem edge_spec {h : Hh} {n : Nat} {m : Int} {p : List Int} (hp : p ≠ []) (hl : p.length ≤ 2000) (e : h[n]? = some (.lst (p.map D.int))) (hm : 0 ≤ m) :
    ∃ (r : Int) (q : List Int), q ≠ [] ∧ q.length ≤ 2000 ∧ 0 ≤ r ∧ r ≤ m ∧ m__law_edge [.ref n, .int m] h = .ok (.int r) (h.set n (.lst (q.map D.int))) := by
  obtain ⟨k, q1, a1, b1, k1, k2, e1⟩ := take_spec (m := 6) hp hl e (by decide)
  have e' := set_at3 (o := .lst (q1.map D.int)) e
  by_cases h0 : k = 0
  · subst h0
    exact ⟨0, q1, a1, b1, by omega, by omega, by simp [m__law_edge, b__law_edge, e1, trR_set]⟩
  by_cases h1 : k = 1
  · subst h1
    exact ⟨m, q1, a1, b1, by omega, by omega, by simp [m__law_edge, b__law_edge, e1, trR_set]⟩
  by_cases h2 : k = 2
  · subst h2
    obtain ⟨r2, q2, a2, b2, _, _, e2⟩ := take_spec (m := 3) a1 b1 e' (by decide)
    exact ⟨if m - r2 > 0 then m - r2 else 0, q2, a2, b2, by split <;> omega, by split <;> omega, by simp [m__law_edge, b__law_edge, e1, e2, trR_set]⟩
  by_cases h3 : k = 3
  · subst h3
    obtain ⟨r2, q2, a2, b2, _, _, e2⟩ := take_spec (m := 8) a1 b1 e' (by decide)
    exact ⟨if r2 < m then r2 else m, q2, a2, b2, by split <;> omega, by split <;> omega, by simp [m__law_edge, b__law_edge, e1, e2, trR_set]⟩
  obtain ⟨r2, q2, a2, b2, _, _, e2⟩ := wide_spec (m := m + 1) a1 b1 e' (by omega)
  exact ⟨r2, q2, a2, b2, by omega, by omega, by simp [m__law_edge, b__law_edge, e1, e2, h0, h1, h2, h3, trR_set]⟩
theorem take_x {h : Hh} {p : Nat} {m : Int} (a : Pl h p) (hm : 0 < m) : ∃ r h', 0 ≤ r ∧ r < m ∧ Pl h' p ∧ Xt p h h' ∧ h'.length = h.length ∧ m__law_take [.ref p, .int m] h = .ok (.int r) h' := by
  obtain ⟨q, x, y, z⟩ := a
  obtain ⟨r, q', x', y', c, d, e⟩ := take_spec x y z hm
  exact ⟨r, _, c, d, ⟨q', x', y', set_at3 z⟩, SmPool.Xt.set, by simp, e⟩
theorem wide_x {h : Hh} {p : Nat} {m : Int} (a : Pl h p) (hm : 0 < m) : ∃ r h', 0 ≤ r ∧ r < m ∧ Pl h' p ∧ Xt p h h' ∧ h'.length = h.length ∧ m__law_wide [.ref p, .int m] h = .ok (.int r) h' := by
  obtain ⟨q, x, y, z⟩ := a
  obtain ⟨r, q', x', y', c, d, e⟩ := wide_spec x y z hm
  exact ⟨r, _, c, d, ⟨q', x', y', set_at3 z⟩, SmPool.Xt.set, by simp, e⟩
theorem edge_x {h : Hh} {p : Nat} {m : Int} (a : Pl h p) (hm : 0 ≤ m) : ∃ r h', 0 ≤ r ∧ r ≤ m ∧ Pl h' p ∧ Xt p h h' ∧ h'.length = h.length ∧ m__law_edge [.ref p, .int m] h = .ok (.int r) h' := by
  obtain ⟨q, x, y, z⟩ := a
  obtain ⟨r, q', x', y', c, d, e⟩ := edge_spec x y z hm
  exact ⟨r, _, c, d, ⟨q', x', y', set_at3 z⟩, SmPool.Xt.set, by simp, e⟩
theorem pool_x (ns : List Int) (hl : ns.length ≤ 63) : ∃ a q, q ≠ [] ∧ q.length ≤ 2000 ∧ m__law_pool [.fls (ns.map D.int)] [] = .ok (.ref 1) [a, .lst (q.map D.int)] := by
  obtain ⟨p, a, x, y, e⟩ := pool_spec ns hl []
  exact ⟨a, p, x, y, e⟩
end SmPool3
/-! SmDrawX: _law_draw as gen3.py prints it -/
namespace SmDrawX
open PySem L2 PyProof.Rows Sm SmPool
noncomputable def b__law_draw : S := (sSeq (sIf (tAndM (tBl (eB opEq (eB opIx (eV 0) (eC (.int 2))) (eC (.int 0)))) (tBl (eB opLtX (eB opIx (eV 0) (eC (.int 1))) (eN opLen [(eB opIx (eV 0) (eC (.int 0)))])))) (sSeq (sSet 2 (eN opAbs [(eB opIx (eB opIx (eV 0) (eC (.int 0))) (eB opIx (eV 0) (eC (.int 1))))]))
    (sSeq (sSetIx (eV 0) (eC (.int 1)) (eB opAdd (eB opIx (eV 0) (eC (.int 1))) (eC (.int 1))))
    (sIf (tBl (eB opGeX (eV 2) (eB opPow (eC (.int 10)) (eC (.int 18))))) (sSetIx (eV 0) (eC (.int 2)) (eV 2)) (sSetIx (eV 0) (eC (.int 3)) (eB opMod (eN opInt [(eB opAdd (eB opAdd (eB opMulA (eB opIx (eV 0) (eC (.int 3))) (eC (.int 48271))) (eB opMulA (eV 2) (eC (.int 69621)))) (eC (.int 12345)))]) (eC (.int 2147483647))))))) sSkip)
    (sSeq (sIf (tBl (eB opGtX (eB opIx (eV 0) (eC (.int 2))) (eC (.int 0)))) (sSeq (sSet 3 (eB opMod (eN opInt [(eB opIx (eV 0) (eC (.int 2)))]) (eV 1)))
    (sSeq (sSetIx (eV 0) (eC (.int 2)) (eB opFdiv (eB opIx (eV 0) (eC (.int 2))) (eV 1)))
    (sRet (eV 3)))) sSkip)
    (sSeq (sSetIx (eV 0) (eC (.int 3)) (eB opMod (eN opInt [(eB opAdd (eB opMulA (eB opIx (eV 0) (eC (.int 3))) (eC (.int 48271))) (eC (.int 11)))]) (eC (.int 2147483647))))
    (sRet (eB opMod (eB opMod (eN opInt [(eB opAdd (eB opFdiv (eB opMulA (eB opIx (eV 0) (eC (.int 3))) (eB opIx (eV 0) (eC (.int 3)))) (eC (.int 65536))) (eB opIx (eV 0) (eC (.int 3))))]) (eC (.int 2147483629))) (eV 1))))))
noncomputable def m__law_draw : Fm := fnM 4 b__law_draw

open SmDraw (Sr)
theorem draw_x {h : Hh} {p : Nat} {m : Int} (a : Sr h p) (hm : 0 < m) (hm2 : m < 1073741824) : ∃ r h', 0 ≤ r ∧ r < m ∧ Sr h' p ∧ Xt p h h' ∧ h'.length = h.length ∧ m__law_draw [.ref p, .int m] h = .ok (.int r) h' := by
  obtain ⟨ns, i, w, sd, hl, hi, hw, hs0, hs1, e⟩ := a
  have h18 : (10 : Int) ^ 18 = 1000000000000000000 := by decide
  have hp : p < h.length := (List.getElem?_eq_some_iff.mp e).1
  have fs : ∀ o : O, (h.set p o)[p]? = some o := fun o => List.getElem?_set_self hp
  have t0 : ∀ a b c d : D, atI [a, b, c, d] 0 = some a := fun _ _ _ _ => rfl
  have t1 : ∀ a b c d : D, atI [a, b, c, d] 1 = some b := fun _ _ _ _ => rfl
  have t2 : ∀ a b c d : D, atI [a, b, c, d] 2 = some c := fun _ _ _ _ => rfl
  have t3 : ∀ a b c d : D, atI [a, b, c, d] 3 = some d := fun _ _ _ _ => rfl
  have n1 : ixN 4 1 = some 1 := rfl
  have n2 : ixN 4 2 = some 2 := rfl
  have n3 : ixN 4 3 = some 3 := rfl
  have m1 : mulOk sd 48271 = true := mulOk_r (by decide) (by decide)
  by_cases c1 : w = 0 ∧ i < ns.length
  · obtain ⟨rfl, c2⟩ := c1
    obtain ⟨x, hx⟩ : ∃ x, atI (ns.map D.int) (i : Int) = some (.int x) := ⟨ns[i], atI_nat (by simp [c2])⟩
    have c2' : (i : Int) < (ns.length : Int) := by omega
    generalize hX : (if x < 0 then -x else x) = X
    have hX0 : 0 ≤ X := by rw [← hX]; split <;> omega
    by_cases c3 : X ≥ 1000000000000000000
    · refine ⟨X % m, h.set p (.lst [.fls (ns.map D.int), .int ((i + 1 : Nat) : Int), .int (X / m), .int sd]), Int.emod_nonneg _ (by omega), Int.emod_lt_of_pos _ hm, ⟨ns, i + 1, X / m, sd, hl, by omega, Int.ediv_nonneg hX0 (by omega), hs0, hs1, fs _⟩, Xt.set, by simp, ?_⟩
      have c4 : 0 < X := by omega
      have c3' : (1000000000000000000 : Int) ≤ X := c3
      simp [m__law_draw, b__law_draw, e, t0, t1, t2, t3, n1, n2, n3, hx, c2, hX, h18, c3', c4, hm, hm2, fs]
    · have c3' : ¬ (1000000000000000000 : Int) ≤ X := c3
      have mx : mulOk X 69621 = true := mulOk_r (by decide) (by decide)
      generalize hS : (sd * 48271 + X * 69621 + 12345) % 2147483647 = S
      have mS : mulOk S 48271 = true := mulOk_r (by decide) (by decide)
      generalize hR : (S * 48271 + 11) % 2147483647 = R
      have hR0 : 0 ≤ R := by rw [← hR]; exact Int.emod_nonneg _ (by decide)
      have hR1 : R < 2147483647 := by rw [← hR]; exact Int.emod_lt_of_pos _ (by decide)
      have mR : mulOk R R = true := mulOk_r (by omega) (by omega)
      refine ⟨(R * R / 65536 + R) % 2147483629 % m, h.set p (.lst [.fls (ns.map D.int), .int ((i + 1 : Nat) : Int), .int 0, .int R]), Int.emod_nonneg _ (by omega), Int.emod_lt_of_pos _ hm, ⟨ns, i + 1, 0, R, hl, by omega, Int.le_refl _, hR0, hR1, fs _⟩, Xt.set, by simp, ?_⟩
      simp [m__law_draw, b__law_draw, e, t0, t1, t2, t3, n1, n2, n3, hx, c2, hX, h18, c3', hm, hm2, fs, m1, mx, hS, mS, hR, mR]
  · by_cases c5 : 0 < w
    · have c5' : ¬ w = 0 := by omega
      refine ⟨w % m, h.set p (.lst [.fls (ns.map D.int), .int (i : Int), .int (w / m), .int sd]), Int.emod_nonneg _ (by omega), Int.emod_lt_of_pos _ hm, ⟨ns, i, w / m, sd, hl, hi, Int.ediv_nonneg hw (by omega), hs0, hs1, fs _⟩, Xt.set, by simp, ?_⟩
      simp [m__law_draw, b__law_draw, e, t0, t1, t2, t3, n1, n2, n3, c5, c5', hm, hm2, fs]
    · have hw0 : w = 0 := by omega
      subst hw0
      have c6 : ¬ i < ns.length := fun z => c1 ⟨rfl, z⟩
      generalize hR : (sd * 48271 + 11) % 2147483647 = R
      have hR0 : 0 ≤ R := by rw [← hR]; exact Int.emod_nonneg _ (by decide)
      have hR1 : R < 2147483647 := by rw [← hR]; exact Int.emod_lt_of_pos _ (by decide)
      have mR : mulOk R R = true := mulOk_r (by omega) (by omega)
      refine ⟨(R * R / 65536 + R) % 2147483629 % m, h.set p (.lst [.fls (ns.map D.int), .int (i : Int), .int 0, .int R]), Int.emod_nonneg _ (by omega), Int.emod_lt_of_pos _ hm, ⟨ns, i, 0, R, hl, hi, Int.le_refl _, hR0, hR1, fs _⟩, Xt.set, by simp, ?_⟩
      simp [m__law_draw, b__law_draw, e, t0, t1, t2, t3, n1, n2, n3, c6, hm, hm2, fs, m1, hR, mR]
end SmDrawX
namespace Sm
open PySem L2 PyProof.Rows
theorem draw_sX {o : O} {t : Hh} {m : Int} (a : SrO o) (hm : 0 < m) (hm2 : m < 1073741824) : ∃ r o', 0 ≤ r ∧ r < m ∧ SrO o' ∧ fnT 4 SmDrawX.b__law_draw [.ref 0, .int m] (o :: t) = .ok (.int r) (o' :: t) := by
  have a0 : SmDraw.Sr (o :: t) 0 := by
    obtain ⟨ns, i, w, s, h1, h2, h3, h4, h5, rfl⟩ := a
    exact ⟨ns, i, w, s, h1, h2, h3, h4, h5, rfl⟩
  obtain ⟨r, h', h1, h2, h3, h4, h5, h6⟩ := SmDrawX.draw_x a0 hm hm2
  cases h' with
  | nil => simp at h5
  | cons o' t' =>
    have ht : t' = t := by
      have e : ∀ i u, t[i]? = some u → t'[i]? = some u := fun i u e => by
        have := h4 (i + 1) u (by omega) (by simpa using e)
        simpa using this
      have hl : t'.length = t.length := by simpa using h5
      apply List.ext_getElem?
      intro i
      by_cases q : i < t.length
      · rw [List.getElem?_eq_getElem q]
        exact e i _ (List.getElem?_eq_getElem q)
      · rw [List.getElem?_eq_none (by omega), List.getElem?_eq_none (by omega)]
    subst ht
    have so : SrO o' := by
      obtain ⟨ns, i, w, s, k1, k2, k3, k4, k5, k6⟩ := h3
      simp at k6
      exact ⟨ns, i, w, s, k1, k2, k3, k4, k5, k6⟩
    refine ⟨r, o', h1, h2, so, ?_⟩
    have e : fnM 4 SmDrawX.b__law_draw [.ref 0, .int m] (o :: t') = .ok (.int r) (o' :: t') := h6
    show trR (o :: t') (fnM 4 SmDrawX.b__law_draw [.ref 0, .int m] (o :: t')) = _
    rw [e, trR_s0 so]
end Sm
/-! SmMx: methods and makings that may raise; C(). -/
namespace Sm
open PySem L2 PyProof.Rows
def eMethX (c : Nat) (fm : Fm) (mo : M) (ms : List M) : M := fun env h => (mo env h).bind fun o h1 => match o with
  | .ref n => (match h1[n]? with
    | some (.ins c' _) => if c' = c then (evs ms env h1).bind fun ds h2 => fm (.ref n :: ds) h2 else .bad
    | _ => .bad)
  | _ => .bad
def madeX (n : Nat) (r : R D) : R D := match r with
  | .ok .non h => .ok (.ref n) h
  | .exc c fs h => .exc c fs h
  | _ => .bad
def eMakeX (c nf : Nat) (fm : Fm) (ms : List M) : M := fun env h => (evs ms env h).bind fun ds h1 => madeX h1.length (fm (.ref h1.length :: ds) (h1 ++ [.ins c (List.replicate nf none)]))
section
variable {CX : CXT} {X : Cx} {G : Cl} {W : WX} {C f : Addr} {fd : FuncData} {sp : Sp} {E : L2.St → XK} {ta : TE} {t : TA} {e o : Expr} {es : List Expr} {pos apos p : Pos} {x m : Str} {ps : List Str} {k j c : Nat} {fm : Fm} {mo : M} {ms : List M}
theorem pe_methP {pl : Sem Bool} (he : PE X o ta) (cl : Cls X.K C) (hm : Meth X.K C m f) (F : FnOk X.prog X.w X.K X.mg X.base CX k f fd ps sp) (hr : Room k X.A) (hb : Binds X.K fd ps []) (hx : ∀ σ, PassesAt CX X σ (E σ)) (ha : PA X (e :: es) t)
    (h1 : starEach (e :: es) X.env = (false, eval e X.env) :: starEach es X.env := by rfl) (h2 : (backTo pos (starEach es X.env)).any (·.1) = false := by rfl)
    (h3 : eval (.Call (.Attribute o m apos) (e :: es) [] pos) X.env = (do
      let ov ← eval o X.env
      standAt apos.atName
      let (g, first) ← holding [ov] (getMethod ov m pl)
      callWith pos g first (backTo pos (starEach (e :: es) X.env)) (backToKw pos (keywordEach [] X.env))) := by rfl) : PE X (.Call (.Attribute o m apos) (e :: es) [] pos) (L2H.tMethH C m sp E ta t) :=
  ⟨fun pins s σ H Q I q => by
    refine PySem.W.methodCall_KW (pl := pl) (thn (he.run pins s σ H _ I q) fun u s1 z => ?_) h3
    obtain ⟨v, H1, I1, rv, a, dx, fs, rfl, ea, nl, q1⟩ := z
    obtain rfl : u = Value.ref a := rv
    refine getmeth_ok I1 ea cl hm nl (PySem.W.callWith_K (first := [.ref a]) (h₀ := X.base) I.ok.mod.kin hm.kp (thn (ha.run pos pins s1 σ H1 _ I1 q1) fun us s2 y => ?_) h1 h2)
    obtain ⟨vs, H2, I2, r2, q2⟩ := y
    exact ⟨I2.kIn, run_fnS (us := .ref a :: us) (vs := .ref a :: vs) F hr hb (hx σ) I2 (.cons rfl r2) q2⟩⟩
theorem pe_methP0 {pl : Sem Bool} (he : PE X o ta) (cl : Cls X.K C) (hm : Meth X.K C m f) (F : FnOk X.prog X.w X.K X.mg X.base CX k f fd ps sp) (hr : Room k X.A) (hb : Binds X.K fd ps []) (hx : ∀ σ, PassesAt CX X σ (E σ))
    (h3 : eval (.Call (.Attribute o m apos) [] [] pos) X.env = (do
      let ov ← eval o X.env
      standAt apos.atName
      let (g, first) ← holding [ov] (getMethod ov m pl)
      callWith pos g first (backTo pos (starEach [] X.env)) (backToKw pos (keywordEach [] X.env))) := by rfl) : PE X (.Call (.Attribute o m apos) [] [] pos) (L2H.tMethH C m sp E ta tNil) :=
  ⟨fun pins s σ H Q I q => by
    refine PySem.W.methodCall_KW (pl := pl) (thn (he.run pins s σ H _ I q) fun u s1 z => ?_) h3
    obtain ⟨v, H1, I1, rv, a, dx, fs, rfl, ea, nl, q1⟩ := z
    obtain rfl : u = Value.ref a := rv
    exact getmeth_ok I1 ea cl hm nl (PySem.W.callWith_K0 (first := [.ref a]) I1.kIn hm.kp (run_fnS (us := [.ref a]) (vs := [.ref a]) F hr hb (hx σ) I1 (.cons rfl .nil) q1))⟩
def tMakeS (C : Addr) (sp : Sp) (E : L2.St → XK) (t : TA) : TE := fun σ H Q => t σ H fun vs H1 => ∀ z dx, H1 z = none → H1 dx = none → dx ≠ z →
  sp (.ref z :: vs) (upd (upd H1 dx (.own z)) z (.ins C dx [])) (fun v H2 => v = .non ∧ Q (.ref z) H2) (E σ)
theorem run_makeS {pins : List (Addr × Obj)} {σ : L2.St} {H : Hp} {s : Shared} {Q : VK} {us : List Value} {vs : List V} (Mc : Mk X.K C f) (F : FnOk X.prog X.w X.K X.mg X.base CX k f fd ps sp) (hr : Room (k + 1) X.A) (hb : Binds X.K fd ps []) (hx : PassesAt CX X σ (E σ)) (I : Inv X pins σ H s) (r : Vals vs us)
    (q : ∀ z dx, H z = none → H dx = none → dx ≠ z → sp (.ref z :: vs) (upd (upd H dx (.own z)) z (.ins C dx [])) (fun v H2 => v = .non ∧ Q (.ref z) H2) (E σ)) : wpAny (model X.prog X.w) X.A (call (.ref C) us) (EP X pins σ Q) X.xe s := by
  obtain ⟨n, hn⟩ : ∃ n, n = s.heap.objs.size := ⟨_, rfl⟩
  have fr := fun (i : Nat) (hi : s.heap.objs.size ≤ i) => I.hok.fresh hi
  have q0 := q (s.heap.objs.size + 1) s.heap.objs.size (fr _ (Nat.le_succ _)) (fr _ (Nat.le_refl _)) (Nat.ne_of_lt (Nat.lt_succ_self _))
  have I2 := Inv.made (C := C) I
  have rs : Vals (V.ref (s.heap.objs.size + 1) :: vs) (Value.ref (s.heap.objs.size + 1) :: us) := .cons rfl r
  have len : (Value.ref (s.heap.objs.size + 1) :: us).length = ps.length := rs.length.symm.trans (F.len _ _ _ _ q0)
  have bd := hb _ (Value.ref (s.heap.objs.size + 1) :: us) I2.kIn (by rw [List.append_nil]; exact len)
  rw [List.append_nil] at bd
  refine wpAny_call (make_map (f := f) I.kIn Mc.makes Mc.init (beq_iff_eq.mp Mc.fn) (codeAny_mono (F.run _ X.stack _ _ ⟨Value.ref (s.heap.objs.size + 1) :: us, []⟩ _ _ _ (E σ) (hr.make C us []) (I2.env0.make C us []) bd rs q0) fun res s' h' => ?_))
  cases res with
  | error er => exact hx pins _ _ er s' I2 h'
  | ok fl =>
    cases fl with
    | ret u =>
      obtain ⟨v, H', I3, rv, ev, q3⟩ := I2.after h'
      subst ev
      exact ⟨rv, V.ref (s.heap.objs.size + 1), H', I3, rfl, q3⟩
    | next => exact h'.elim
    | brk => exact h'.elim
    | cont => exact h'.elim
theorem pe_makeS (Mc : Mk X.K C f) (F : FnOk X.prog X.w X.K X.mg X.base CX k f fd ps sp) (hr : Room (k + 1) X.A) (hg : Gl X x) (hm : X.mg x = some (.ref C)) (hb : Binds X.K fd ps []) (hx : ∀ σ, PassesAt CX X σ (E σ)) (ha : PA X (e :: es) t)
    (h0 : (x == ("__debug__" : Str)) = false := by decide) (h1 : starEach (e :: es) X.env = (false, eval e X.env) :: starEach es X.env := by rfl) (h2 : (backTo pos (starEach es X.env)).any (·.1) = false := by rfl) : PE X (.Call (.Name x p) (e :: es) [] pos) (tMakeS C sp E t) :=
  ⟨fun pins s σ H Q I q => wpAny_Call_Name_kw (ld_glob I hg hm (PySem.W.callWith_K (h₀ := X.base) I.ok.mod.kin Mc.kp (thn (ha.run pos pins s σ H _ I q) fun us s1 z => by
    obtain ⟨vs, H1, I1, r, q1⟩ := z
    exact ⟨I1.kIn, run_makeS Mc F hr hb (hx σ) I1 r q1⟩) h1 h2) h0)⟩
theorem pe_makeS0 (Mc : Mk X.K C f) (F : FnOk X.prog X.w X.K X.mg X.base CX k f fd ps sp) (hr : Room (k + 1) X.A) (hg : Gl X x) (hm : X.mg x = some (.ref C)) (hb : Binds X.K fd ps []) (hx : ∀ σ, PassesAt CX X σ (E σ))
    (h0 : (x == ("__debug__" : Str)) = false := by decide) : PE X (.Call (.Name x p) [] [] pos) (tMakeS C sp E tNil) :=
  ⟨fun pins s σ H Q I q => wpAny_Call_Name_kw (ld_glob I hg hm (PySem.W.callWith_K0 I.kIn Mc.kp (run_makeS (us := []) Mc F hr hb (hx σ) I .nil q)) h0)⟩
/-! ### by the mirrors -/
theorem methX_imp (hl : ms.length + 1 = ps.length) (hm : m ∉ G.nm c) (σ : L2.St) (H : Hp) (Q : VK) (q : tM X.K G W (eMethX c fm mo ms) σ H Q) : L2H.tMethH (G.at_ c) m (spM X.K G ps.length fm) (fun σ c d H => W c d σ H) (tM X.K G W mo) (tL X.K G W (evs ms)) σ H Q := by
  obtain ⟨ρ, h, env, hr, he, p⟩ := q
  refine tG_mono (tG_bind (rel := relV X.K) hr he p) fun v H1 ⟨ρ1, h1, d, e1, hr1, he1, r1, p1⟩ => ?_
  cases d with
  | ref n =>
    cases r1 with
    | @ref _ a ra =>
      dsimp only at p1
      split at p1
      · rename_i c' fs e0
        split at p1
        · rename_i hc
          subst hc
          have z := hr1.at_ ra e0
          cases z with
          | @ins _ dx vfs _ q l r nn zz =>
            refine ⟨a, dx, vfs, rfl, q, nn m hm, ρ1, h1, env, hr1, he1, ?_⟩
            cases q1 : evs ms env h1 with
            | bad => rw [q1] at p1; exact p1
            | exc c fs h' => rw [q1] at p1; exact p1
            | ok ds h2 =>
              rw [q1] at p1
              simp only [R.bind_ok] at p1
              intro ρ' H' vs e2 a2 b2
              refine ⟨ρ', h2, .ref n :: ds, a2, .cons (.ref (e2.pre _ _ ra)) b2, by rw [List.length_cons, b2.length, evs_len q1, hl], ?_⟩
              have p' := p1.shift e2
              cases q2 : fm (.ref n :: ds) h2 with
              | bad => rw [q2] at p'; exact p'
              | exc c fs h' => rw [q2] at p'; exact p'
              | ok d h' => rw [q2] at p'; exact p'
        · exact p1.elim
      · exact p1.elim
  | _ => exact p1.elim
theorem se_methX {kk : Nat} {pl : Sem Bool} (ct : Ct X W kk) (T : ClOk X.K G c) (F : OkM X.prog X.w X.K X.mg X.base G j c m ps fm) (hj : j ≤ kk) (ho : PE X o (tM X.K G W mo)) (ha : PA X (e :: es) (tL X.K G W (evs ms))) (hl : ms.length + 1 = ps.length := by rfl)
    (h1 : starEach (e :: es) X.env = (false, eval e X.env) :: starEach es X.env := by rfl) (h2 : (backTo pos (starEach es X.env)).any (·.1) = false := by rfl)
    (h3 : eval (.Call (.Attribute o m apos) (e :: es) [] pos) X.env = (do
      let ov ← eval o X.env
      standAt apos.atName
      let (g, first) ← holding [ov] (getMethod ov m pl)
      callWith pos g first (backTo pos (starEach (e :: es) X.env)) (backToKw pos (keywordEach [] X.env))) := by rfl) : PE X (.Call (.Attribute o m apos) (e :: es) [] pos) (tM X.K G W (eMethX c fm mo ms)) := by
  obtain ⟨f, fd, hm, hb, hn, F⟩ := F
  exact peImp (pe_methP (E := fun σ c d H => W c d σ H) ho T.cl hm F (ct.hr.mono hj) hb (fun σ => L2N.passAt ct.tk σ) ha h1 h2 h3) fun σ H Q q => methX_imp hl hn σ H Q q
theorem se_methX0 {kk : Nat} {pl : Sem Bool} (ct : Ct X W kk) (T : ClOk X.K G c) (F : OkM X.prog X.w X.K X.mg X.base G j c m ps fm) (hj : j ≤ kk) (ho : PE X o (tM X.K G W mo)) (hl : 1 = ps.length := by rfl)
    (h3 : eval (.Call (.Attribute o m apos) [] [] pos) X.env = (do
      let ov ← eval o X.env
      standAt apos.atName
      let (g, first) ← holding [ov] (getMethod ov m pl)
      callWith pos g first (backTo pos (starEach [] X.env)) (backToKw pos (keywordEach [] X.env))) := by rfl) : PE X (.Call (.Attribute o m apos) [] [] pos) (tM X.K G W (eMethX c fm mo [])) := by
  obtain ⟨f, fd, hm, hb, hn, F⟩ := F
  refine peImp (pe_methP0 (E := fun σ c d H => W c d σ H) ho T.cl hm F (ct.hr.mono hj) hb (fun σ => L2N.passAt ct.tk σ) h3) fun σ H Q q => ?_
  obtain ⟨ρ, h, env, hr, he, p⟩ := methX_imp (m := m) (ms := []) hl hn σ H Q q
  refine ⟨ρ, h, env, hr, he, p.imp fun v H1 z => ?_⟩
  obtain ⟨a, dx, fs, h1, h2, h4, ρ2, g, env2, hr2, he2, p2⟩ := z
  exact ⟨a, dx, fs, h1, h2, h4, p2 ρ2 H1 [] Ex.refl hr2 .nil⟩
theorem makeX_imp {nf : Nat} (hn : (G.nm c).length = nf) (hl : ms.length + 1 = ps.length) (σ : L2.St) (H : Hp) (Q : VK) (q : tM X.K G W (eMakeX c nf fm ms) σ H Q) : tMakeS (G.at_ c) (spM X.K G ps.length fm) (fun σ c d H => W c d σ H) (tL X.K G W (evs ms)) σ H Q := by
  obtain ⟨ρ, h, env, hr, he, p⟩ := q
  unfold eMakeX at p
  refine ⟨ρ, h, env, hr, he, ?_⟩
  cases q1 : evs ms env h with
  | bad => rw [q1] at p; exact p
  | exc c fs h' => rw [q1] at p; exact p
  | ok ds h1 =>
    rw [q1] at p
    simp only [R.bind_ok] at p
    intro ρ1 H1 vs e1 hr1 rs a dx na nd ne
    have rh1 : Rh X.K G ρ1 (upd H1 dx (.own a)) h1 := hr1.aux nd
    have na1 : upd H1 dx (.own a) a = none := by rw [upd_ne (fun z => ne z.symm)]; exact na
    have rh2 : Rh X.K G (ρ1 ++ [a]) (upd (upd H1 dx (.own a)) a (.ins (G.at_ c) dx [])) (h1 ++ [.ins c (List.replicate nf none)]) := by
      refine rh1.new na1 (.ins upd_same (by rw [List.length_replicate]; exact hn.symm) (fun i f hf => ?_) (fun _ _ => rfl) (by rw [setN_rep]; rfl))
      have hi : i < nf := by rw [← hn]; exact (List.getElem?_eq_some_iff.mp hf).1
      rw [List.getElem?_replicate, if_pos hi]
      trivial
    have ex3 : Ex X.K ρ1 H1 (ρ1 ++ [a]) (upd (upd H1 dx (.own a)) a (.ins (G.at_ c) dx [])) := (Ex.fresh nd).trans (Ex.push na1)
    have at1 : (ρ1 ++ [a])[h1.length]? = some a := by rw [← hr1.len]; exact get_push_eq
    refine ⟨ρ1 ++ [a], h1 ++ [.ins c (List.replicate nf none)], .ref h1.length :: ds, rh2, .cons (.ref at1) (rs.mono ex3), by rw [List.length_cons, rs.length, evs_len q1, hl], ?_⟩
    have p' := p.shift (e1.trans ex3)
    cases q2 : fm (.ref h1.length :: ds) (h1 ++ [.ins c (List.replicate nf none)]) with
    | bad => rw [q2] at p'; exact p'.elim
    | exc c fs h' => rw [q2] at p'; exact p'
    | ok d h2 =>
      rw [q2] at p'
      cases d with
      | non =>
        intro ρ2 H2 v e2 hr2 rv
        cases rv
        exact ⟨rfl, p' ρ2 H2 _ e2 hr2 (.ref (e2.pre _ _ at1))⟩
      | _ => exact p'.elim
theorem se_makeX {kk nf : Nat} (ct : Ct X W kk) (F : OkC X.prog X.w X.K X.mg X.base G j c x ps fm) (hn : (G.nm c).length = nf) (hj : j + 1 ≤ kk) (hg : Gl X x) (ha : PA X (e :: es) (tL X.K G W (evs ms))) (hl : ms.length + 1 = ps.length := by rfl)
    (h0 : (x == ("__debug__" : Str)) = false := by decide) (h1 : starEach (e :: es) X.env = (false, eval e X.env) :: starEach es X.env := by rfl) (h2 : (backTo pos (starEach es X.env)).any (·.1) = false := by rfl) : PE X (.Call (.Name x p) (e :: es) [] pos) (tM X.K G W (eMakeX c nf fm ms)) := by
  obtain ⟨f, fd, hm, hk, hb, F⟩ := F
  exact peImp (pe_makeS (E := fun σ c d H => W c d σ H) hk F (ct.hr.mono hj) hg hm hb (fun σ => L2N.passAt ct.tk σ) ha h0 h1 h2) fun σ H Q q => makeX_imp hn hl σ H Q q
theorem se_makeX0 {kk nf : Nat} (ct : Ct X W kk) (F : OkC X.prog X.w X.K X.mg X.base G j c x ps fm) (hn : (G.nm c).length = nf) (hj : j + 1 ≤ kk) (hg : Gl X x) (hl : 1 = ps.length := by rfl) (h0 : (x == ("__debug__" : Str)) = false := by decide) : PE X (.Call (.Name x p) [] [] pos) (tM X.K G W (eMakeX c nf fm [])) := by
  obtain ⟨f, fd, hm, hk, hb, F⟩ := F
  refine peImp (pe_makeS0 (E := fun σ c d H => W c d σ H) hk F (ct.hr.mono hj) hg hm hb (fun σ => L2N.passAt ct.tk σ) h0) fun σ H Q q => ?_
  obtain ⟨ρ, h, env, hr, he, p⟩ := makeX_imp (ms := []) hn hl σ H Q q
  exact p ρ H [] Ex.refl hr .nil
end
/-! ### running them -/
section
variable {c nf n c' : Nat} {fm : Fm} {mo : M} {ms : List M} {env : Ev} {h : Hh} {ds fs : List D} {d : D}
def eMethX1 (c : Nat) (fm : Fm) (ms : List M) (env : Ev) (r : R D) : R D := r.bind fun o h1 => match o with
  | .ref n => (match h1[n]? with
    | some (.ins c' _) => if c' = c then (evs ms env h1).bind fun ds h2 => fm (.ref n :: ds) h2 else .bad
    | _ => .bad)
  | _ => .bad
def eMethX2 (fm : Fm) (n : Nat) (r : R (List D)) : R D := r.bind fun ds h2 => fm (.ref n :: ds) h2
@[simp] theorem eMethX_eq : eMethX c fm mo ms env h = eMethX1 c fm ms env (mo env h) := rfl
@[simp] theorem eMethX1_r : eMethX1 c fm ms env (.ok (.ref n) h) = match h[n]? with
    | some (.ins c' _) => if c' = c then eMethX2 fm n (evs ms env h) else .bad
    | _ => .bad := rfl
@[simp] theorem eMethX2_ok : eMethX2 fm n (.ok ds h) = fm (.ref n :: ds) h := rfl
@[simp] theorem madeX_ok : madeX n (.ok .non h) = .ok (.ref n) h := rfl
@[simp] theorem madeX_exc : madeX n (.exc c fs h) = .exc c fs h := rfl
def eMakeX1 (c nf : Nat) (fm : Fm) (r : R (List D)) : R D := r.bind fun ds h1 => madeX h1.length (fm (.ref h1.length :: ds) (h1 ++ [.ins c (List.replicate nf none)]))
@[simp] theorem eMakeX_eq : eMakeX c nf fm ms env h = eMakeX1 c nf fm (evs ms env h) := rfl
@[simp] theorem eMakeX1_ok : eMakeX1 c nf fm (.ok ds h) = madeX h.length (fm (.ref h.length :: ds) (h ++ [.ins c (List.replicate nf none)])) := rfl
end
end Sm
/-! the law law_k07_octets_numbers_and_hex: mirrors and derivations, printed by gen.py -/
namespace Lk07
open PySem L2 PyProof.Rows Sm
def mtab (c c2 : Nat) : Option Bool := if c < 2 ∧ c2 < 2 then some (decide (c2 = c)) else none
theorem mtab_one (c : Nat) : ∀ c2, mtab c c2 = some true → c2 = c := fun c2 h => by
  unfold mtab at h
  split at h
  · simpa using h
  · cases h
structure Tx (K : PySem.W.Frag) (mg : Str → Option Value) : Prop where
  z_abs : mg "abs" = none
  z_all : mg "all" = none
  z_bool : mg "bool" = none
  z_int : mg "int" = none
  z_isinstance : mg "isinstance" = none
  z_len : mg "len" = none
  z_list : mg "list" = none
  z_range : mg "range" = none
  z_str : mg "str" = none
  z_tuple : mg "tuple" = none
  c_HEX : ∃ u, mg "HEX" = some (.str "0123456789abcdef" u)
noncomputable def b_is_integer : S := (sRet (eAnd (eU (opIsi .int) (eV 0)) (eNot (eU (opIsi .bool) (eV 0)))))
noncomputable def m_is_integer : Fm := fnT 1 b_is_integer
noncomputable def b_is_between : S := (sRet (eAnd (eCall m_is_integer [(eV 0)]) (eAnd (eB opLeX (eV 1) (eV 0)) (eB opLeX (eV 0) (eV 2)))))
noncomputable def m_is_between : Fm := fnT 3 b_is_between
noncomputable def b_is_octets_1 : S := (sIf (tNotM (tTru (eCall m_is_between [(eV 1), (eC (.int 0)), (eC (.int 255))]))) (sRet (eC (.bl false))) sSkip)
noncomputable def b_is_octets : S := (sSeq (sIf (tNotM (tTru (eU (opIsi .tuple) (eV 0)))) (sRet (eC (.bl false))) sSkip)
    (sSeq (sFor (mSeqS (eV 0)) (gtName 1) b_is_octets_1)
    (sRet (eC (.bl true)))))
noncomputable def m_is_octets : Fm := fnT 2 b_is_octets
noncomputable def b_check_octets_1 : S := (sIf (tNotM (tTru (eCall m_is_between [(eB opIx (eV 0) (eV 1)), (eC (.int 0)), (eC (.int 255))]))) (sRaise 0 [(eV 1), (eC (.str "octet"))]) sSkip)
noncomputable def b_check_octets : S := (sSeq (sIf (tNotM (tTru (eU (opIsi .tuple) (eV 0)))) (sRaise 0 [(eC (.int 0)), (eC (.str "shape"))]) sSkip)
    (sFor (mRng1 (eN opLen [(eV 0)])) (gtName 1) b_check_octets_1))
noncomputable def m_check_octets : Fm := fnT 2 b_check_octets
noncomputable def b_to_number_1 : S := (sSet 1 (eB opAdd (eB opMulA (eV 1) (eC (.int 256))) (eV 2)))
noncomputable def b_to_number : S := (sSeq (sExpr (eCall m_check_octets [(eV 0)]))
    (sSeq (sSet 1 (eC (.int 0)))
    (sSeq (sFor (mSeqS (eV 0)) (gtName 2) b_to_number_1)
    (sRet (eV 1)))))
noncomputable def m_to_number : Fm := fnT 3 b_to_number
noncomputable def b_from_number_1 : S := (sSeq (sExpr (eMt opAppend (eV 2) [(eB opMod (eV 0) (eC (.int 256)))]))
    (sSet 0 (eB opFdiv (eV 0) (eC (.int 256)))))
noncomputable def b_from_number : S := (sSeq (sSet 2 (eLst []))
    (sSeq (sFor (mRng1 (eV 1)) (gtName 3) b_from_number_1)
    (sSeq (sExpr (eMt opReverse (eV 2) []))
    (sRet (eN opTupleOf [(eV 2)])))))
noncomputable def m_from_number : Fm := fnT 4 b_from_number
noncomputable def b_to_hex : S := (sSeq (sExpr (eCall m_check_octets [(eV 0)]))
    (sRet (eM1 opJoin (eC (.str "")) (eFz (eLc (mSeqS (eV 0)) (gtName 1) tYesM (eB opAddF (eB opIx (eC (.str "0123456789abcdef")) (eB opFdiv (eV 1) (eC (.int 16)))) (eB opIx (eC (.str "0123456789abcdef")) (eB opMod (eV 1) (eC (.int 16))))) [1])))))
noncomputable def m_to_hex : Fm := fnT 2 b_to_hex
noncomputable def b_from_hex_1 : S := (sIf (tBl (eB opNin (eB opIx (eV 0) (eV 1)) (eC (.str "0123456789abcdef")))) (sRaise 1 [(eC (.int 1)), (eB opAdd (eV 1) (eC (.int 1))), (eC (.str "hex"))]) sSkip)
noncomputable def b_from_hex : S := (sSeq (sIf (tNotM (tTru (eU (opIsi .str) (eV 0)))) (sRaise 1 [(eC (.int 1)), (eC (.int 1)), (eC (.str "hex"))]) sSkip)
    (sSeq (sFor (mRng1 (eN opLen [(eV 0)])) (gtName 1) b_from_hex_1)
    (sSeq (sIf (tBl (eB opEq (eB opMod (eN opLen [(eV 0)]) (eC (.int 2))) (eC (.int 1)))) (sRaise 1 [(eC (.int 1)), (eB opAdd (eN opLen [(eV 0)]) (eC (.int 1))), (eC (.str "hex"))]) sSkip)
    (sSeq (sSet 2 (eFz (eLc (mSeqS (eV 0)) (gtName 3) tYesM (eM1 opSIdx (eC (.str "0123456789abcdef")) (eV 3)) [3])))
    (sRet (eN opTupleOf [(eFz (eLc (mRng3 (eC (.int 0)) (eN opLen [(eV 2)]) (eC (.int 2))) (gtName 1) tYesM (eB opAdd (eB opMulA (eB opIx (eV 2) (eV 1)) (eC (.int 16))) (eB opIx (eV 2) (eB opAdd (eV 1) (eC (.int 1))))) [1]))]))))))
noncomputable def m_from_hex : Fm := fnT 4 b_from_hex
noncomputable def b__law_draw : S := (sSeq (sIf (tAndM (tBl (eB opEq (eB opIx (eV 0) (eC (.int 2))) (eC (.int 0)))) (tBl (eB opLtX (eB opIx (eV 0) (eC (.int 1))) (eN opLen [(eB opIx (eV 0) (eC (.int 0)))])))) (sSeq (sSet 2 (eN opAbs [(eB opIx (eB opIx (eV 0) (eC (.int 0))) (eB opIx (eV 0) (eC (.int 1))))]))
    (sSeq (sSetIx (eV 0) (eC (.int 1)) (eB opAdd (eB opIx (eV 0) (eC (.int 1))) (eC (.int 1))))
    (sIf (tBl (eB opGeX (eV 2) (eB opPow (eC (.int 10)) (eC (.int 18))))) (sSetIx (eV 0) (eC (.int 2)) (eV 2)) (sSetIx (eV 0) (eC (.int 3)) (eB opMod (eN opInt [(eB opAdd (eB opAdd (eB opMulA (eB opIx (eV 0) (eC (.int 3))) (eC (.int 48271))) (eB opMulA (eV 2) (eC (.int 69621)))) (eC (.int 12345)))]) (eC (.int 2147483647))))))) sSkip)
    (sSeq (sIf (tBl (eB opGtX (eB opIx (eV 0) (eC (.int 2))) (eC (.int 0)))) (sSeq (sSet 3 (eB opMod (eN opInt [(eB opIx (eV 0) (eC (.int 2)))]) (eV 1)))
    (sSeq (sSetIx (eV 0) (eC (.int 2)) (eB opFdiv (eB opIx (eV 0) (eC (.int 2))) (eV 1)))
    (sRet (eV 3)))) sSkip)
    (sSeq (sSetIx (eV 0) (eC (.int 3)) (eB opMod (eN opInt [(eB opAdd (eB opMulA (eB opIx (eV 0) (eC (.int 3))) (eC (.int 48271))) (eC (.int 11)))]) (eC (.int 2147483647))))
    (sRet (eB opMod (eB opMod (eN opInt [(eB opAdd (eB opFdiv (eB opMulA (eB opIx (eV 0) (eC (.int 3))) (eB opIx (eV 0) (eC (.int 3)))) (eC (.int 65536))) (eB opIx (eV 0) (eC (.int 3))))]) (eC (.int 2147483629))) (eV 1))))))
noncomputable def m__law_draw : Fm := fnT 4 b__law_draw
noncomputable def b__law_pick : S := (sRet (eB opIx (eV 1) (eCall m__law_draw [(eV 0), (eN opLen [(eV 1)])])))
noncomputable def m__law_pick : Fm := fnT 2 b__law_pick
noncomputable def b__law_same (self_ : Fm) : S := (sSeq (sIf (tTru (eU (opIsi .tuple) (eV 1))) (sSeq (sIf (tOrM (tNotM (tTru (eU (opIsi .tuple) (eV 0)))) (tBl (eB opNe (eN opLen [(eV 0)]) (eN opLen [(eV 1)])))) (sRet (eC (.bl false))) sSkip)
    (sRet (eN opAll [(eFz (eLc (mRng1 (eN opLen [(eV 1)])) (gtName 2) tYesM (eCall self_ [(eB opIx (eV 0) (eV 2)), (eB opIx (eV 1) (eV 2))]) [2]))]))) sSkip)
    (sSeq (sIf (tBl (eU opIsN (eV 1))) (sRet (eU opIsN (eV 0))) sSkip)
    (sSeq (sIf (tOrM (tTru (eU (opIsi .bool) (eV 1))) (tTru (eU (opIsi .bool) (eV 0)))) (sRet (eAnd (eU (opIsi .bool) (eV 1)) (eAnd (eU (opIsi .bool) (eV 0)) (eB opEq (eV 0) (eV 1))))) sSkip)
    (sSeq (sIf (tTru (eU (opIsi .int) (eV 1))) (sRet (eAnd (eU (opIsi .int) (eV 0)) (eB opEq (eV 0) (eV 1)))) sSkip)
    (sRet (eAnd (eU (opIsi .str) (eV 1)) (eAnd (eU (opIsi .str) (eV 0)) (eB opEq (eV 0) (eV 1)))))))))
noncomputable def m__law_same : Nat → Fm
  | 0 => fun _ _ => .bad
  | n + 1 => fnT 3 (b__law_same (m__law_same n))
noncomputable def b__law_octets : S := (sSeq (sSet 2 (eCall m__law_draw [(eV 0), (eC (.int 6))]))
    (sSeq (sIf (tBl (eB opLtX (eV 2) (eC (.int 2)))) (sRet (eFz (eLc (mRng1 (eV 1)) (gtName 3) tYesM (eB opMulA (eC (.int 255)) (eV 2)) [3]))) sSkip)
    (sRet (eFz (eLc (mRng1 (eV 1)) (gtName 3) tYesM (eCall m__law_draw [(eV 0), (eC (.int 256))]) [3])))))
noncomputable def m__law_octets : Fm := fnT 4 b__law_octets
noncomputable def b__law_value_1 : S := (sSeq (sSet 5 (eCall m__law_pick [(eV 0), (eLstF [(eC (.int 256)), (eU opNeg (eC (.int 1))), (eC (.bl true)), (eC (.bl false)), (eC .non), (eC (.str "1")), (eTup []), (eTup [(eC (.int 1))]), (eC (.int 255)), (eC (.int 0))])]))
    (sExpr (eMt opInsert (eV 3) [(eCall m__law_draw [(eV 0), (eB opAdd (eN opLen [(eV 3)]) (eC (.int 1)))]), (eV 5)])))
noncomputable def b__law_value : S := (sSeq (sSet 2 (eCall m__law_draw [(eV 0), (eC (.int 8))]))
    (sSeq (sIf (tBl (eB opLtX (eV 2) (eC (.int 4)))) (sRet (eN opTupleOf [(eV 1)])) sSkip)
    (sSeq (sIf (tBl (eB opEq (eV 2) (eC (.int 4)))) (sRet (eCall m__law_pick [(eV 0), (eLstF [(eN opListF [(eV 1)]), (eC (.str "")), (eC (.str "7")), (eC .non), (eC (.int 7)), (eC (.bl true)), (eLstF []), (eC (.str "abc"))])])) sSkip)
    (sSeq (sSet 3 (eN opList [(eV 1)]))
    (sSeq (sFor (mRng1 (eB opAdd (eC (.int 1)) (eCall m__law_draw [(eV 0), (eC (.int 2))]))) (gtName 4) b__law_value_1)
    (sRet (eN opTupleOf [(eV 3)])))))))
noncomputable def m__law_value : Fm := fnT 6 b__law_value
noncomputable def b__law_octet_fault_1 : S := (sSeq (sSet 2 (eB opIx (eV 0) (eV 1)))
    (sIf (tOrM (tTru (eU (opIsi .bool) (eV 2))) (tOrM (tNotM (tTru (eU (opIsi .int) (eV 2)))) (tOrM (tBl (eB opLtX (eV 2) (eC (.int 0)))) (tBl (eB opGtX (eV 2) (eC (.int 255))))))) (sRet (eTup [(eV 1), (eC (.str "octet"))])) sSkip))
noncomputable def b__law_octet_fault : S := (sSeq (sIf (tNotM (tTru (eU (opIsi .tuple) (eV 0)))) (sRet (eTup [(eC (.int 0)), (eC (.str "shape"))])) sSkip)
    (sSeq (sFor (mRng1 (eN opLen [(eV 0)])) (gtName 1) b__law_octet_fault_1)
    (sRet (eC .non))))
noncomputable def m__law_octet_fault : Fm := fnT 3 b__law_octet_fault
noncomputable def b__law_number_1 : S := (sSeq (sSet 1 (eB opAdd (eV 1) (eB opMulA (eV 3) (eV 2))))
    (sSet 2 (eB opMulA (eV 2) (eC (.int 256)))))
noncomputable def b__law_number : S := (sSeq (sSet 1 (eC (.int 0)))
    (sSeq (sSet 2 (eC (.int 1)))
    (sSeq (sFor (mSeqS (eU opRevX (eV 0))) (gtName 3) b__law_number_1)
    (sRet (eV 1)))))
noncomputable def m__law_number : Fm := fnT 4 b__law_number
noncomputable def b__law_hex_1 : S := (sSet 2 (eB opAdd (eB opAdd (eV 2) (eB opIx (eV 1) (eB opFdiv (eV 3) (eC (.int 16))))) (eB opIx (eV 1) (eB opMod (eN opInt [(eV 3)]) (eC (.int 16))))))
noncomputable def b__law_hex : S := (sSeq (sSet 1 (eC (.str "0123456789abcdef")))
    (sSeq (sSet 2 (eC (.str "")))
    (sSeq (sFor (mSeqS (eV 0)) (gtName 3) b__law_hex_1)
    (sRet (eV 2)))))
noncomputable def m__law_hex : Fm := fnT 4 b__law_hex
noncomputable def b__law_outcome : S := (sTryL (sSeq (sIf (tBl (eB opEq (eV 0) (eC (.int 0)))) (sRet (eLstF [(eC (.str "told")), (eCall m_check_octets [(eV 1)])])) sSkip)
    (sSeq (sIf (tBl (eB opEq (eV 0) (eC (.int 1)))) (sRet (eLstF [(eC (.str "told")), (eCall m_to_number [(eV 1)])])) sSkip)
    (sRet (eLstF [(eC (.str "told")), (eCall m_to_hex [(eV 1)])])))) [⟨(mtab 0), some 2, fun c_ fs => (fun fs => sRet ((eLstXF [(fun _ => (eC (.str "refused"))), (eTupX [(eFd 0), (eFd 1)])]) fs)) fs⟩])
noncomputable def m__law_outcome : Fm := fnT 3 b__law_outcome
noncomputable def b__law_is_taken_1 : S := (sSeq (sSet 4 (eCall m__law_outcome [(eV 3), (eV 0)]))
    (sSeq (sIf (tAndM (tBl (eU opIsN (eV 1))) (tOrM (tBl (eB opNe (eB opIx (eV 4) (eC (.int 0))) (eC (.str "told")))) (tNotM (tTru (eCall (m__law_same 12) [(eB opIx (eV 4) (eC (.int 1))), (eB opIx (eV 2) (eV 3))]))))) (sRet (eC (.bl false))) sSkip)
    (sIf (tAndM (tBl (eU opNotN (eV 1))) (tOrM (tBl (eB opNe (eB opIx (eV 4) (eC (.int 0))) (eC (.str "refused")))) (tNotM (tTru (eCall (m__law_same 12) [(eB opIx (eV 4) (eC (.int 1))), (eV 1)]))))) (sRet (eC (.bl false))) sSkip)))
noncomputable def b__law_is_taken : S := (sSeq (sSet 1 (eCall m__law_octet_fault [(eV 0)]))
    (sSeq (sIf (tNotM (tTru (eCall (m__law_same 12) [(eCall m_is_octets [(eV 0)]), (eU opIsN (eV 1))]))) (sRet (eC (.bl false))) sSkip)
    (sSeq (sSet 2 (eLstF [(eC .non), (eC .non), (eC .non)]))
    (sSeq (sIf (tBl (eU opIsN (eV 1))) (sSet 2 (eLstF [(eC .non), (eCall m__law_number [(eV 0)]), (eCall m__law_hex [(eV 0)])])) sSkip)
    (sSeq (sFor (mRng1 (eC (.int 3))) (gtName 3) b__law_is_taken_1)
    (sRet (eC (.bl true))))))))
noncomputable def m__law_is_taken : Fm := fnT 5 b__law_is_taken
noncomputable def b__law_text_1 : S := (sSeq (sSet 5 (eCall m__law_draw [(eV 0), (eB opAdd (eN opLen [(eV 2)]) (eC (.int 1)))]))
    (sSeq (sSet 6 (eCall m__law_draw [(eV 0), (eC (.int 3))]))
    (sSeq (sSet 7 (eCall m__law_pick [(eV 0), (eV 3)]))
    (sSeq (sIf (tBl (eB opEq (eV 6) (eC (.int 0)))) (sSet 7 (eC (.str ""))) sSkip)
    (sSet 2 (eB opAddF (eB opAddF (eSlF (eV 2) none (some (eV 5))) (eV 7)) (eSlF (eV 2) (some (eB opAdd (eV 5) (eN opInt [(eB opNe (eV 6) (eC (.int 1)))]))) none)))))))
noncomputable def b__law_text : S := (sSeq (sSet 2 (eCall m__law_hex [(eV 1)]))
    (sSeq (sIf (tBl (eB opEq (eCall m__law_draw [(eV 0), (eC (.int 3))]) (eC (.int 2)))) (sRet (eV 2)) sSkip)
    (sSeq (sSet 3 (eC (.str "0123456789abcdefABCDEFGgx -+_.O\n")))
    (sSeq (sFor (mRng1 (eB opAdd (eC (.int 1)) (eCall m__law_draw [(eV 0), (eC (.int 3))]))) (gtName 4) b__law_text_1)
    (sRet (eV 2))))))
noncomputable def m__law_text : Fm := fnT 8 b__law_text
noncomputable def b__law_is_read_1 : S := (sSeq (sSet 5 (eM1 opFind (eC (.str "0123456789abcdef")) (eB opIx (eV 0) (eV 3))))
    (sSeq (sIf (tAndM (tBl (eB opLtX (eV 5) (eC (.int 0)))) (tBl (eB opEq (eV 1) (eC (.int 0))))) (sSet 1 (eB opAdd (eV 3) (eC (.int 1)))) sSkip)
    (sExpr (eMt opAppend (eV 2) [(eV 5)]))))
noncomputable def b__law_is_read : S := (sSeq (sSet 1 (eC (.int 0)))
    (sSeq (sSet 2 (eLst []))
    (sSeq (sFor (mRng1 (eN opLen [(eV 0)])) (gtName 3) b__law_is_read_1)
    (sSeq (sIf (tAndM (tBl (eB opEq (eV 1) (eC (.int 0)))) (tBl (eB opNe (eN opLen [(eV 0)]) (eB opMulA (eC (.int 2)) (eB opFdiv (eN opLen [(eV 0)]) (eC (.int 2))))))) (sSet 1 (eB opAdd (eN opLen [(eV 0)]) (eC (.int 1)))) sSkip)
    (sSeq (sTryL (sSet 6 (eCall m_from_hex [(eV 0)])) [⟨(mtab 1), some 4, fun c_ fs => (fun fs => sRet ((fun fs => eAnd ((fun _ => (eB opGtX (eV 1) (eC (.int 0)))) fs) ((fun fs => eCall (m__law_same 12) (List.map (fun m => m fs) [(eTupX [(eFd 0), (eFd 1), (eFd 2)]), (fun _ => (eTup [(eC (.int 1)), (eV 1), (eC (.str "hex"))]))])) fs)) fs)) fs⟩])
    (sSeq (sIf (tBl (eB opGtX (eV 1) (eC (.int 0)))) (sRet (eC (.bl false))) sSkip)
    (sRet (eCall (m__law_same 12) [(eV 6), (eN opTupleOf [(eFz (eLc (mRng1 (eB opFdiv (eN opLen [(eV 2)]) (eC (.int 2)))) (gtName 3) tYesM (eB opAdd (eB opMulA (eC (.int 16)) (eB opIx (eV 2) (eB opMulA (eC (.int 2)) (eV 3)))) (eB opIx (eV 2) (eB opAdd (eB opMulA (eC (.int 2)) (eV 3)) (eC (.int 1))))) [3]))])]))))))))
noncomputable def m__law_is_read : Fm := fnT 7 b__law_is_read
noncomputable def b__law_is_refused : S := (sSeq (sTryL (sExpr (eCall m_from_hex [(eV 0)])) [⟨(mtab 1), some 1, fun c_ fs => (fun fs => sRet ((fun fs => eCall (m__law_same 12) (List.map (fun m => m fs) [(eTupX [(eFd 0), (eFd 1), (eFd 2)]), (fun _ => (eTup [(eC (.int 1)), (eC (.int 1)), (eC (.str "hex"))]))])) fs)) fs⟩])
    (sRet (eC (.bl false))))
noncomputable def m__law_is_refused : Fm := fnT 2 b__law_is_refused
noncomputable def b_law : S := (sSeq (sSet 1 (eLst [(eV 0), (eC (.int 0)), (eC (.int 0)), (eC (.int 1))]))
    (sSeq (sSet 2 (eCall m__law_draw [(eV 1), (eC (.int 9))]))
    (sSeq (sIf (tBl (eB opEq (eCall m__law_draw [(eV 1), (eC (.int 8))]) (eC (.int 7)))) (sSet 2 (eCall m__law_pick [(eV 1), (eLstF [(eC (.int 40)), (eC (.int 41)), (eC (.int 300))])])) sSkip)
    (sSeq (sSet 3 (eCall m__law_octets [(eV 1), (eV 2)]))
    (sSeq (sIf (tOrM (tNotM (tTru (eCall m__law_is_taken [(eN opTupleOf [(eV 3)])]))) (tNotM (tTru (eCall m__law_is_taken [(eCall m__law_value [(eV 1), (eV 3)])])))) (sRet (eC (.bl false))) sSkip)
    (sSeq (sSet 4 (eN opTupleOf [(eCall m__law_octets [(eV 1), (eCall m__law_draw [(eV 1), (eC (.int 9))])])]))
    (sSeq (sIf (tNotM (tTru (eCall (m__law_same 12) [(eCall m_from_number [(eCall m__law_number [(eV 4)]), (eN opLen [(eV 4)])]), (eV 4)]))) (sRet (eC (.bl false))) sSkip)
    (sSeq (sIf (tNotM (tTru (eCall (m__law_same 12) [(eCall m_to_number [(eV 4)]), (eCall m__law_number [(eV 4)])]))) (sRet (eC (.bl false))) sSkip)
    (sSeq (sIf (tOrM (tNotM (tTru (eCall m__law_is_read [(eCall m__law_hex [(eV 3)])]))) (tNotM (tTru (eCall m__law_is_read [(eCall m__law_text [(eV 1), (eV 3)])])))) (sRet (eC (.bl false))) sSkip)
    (sSeq (sIf (tBl (eB opEq (eCall m__law_draw [(eV 1), (eC (.int 12))]) (eC (.int 11)))) (sRet (eCall m__law_is_refused [(eCall m__law_pick [(eV 1), (eLstF [(eC .non), (eC (.int 7)), (eC (.bl true)), (eTup [(eC (.str "0")), (eC (.str "1"))]), (eLstF [(eC (.str "00"))]), (eTup []), (eLstF [])])])])) sSkip)
    (sRet (eC (.bl true)))))))))))))
noncomputable def m_law : Fm := fnT 5 b_law
end Lk07
/-! k07: equality, octets, faults -/
namespace Lk07
open PySem L2 PyProof.Rows Sm
theorem mt00 : mtab 0 0 = some true := rfl
theorem mt11 : mtab 1 1 = some true := rfl
theorem mt01 : mtab 0 1 = some false := rfl
theorem mt10 : mtab 1 0 = some false := rfl
abbrev lD (l : List Nat) : D := .str (tx l)
/-! ### _law_same(v, v) -/
theorem same_refl : ∀ (k : Nat) (d : D) (n : Nat) (h : Hh), tm k d = true → (∀ ds, d ≠ .fls ds) → (∀ ds, d = .tup ds → ∀ e ∈ ds, ∀ es, e ≠ .fls es ∧ e ≠ .tup es) → 2 ≤ n → m__law_same n [d, d] h = .ok (.bl true) h := by
  have flat : ∀ (d : D) (k n : Nat) (h : Hh), tm k d = true → (∀ ds, d ≠ .fls ds ∧ d ≠ .tup ds) → m__law_same (n + 1) [d, d] h = .ok (.bl true) h := by
    intro d k n h ht hd
    have ok : okD 60 d = true := by
      cases d with
      | tup ds => exact absurd rfl (hd ds).2
      | fls ds => exact absurd rfl (hd ds).1
      | ref n => exact absurd ht tm_ref
      | non => rfl
      | bl b => rfl
      | int i => rfl
      | str x => exact okD_mono (by omega) (tm_ok (k := 1) (by cases k with
        | zero => simp [tm] at ht
        | succ k => simpa [tm] using ht))
    have eb : opEq d d h = some (.bl true, h) := by rw [opEq_ok h ok ok, eqd_refl ok]
    show fnT 3 (b__law_same (m__law_same n)) [d, d] h = _
    cases d with
    | tup ds => exact absurd rfl (hd ds).2
    | fls ds => exact absurd rfl (hd ds).1
    | ref n => exact absurd ht tm_ref
    | _ => simp [b__law_same, eb, trR_ok0]
  intro k d n h ht hf hd hn
  obtain ⟨n, rfl⟩ : ∃ n', n = n' + 2 := ⟨n - 2, by omega⟩
  cases d with
  | tup ds =>
    obtain ⟨t1, t2⟩ := tm_tup ht
    have hr : Sm.inR (ds.length : Int) = true := inR_ok (by omega) (by omega)
    have lc := fz_lcM (i := 2) (m := eCall (m__law_same (n + 1)) [(eB opIx (eV 0) (eV 2)), (eB opIx (eV 1) (eV 2))]) (env := [some (.tup ds), some (.tup ds), none]) (h := h) (fun k : Nat => D.int (k : Int)) (fun _ => D.bl true) (List.range ds.length) (fun j hj acc => by
      have hj' : j < ds.length := by simpa using hj
      obtain ⟨y, ey⟩ : ∃ y, ds[j]? = some y := ⟨_, List.getElem?_eq_getElem hj'⟩
      have a1 : atI ds (j : Int) = some y := by rw [atI_pos (by omega)]; exact ey
      have my := List.mem_of_getElem? ey
      have e := flat y _ n (h ++ [.lst acc]) (tms_mem t1 my) (hd ds rfl y my)
      simp [a1, e]) (line4k (by simp; omega)) (by rw [los_all]; simp)
    rw [← rngD_range] at lc
    have all : bools ((List.range ds.length).map fun _ => D.bl true) = some ((List.range ds.length).map fun _ => true) := bools_map (fun _ => true) _
    show fnT 3 (b__law_same (m__law_same (n + 1))) [.tup ds, .tup ds] h = _
    simp [b__law_same, hr, lc, all, trR_ok0]
  | fls ds => exact absurd rfl (hf ds)
  | _ => exact flat _ k (n + 1) h ht (fun ds => ⟨(nomatch ·), (nomatch ·)⟩)
theorem same_bl (b : Bool) (h : Hh) : m__law_same 12 [.bl b, .bl b] h = .ok (.bl true) h := same_refl 1 _ 12 h rfl (fun _ z => by cases z) (fun _ z => by cases z) (by omega)
theorem same_int (i : Int) (h : Hh) : m__law_same 12 [.int i, .int i] h = .ok (.bl true) h := same_refl 1 _ 12 h rfl (fun _ z => by cases z) (fun _ z => by cases z) (by omega)
theorem same_non (h : Hh) : m__law_same 12 [.non, .non] h = .ok (.bl true) h := same_refl 1 _ 12 h rfl (fun _ z => by cases z) (fun _ z => by cases z) (by omega)
theorem same_ints {xs : List Int} (hl : xs.length ≤ 4096) (h : Hh) : m__law_same 12 [.tup (xs.map D.int), .tup (xs.map D.int)] h = .ok (.bl true) h := same_refl 2 _ 12 h (tm_mkT (fun d hd => by
  obtain ⟨i, _, rfl⟩ := List.mem_map.mp hd
  rfl) (by simpa using hl)) (fun _ z => by cases z) (fun ds z e he es => by
  cases z
  obtain ⟨i, _, rfl⟩ := List.mem_map.mp he
  exact ⟨(nomatch ·), (nomatch ·)⟩) (by omega)
/-! ### octets -/
def isI : D → Bool
  | .int _ => true
  | _ => false
def bt (d : D) (a b : Int) : Bool := match d with
  | .int v => decide (a ≤ v) && decide (v ≤ b)
  | _ => false
theorem integer_D {d : D} {k : Nat} (ht : tm k d = true) (h : Hh) : m_is_integer [d] h = .ok (.bl (isI d)) h := by
  cases d with
  | ref n => exact absurd ht tm_ref
  | _ => simp [m_is_integer, b_is_integer, isI, trR_ok0]
theorem between_D {d : D} {k : Nat} (ht : tm k d = true) (a b : Int) (h : Hh) : m_is_between [d, .int a, .int b] h = .ok (.bl (bt d a b)) h := by
  have e := integer_D ht h
  cases d with
  | ref n => exact absurd ht tm_ref
  | int v =>
    by_cases h1 : a ≤ v <;> by_cases h2 : v ≤ b <;> simp [m_is_between, b_is_between, e, isI, bt, h1, h2, trR_ok0]
  | _ => simp [m_is_between, b_is_between, e, isI, bt, trR_ok0]
abbrev oc (d : D) : Bool := bt d 0 255
/-- the first element that is no octet -/
def fb (ds : List D) : Option Nat := (List.range ds.length).find? fun k => !oc (ds.getD k .non)
theorem fb_none {ds : List D} (e : fb ds = none) : ds.all oc = true := by
  rw [List.all_eq_true]
  intro d hd
  obtain ⟨i, hi⟩ := List.mem_iff_getElem?.mp hd
  have hl := (List.getElem?_eq_some_iff.mp hi).1
  unfold fb at e
  rw [List.find?_eq_none] at e
  have := e i (by simpa using hl)
  rw [List.getD_eq_getElem?_getD, hi] at this
  simpa using this
theorem fb_some {ds : List D} {k : Nat} (e : fb ds = some k) : ds.all oc = false ∧ k < ds.length := by
  unfold fb at e
  have h1 := List.find?_some e
  have h2 : k < ds.length := by simpa using List.mem_of_find?_eq_some e
  refine ⟨?_, h2⟩
  cases q : ds.all oc with
  | false => rfl
  | true =>
    have := List.all_eq_true.mp q ds[k] (by simp)
    rw [List.getD_eq_getElem?_getD, List.getElem?_eq_getElem h2] at h1
    simp at h1
    rw [this] at h1
    cases h1
theorem octets_tup {ds : List D} {k : Nat} (ht : tms k ds = true) (h : Hh) : m_is_octets [.tup ds] h = .ok (.bl (ds.all oc)) h := by
  have lp := forL_all (i := 1) (body := b_is_octets_1) (env := [some (.tup ds), none]) (h := h) oc (.bl false) ds (fun x hx => by
    have e := between_D (tms_mem ht hx) 0 255 h
    cases q : oc x <;> simp [b_is_octets_1, e, q])
  cases q : ds.all oc with
  | true =>
    obtain ⟨e, z⟩ := lp.1 q
    simp [m_is_octets, b_is_octets, z, trR_ok0]
  | false => simp [m_is_octets, b_is_octets, lp.2 q, trR_ok0]
theorem check_tup {ds : List D} {k : Nat} (ht : tms k ds = true) (hl : ds.length ≤ 60000) (h : Hh) : m_check_octets [.tup ds] h = match fb ds with
    | none => .ok .non h
    | some j => .exc 0 [.int (j : Int), .str "octet"] h := by
  have hr : Sm.inR (ds.length : Int) = true := inR_ok (by omega) (by omega)
  have lp := forL_findM (i := 1) (body := b_check_octets_1) (h := h) (fun k : Nat => D.int (k : Int)) (fun k => oc (ds.getD k .non)) (fun j => .exc 0 [.int (j : Int), .str "octet"] [some (.tup ds), some (.int (j : Int))] h) (List.range ds.length) [some (.tup ds), none] (fun j hj => by
    have hj' : j < ds.length := by simpa using hj
    have a1 : atI ds (j : Int) = some (ds.getD j .non) := by
      rw [atI_pos (by omega), List.getD_eq_getElem?_getD]
      show ds[j]? = _
      rw [List.getElem?_eq_getElem hj']
      rfl
    have e := between_D (tms_mem ht (List.mem_of_getElem? (i := j) (a := ds.getD j .non) (by rw [List.getD_eq_getElem?_getD, List.getElem?_eq_getElem hj']; rfl))) 0 255 h
    generalize ds.getD j .non = y at a1 e ⊢
    cases q : oc y <;> simp [b_check_octets_1, a1, e, q]) (fun _ _ _ => rfl)
  rw [← rngD_range] at lp
  cases q : fb ds with
  | none =>
    obtain ⟨e, z⟩ := lp.2 q
    simp [m_check_octets, b_check_octets, hr, z, trR_ok0]
  | some j =>
    have z := lp.1 j q
    simp [m_check_octets, b_check_octets, hr, z, trR_exc0]
theorem fault_tup {ds : List D} {k : Nat} (ht : tms k ds = true) (hl : ds.length ≤ 60000) (h : Hh) : m__law_octet_fault [.tup ds] h = match fb ds with
    | none => .ok .non h
    | some j => .ok (.tup [.int (j : Int), .str "octet"]) h := by
  have hr : Sm.inR (ds.length : Int) = true := inR_ok (by omega) (by omega)
  have lp : ∀ (xs : List Nat) (e1 e2 : Option D), (∀ j ∈ xs, j < ds.length) → (∀ j, xs.find? (fun k => !oc (ds.getD k .non)) = some j → forL (gtName 1) b__law_octet_fault_1 none (xs.map fun k : Nat => D.int (k : Int)) [some (.tup ds), e1, e2] h = .rt (.tup [.int (j : Int), .str "octet"]) h)
      ∧ (xs.find? (fun k => !oc (ds.getD k .non)) = none → ∃ f1 f2, forL (gtName 1) b__law_octet_fault_1 none (xs.map fun k : Nat => D.int (k : Int)) [some (.tup ds), e1, e2] h = .nx [some (.tup ds), f1, f2] h) := by
    intro xs
    induction xs with
    | nil => exact fun e1 e2 _ => ⟨fun j z => by simp at z, fun _ => ⟨e1, e2, forL_nil (gd := none) trivial⟩⟩
    | cons j xs ih =>
      intro e1 e2 hx
      have hj' : j < ds.length := hx j (by simp)
      have a1 : atI ds (j : Int) = some (ds.getD j .non) := by
        rw [atI_pos (by omega), List.getD_eq_getElem?_getD]
        show ds[j]? = _
        rw [List.getElem?_eq_getElem hj']
        rfl
      have ty := tms_mem ht (List.mem_of_getElem? (i := j) (a := ds.getD j .non) (by rw [List.getD_eq_getElem?_getD, List.getElem?_eq_getElem hj']; rfl))
      have t : b__law_octet_fault_1 [some (.tup ds), some (.int (j : Int)), e2] h = if oc (ds.getD j .non) = true then .nx [some (.tup ds), some (.int (j : Int)), some (ds.getD j .non)] h else .rt (.tup [.int (j : Int), .str "octet"]) h := by
        generalize ds.getD j .non = y at a1 ty ⊢
        cases y with
        | ref n => exact absurd ty tm_ref
        | int v =>
          by_cases h1 : v < 0 <;> by_cases h2 : 255 < v <;> simp [b__law_octet_fault_1, a1, oc, bt, h1, h2] <;> omega
        | _ => simp [b__law_octet_fault_1, a1, oc, bt]
      cases q : oc (ds.getD j .non) with
      | true =>
        rw [q, if_pos rfl] at t
        have i2 := ih (some (.int (j : Int))) (some (ds.getD j .non)) (fun y hy => hx y (by simp [hy]))
        have e : forL (gtName 1) b__law_octet_fault_1 none (D.int (j : Int) :: xs.map fun k : Nat => D.int (k : Int)) [some (.tup ds), e1, e2] h = _ := forL_nx (gd := none) trivial rfl t
        rw [List.map_cons, e]
        rw [List.find?_cons, q]
        exact i2
      | false =>
        rw [q, if_neg (by simp)] at t
        have e : forL (gtName 1) b__law_octet_fault_1 none (D.int (j : Int) :: xs.map fun k : Nat => D.int (k : Int)) [some (.tup ds), e1, e2] h = _ := forL_rt (gd := none) trivial rfl t
        rw [List.map_cons, e]
        rw [List.find?_cons, q]
        exact ⟨fun y z => by cases z; rfl, fun z => by cases z⟩
  have l2 := lp (List.range ds.length) none none (fun j hj => by simpa using hj)
  rw [← rngD_range] at l2
  cases q : fb ds with
  | none =>
    obtain ⟨f1, f2, z⟩ := l2.2 q
    simp [m__law_octet_fault, b__law_octet_fault, hr, z, trR_ok0]
  | some j =>
    have z := l2.1 j q
    simp [m__law_octet_fault, b__law_octet_fault, hr, z, trR_ok0]
end Lk07
/-! k07: numbers, hexadecimal texts -/
namespace Lk07
open PySem L2 PyProof.Rows Sm
/-- a row of octets -/
def Oc (os : List Int) : Prop := ∀ o ∈ os, 0 ≤ o ∧ o ≤ 255
def num (os : List Int) (n : Int) : Int := os.foldl (fun a o => a * 256 + o) n
def lval : List Int → Int
  | [] => 0
  | o :: os => o + 256 * lval os
def digits : Nat → Int → List Int
  | 0, _ => []
  | k + 1, n => n % 256 :: digits k (n / 256)
theorem lval_snoc (o : Int) : ∀ os : List Int, lval (os ++ [o]) = lval os + o * 256 ^ os.length
  | [] => by simp [lval]
  | x :: os => by
    have ih := lval_snoc o os
    simp only [List.cons_append, lval, ih, List.length_cons, Int.pow_succ]
    generalize (256 : Int) ^ os.length = P
    generalize lval os = L
    rw [Int.mul_add, ← Int.add_assoc, ← Int.mul_assoc o P 256, Int.mul_comm (o * P) 256]
theorem num_lval : ∀ (os : List Int) (n : Int), num os n = n * 256 ^ os.length + lval os.reverse
  | [], n => by simp [num, lval]
  | o :: os, n => by
    have ih := num_lval os (n * 256 + o)
    show num os (n * 256 + o) = _
    rw [ih, List.reverse_cons, lval_snoc, List.length_reverse, List.length_cons, Int.pow_succ, Int.add_mul, Int.mul_assoc, Int.mul_comm 256 (256 ^ os.length), Int.add_assoc, Int.add_comm (o * _)]
theorem digits_lval : ∀ os : List Int, Oc os → digits os.length (lval os) = os
  | [], _ => rfl
  | o :: os, h => by
    have h1 := h o (by simp)
    have ih := digits_lval os (fun x hx => h x (by simp [hx]))
    simp only [List.length_cons, digits, lval]
    rw [show (o + 256 * lval os) % 256 = o by omega, show (o + 256 * lval os) / 256 = lval os by omega, ih]
theorem oc_all {os : List Int} (h : Oc os) : (os.map D.int).all oc = true := by
  rw [List.all_eq_true]
  intro d hd
  obtain ⟨o, ho, rfl⟩ := List.mem_map.mp hd
  have := h o ho
  simp [oc, bt, this.1, this.2]
theorem oc_of {ds : List D} (h : ds.all oc = true) : ∃ os, Oc os ∧ ds = os.map D.int := by
  induction ds with
  | nil => exact ⟨[], fun _ z => by simp at z, rfl⟩
  | cons d ds ih =>
    rw [List.all_cons, Bool.and_eq_true] at h
    obtain ⟨os, h1, h2⟩ := ih h.2
    have h3 := h.1
    cases d with
    | int v =>
      simp [oc, bt] at h3
      exact ⟨v :: os, fun o ho => by
        rcases List.mem_cons.mp ho with rfl | ho
        · exact h3
        · exact h1 o ho, by rw [h2]; rfl⟩
    | _ => simp [oc, bt] at h3
theorem fb_oc {os : List Int} (h : Oc os) : fb (os.map D.int) = none := by
  cases q : fb (os.map D.int) with
  | none => rfl
  | some k =>
    have := (fb_some q).1
    rw [oc_all h] at this
    cases this
theorem tms_ints (os : List Int) : tms 1 (os.map D.int) = true := tms_iff.mpr fun d hd => by
  obtain ⟨o, _, rfl⟩ := List.mem_map.mp hd
  rfl
theorem check_oc {os : List Int} (h : Oc os) (hl : os.length ≤ 60000) (H : Hh) : m_check_octets [.tup (os.map D.int)] H = .ok .non H := by
  rw [check_tup (tms_ints os) (by simpa using hl), fb_oc h]
theorem num_loop {v : Option D} {h : Hh} : ∀ (os : List Int) (n : Int) (e2 : Option D), ∃ f2, forL (gtName 2) b_to_number_1 none (os.map D.int) [v, some (.int n), e2] h = .nx [v, some (.int (num os n)), f2] h
  | [], n, e2 => ⟨e2, forL_nil (gd := none) trivial⟩
  | o :: os, n, e2 => by
    have t : b_to_number_1 [v, some (.int n), some (.int o)] h = .nx [v, some (.int (n * 256 + o)), some (.int o)] h := by
      simp [b_to_number_1, mulOk_r (i := n) (j := 256) (by decide) (by decide)]
    obtain ⟨f2, ih⟩ := num_loop os (n * 256 + o) (some (.int o))
    refine ⟨f2, ?_⟩
    rw [List.map_cons, forL_nx (gd := none) (e1 := rfl) trivial t]
    exact ih
theorem to_number_spec {os : List Int} (h : Oc os) (hl : os.length ≤ 4096) (H : Hh) : m_to_number [.tup (os.map D.int)] H = .ok (.int (num os 0)) H := by
  have c := check_oc h (by omega) H
  obtain ⟨f2, e⟩ := num_loop (v := some (.tup (os.map D.int))) (h := H) os 0 none
  simp [m_to_number, b_to_number, c, e, trR_ok0]
theorem lnum_loop {v : Option D} {h : Hh} : ∀ (os : List Int) (n u : Int) (e3 : Option D), Oc os → ∃ f2 f3, forL (gtName 3) b__law_number_1 none (os.map D.int) [v, some (.int n), some (.int u), e3] h = .nx [v, some (.int (n + u * lval os)), f2, f3] h
  | [], n, u, e3, _ => ⟨some (.int u), e3, by rw [lval, Int.mul_zero, Int.add_zero]; exact forL_nil (gd := none) trivial⟩
  | o :: os, n, u, e3, ho => by
    have h1 := ho o (by simp)
    have t : b__law_number_1 [v, some (.int n), some (.int u), some (.int o)] h = .nx [v, some (.int (n + o * u)), some (.int (u * 256)), some (.int o)] h := by
      simp [b__law_number_1, mulOk_l (i := o) (j := u) (by omega) (by omega), mulOk_r (i := u) (j := 256) (by decide) (by decide)]
    obtain ⟨f2, f3, ih⟩ := lnum_loop os (n + o * u) (u * 256) (some (.int o)) (fun x hx => ho x (by simp [hx]))
    refine ⟨f2, f3, ?_⟩
    rw [List.map_cons, forL_nx (gd := none) (e1 := rfl) trivial t, ih]
    have e : n + u * lval (o :: os) = n + o * u + u * 256 * lval os := by
      rw [lval, Int.mul_add, Int.mul_comm u o, Int.add_assoc, Int.mul_assoc]
    rw [e]
theorem lnumber_spec {os : List Int} (h : Oc os) (hl : os.length ≤ 4096) (H : Hh) : m__law_number [.tup (os.map D.int)] H = .ok (.int (num os 0)) H := by
  obtain ⟨f2, f3, e⟩ := lnum_loop (v := some (.tup (os.map D.int))) (h := H) os.reverse 0 1 none (fun x hx => h x (by simpa using hx))
  have e2 := num_lval os 0
  rw [Int.zero_mul, Int.zero_add] at e2
  rw [Int.one_mul, Int.zero_add, ← e2, List.map_reverse] at e
  simp [m__law_number, b__law_number, e, trR_ok0]
theorem from_loop {sz : Option D} {h : Hh} : ∀ (k : Nat) (xs : List D) (n : Int) (acc : List D) (e3 : Option D), xs.length = k → (∀ x ∈ xs, ∃ i, x = D.int i) → acc.length + k ≤ 4096 → ∃ f0 f3, forL (gtName 3) b_from_number_1 none xs [some (.int n), sz, some (.ref h.length), e3] (h ++ [.lst acc]) = .nx [f0, sz, some (.ref h.length), f3] (h ++ [.lst (acc ++ (digits k n).map D.int)])
  | 0, [], n, acc, e3, _, _, _ => ⟨_, e3, by simp only [digits, List.map_nil, List.append_nil]; exact forL_nil (gd := none) trivial⟩
  | 0, _ :: _, _, _, _, z, _, _ => by simp at z
  | k + 1, [], _, _, _, z, _, _ => by simp at z
  | k + 1, x :: xs, n, acc, e3, z, hx, hl => by
    obtain ⟨i, rfl⟩ := hx x (by simp)
    have sl : acc.length < sizeLine := below4k _ (by omega)
    have t : b_from_number_1 [some (.int n), sz, some (.ref h.length), some (.int i)] (h ++ [.lst acc]) = .nx [some (.int (n / 256)), sz, some (.ref h.length), some (.int i)] (h ++ [.lst (acc ++ [.int (n % 256)])]) := by
      simp [b_from_number_1, sl]
    obtain ⟨f0, f3, ih⟩ := from_loop k xs (n / 256) (acc ++ [.int (n % 256)]) (some (.int i)) (by simpa using z) (fun y hy => hx y (by simp [hy])) (by simp; omega)
    refine ⟨f0, f3, ?_⟩
    rw [forL_nx (gd := none) (e1 := rfl) trivial t, ih]
    simp [digits]
theorem from_number_spec {os : List Int} (h : Oc os) (hl : os.length ≤ 1000) (H : Hh) : m_from_number [.int (num os 0), .int (os.length : Int)] H = .ok (.tup (os.map D.int)) H := by
  have hr : Sm.inR (os.length : Int) = true := inR_ok (by omega) (by omega)
  obtain ⟨f0, f3, e⟩ := from_loop (sz := some (.int (os.length : Int))) (h := H) os.length (rngD 0 os.length) (num os 0) [] none (by simp [rngD]) (fun x hx => by
    rw [rngD_range] at hx
    obtain ⟨j, _, rfl⟩ := List.mem_map.mp hx
    exact ⟨_, rfl⟩) (by simp; omega)
  have e2 : digits os.length (num os 0) = os.reverse := by
    rw [num_lval, Int.zero_mul, Int.zero_add]
    have := digits_lval os.reverse (fun x hx => h x (by simpa using hx))
    rwa [List.length_reverse] at this
  rw [e2, List.nil_append, List.map_reverse] at e
  refine fn_rtA (g := [.lst (os.map D.int)]) ?_ (by simp)
  have rv : opReverse (.ref H.length) [] (H ++ [.lst (os.map D.int).reverse]) = some (.non, H ++ [.lst (os.map D.int)]) := by
    simp [opReverse]
  simp [b_from_number, hr, e, rv]
/-! ### hexadecimal -/
def hxl : List Nat := ("0123456789abcdef" : Str).cps.toList
theorem hxl_len : hxl.length = 16 := by decide +kernel
theorem HX_len : ("0123456789abcdef" : Str).length = 16 := by decide +kernel
def hc (i : Int) : Nat := hxl.getD i.toNat 0
theorem hc_at {i : Int} (h0 : 0 ≤ i) (h1 : i < 16) : atI ("0123456789abcdef" : Str).cps.toList i = some (hc i) := by
  have hl := hxl_len
  rw [atI_pos h0]
  unfold hc
  rw [List.getD_eq_getElem?_getD]
  show hxl[i.toNat]? = _
  rw [List.getElem?_eq_getElem (by omega)]
  rfl
def hexL (os : List Int) : List Nat := (os.map fun o => [hc (o / 16), hc (o % 16)]).flatten
theorem hexL_len (os : List Int) : (hexL os).length = 2 * os.length := by
  induction os with
  | nil => rfl
  | cons o os ih =>
    show ([hc (o / 16), hc (o % 16)] ++ hexL os).length = _
    rw [List.length_append, ih]
    simp; omega
theorem empty_tx : ("" : Str) = tx [] := rfl
theorem to_hex_spec {os : List Int} (h : Oc os) (hl : os.length ≤ 1000) (H : Hh) : m_to_hex [.tup (os.map D.int)] H = .ok (lD (hexL os)) H := by
  have c := check_oc h (by omega) H
  have hz : ("0123456789abcdef" : Str).length ≤ sizeLine := line4k (by rw [HX_len]; omega)
  have lc := fz_lcM (i := 1) (m := (eB opAddF (eB opIx (eC (.str "0123456789abcdef")) (eB opFdiv (eV 1) (eC (.int 16)))) (eB opIx (eC (.str "0123456789abcdef")) (eB opMod (eV 1) (eC (.int 16)))))) (env := [some (.tup (os.map D.int)), none]) (h := H)
    D.int (fun o => D.str (tx [hc (o / 16), hc (o % 16)])) os (fun o ho acc => by
      have h1 := h o ho
      have a1 := hc_at (i := o / 16) (by omega) (by omega)
      have a2 := hc_at (i := o % 16) (by omega) (by omega)
      have s2 : 1 + 1 ≤ sizeLine := line4k (by omega)
      generalize ("0123456789abcdef" : Str) = z at hz a1 a2 ⊢
      simp [hz, a1, a2, s2]) (line4k (by omega)) (by rw [los_all]; simp)
  have jn := opJoin_f (x := tx []) (xs := os.map fun o => tx [hc (o / 16), hc (o % 16)]) (h := H) (by
    have := sumLen (xs := os.map fun o => tx [hc (o / 16), hc (o % 16)]) (B := 2) (fun y hy => by
      obtain ⟨o, _, rfl⟩ := List.mem_map.mp hy
      simp)
    simp at this ⊢
    omega)
  have jf := join_flat (os.map fun o => [hc (o / 16), hc (o % 16)])
  rw [List.map_map] at jn jf
  have e1 : ((fun l => tx l) ∘ fun o : Int => [hc (o / 16), hc (o % 16)]) = fun o => tx [hc (o / 16), hc (o % 16)] := rfl
  have e2 : (D.str ∘ fun o : Int => tx [hc (o / 16), hc (o % 16)]) = fun o => D.str (tx [hc (o / 16), hc (o % 16)]) := rfl
  rw [e2] at jn
  rw [e1] at jf
  rw [jf] at jn
  rw [← empty_tx] at jn
  refine fn_rt ?_
  unfold b_to_hex
  show sSeq _ _ [some (.tup (os.map D.int)), none] H = _
  rw [go_nx (e' := [some (.tup (os.map D.int)), none]) (h' := H) (by simp [c])]
  generalize (eB opAddF (eB opIx (eC (.str "0123456789abcdef")) (eB opFdiv (eV 1) (eC (.int 16)))) (eB opIx (eC (.str "0123456789abcdef")) (eB opMod (eV 1) (eC (.int 16))))) = F at lc ⊢
  generalize (os.map fun o => D.str (tx [hc (o / 16), hc (o % 16)])) = L at lc jn
  generalize ("" : Str) = z at jn ⊢
  simp [lc, jn]
  rfl
theorem lhex_loop {v : Option D} {h : Hh} : ∀ (os : List Int) (l : List Nat) (e3 : Option D), Oc os → l.length + 2 * os.length ≤ 4000 → ∃ f3, forL (gtName 3) b__law_hex_1 none (os.map D.int) [v, some (.str "0123456789abcdef"), some (lD l), e3] h = .nx [v, some (.str "0123456789abcdef"), some (lD (l ++ hexL os)), f3] h
  | [], l, e3, _, _ => ⟨e3, by rw [show hexL [] = [] from rfl, List.append_nil]; exact forL_nil (gd := none) trivial⟩
  | o :: os, l, e3, ho, hl => by
    have h1 := ho o (by simp)
    rw [List.length_cons] at hl
    have hz : ("0123456789abcdef" : Str).length ≤ sizeLine := line4k (by rw [HX_len]; omega)
    have a1 := hc_at (i := o / 16) (by omega) (by omega)
    have a2 := hc_at (i := o % 16) (by omega) (by omega)
    have s1 : l.length + 1 ≤ sizeLine := line4k (by omega)
    have s2 : l.length + 1 + 1 ≤ sizeLine := line4k (by omega)
    have t : b__law_hex_1 [v, some (.str "0123456789abcdef"), some (lD l), some (.int o)] h = .nx [v, some (.str "0123456789abcdef"), some (lD (l ++ [hc (o / 16), hc (o % 16)])), some (.int o)] h := by
      generalize ("0123456789abcdef" : Str) = z at hz a1 a2 ⊢
      simp [b__law_hex_1, hz, a1, a2, s1, s2]
    obtain ⟨f3, ih⟩ := lhex_loop os (l ++ [hc (o / 16), hc (o % 16)]) (some (.int o)) (fun x hx => ho x (by simp [hx])) (by simp; omega)
    refine ⟨f3, ?_⟩
    rw [List.map_cons, forL_nx (gd := none) (e1 := rfl) trivial t, ih]
    have e : l ++ [hc (o / 16), hc (o % 16)] ++ hexL os = l ++ hexL (o :: os) := by
      rw [List.append_assoc]
      rfl
    rw [e]
theorem lhex_spec {os : List Int} (h : Oc os) (hl : os.length ≤ 1000) (H : Hh) {v : D} (hv : v = .tup (os.map D.int) ∨ v = .fls (os.map D.int)) : m__law_hex [v] H = .ok (lD (hexL os)) H := by
  obtain ⟨f3, e⟩ := lhex_loop (v := some v) (h := H) os [] none h (by simp; omega)
  rw [List.nil_append] at e
  simp only [lD] at e
  rw [← empty_tx] at e
  rcases hv with rfl | rfl <;> simp [m__law_hex, b__law_hex, e, trR_ok0]
end Lk07
/-! the law law_k09_streams_cut_anywhere: mirrors and derivations, printed by gen.py -/
namespace Lk09
open PySem L2 PyProof.Rows Sm
def mth (st : Stmt) (i : Nat) : Stmt := (match st with
  | .ClassDef (body := b) .. => b
  | _ => []).getD i (.Pass ⟨0, 0, 0, 0⟩)
def mtab (c c2 : Nat) : Option Bool := if c < 3 ∧ c2 < 3 then some (decide (c2 = c)) else none
theorem mtab_one (c : Nat) : ∀ c2, mtab c c2 = some true → c2 = c := fun c2 h => by
  unfold mtab at h
  split at h
  · simpa using h
  · cases h
structure Tx (K : PySem.W.Frag) (mg : Str → Option Value) : Prop where
  z_abs : mg "abs" = none
  z_all : mg "all" = none
  z_bool : mg "bool" = none
  z_int : mg "int" = none
  z_isinstance : mg "isinstance" = none
  z_len : mg "len" = none
  z_list : mg "list" = none
  z_max : mg "max" = none
  z_range : mg "range" = none
  z_str : mg "str" = none
  z_tuple : mg "tuple" = none
  c_MOST_DEEDS : ∃ u, mg "MOST_DEEDS" = some (.int 200 u)
  c_MOST_OCTETS : ∃ u, mg "MOST_OCTETS" = some (.int 8000 u)
noncomputable def b_is_integer : S := (sRet (eAnd (eU (opIsi .int) (eV 0)) (eNot (eU (opIsi .bool) (eV 0)))))
noncomputable def m_is_integer : Fm := fnT 1 b_is_integer
noncomputable def b_is_between : S := (sRet (eAnd (eCall m_is_integer [(eV 0)]) (eAnd (eB opLeX (eV 1) (eV 0)) (eB opLeX (eV 0) (eV 2)))))
noncomputable def m_is_between : Fm := fnT 3 b_is_between
noncomputable def b_check_octets_1 : S := (sIf (tNotM (tTru (eCall m_is_between [(eB opIx (eV 0) (eV 1)), (eC (.int 0)), (eC (.int 255))]))) (sRaise 0 [(eV 1), (eC (.str "octet"))]) sSkip)
noncomputable def b_check_octets : S := (sSeq (sIf (tNotM (tTru (eU (opIsi .tuple) (eV 0)))) (sRaise 0 [(eC (.int 0)), (eC (.str "shape"))]) sSkip)
    (sFor (mRng1 (eN opLen [(eV 0)])) (gtName 1) b_check_octets_1))
noncomputable def m_check_octets : Fm := fnT 2 b_check_octets
noncomputable def b_from_number_1 : S := (sSeq (sExpr (eMt opAppend (eV 2) [(eB opMod (eV 0) (eC (.int 256)))]))
    (sSet 0 (eB opFdiv (eV 0) (eC (.int 256)))))
noncomputable def b_from_number : S := (sSeq (sSet 2 (eLst []))
    (sSeq (sFor (mRng1 (eV 1)) (gtName 3) b_from_number_1)
    (sSeq (sExpr (eMt opReverse (eV 2) []))
    (sRet (eN opTupleOf [(eV 2)])))))
noncomputable def m_from_number : Fm := fnT 4 b_from_number
noncomputable def b_pack_stream_1 : S := (sSeq (sExpr (eCall m_check_octets [(eV 2)]))
    (sSeq (sIf (tBl (eB opGtX (eN opLen [(eV 2)]) (eC (.int 8000)))) (sRaise 0 [(eC (.int 8000)), (eC (.str "long"))]) sSkip)
    (sSeq (sTr (sExpr (eMt opExtend (eV 1) [(eN opList [(eCall m_from_number [(eN opLen [(eV 2)]), (eC (.int 2))])])])))
    (sTr (sExpr (eMt opExtend (eV 1) [(eN opList [(eV 2)])]))))))
noncomputable def b_pack_stream : S := (sSeq (sIf (tNotM (tTru (eU (opIsi .tuple) (eV 0)))) (sRaise 0 [(eC (.int 0)), (eC (.str "shape"))]) sSkip)
    (sSeq (sSet 1 (eLst []))
    (sSeq (sFor (mSeqS (eV 0)) (gtName 2) b_pack_stream_1)
    (sRet (eN opTupleOf [(eV 1)])))))
noncomputable def m_pack_stream : Fm := fnT 3 b_pack_stream
noncomputable def b__law_draw : S := (sSeq (sIf (tAndM (tBl (eB opEq (eB opIx (eV 0) (eC (.int 2))) (eC (.int 0)))) (tBl (eB opLtX (eB opIx (eV 0) (eC (.int 1))) (eN opLen [(eB opIx (eV 0) (eC (.int 0)))])))) (sSeq (sSet 2 (eN opAbs [(eB opIx (eB opIx (eV 0) (eC (.int 0))) (eB opIx (eV 0) (eC (.int 1))))]))
    (sSeq (sSetIx (eV 0) (eC (.int 1)) (eB opAdd (eB opIx (eV 0) (eC (.int 1))) (eC (.int 1))))
    (sIf (tBl (eB opGeX (eV 2) (eB opPow (eC (.int 10)) (eC (.int 18))))) (sSetIx (eV 0) (eC (.int 2)) (eV 2)) (sSetIx (eV 0) (eC (.int 3)) (eB opMod (eN opInt [(eB opAdd (eB opAdd (eB opMulA (eB opIx (eV 0) (eC (.int 3))) (eC (.int 48271))) (eB opMulA (eV 2) (eC (.int 69621)))) (eC (.int 12345)))]) (eC (.int 2147483647))))))) sSkip)
    (sSeq (sIf (tBl (eB opGtX (eB opIx (eV 0) (eC (.int 2))) (eC (.int 0)))) (sSeq (sSet 3 (eB opMod (eN opInt [(eB opIx (eV 0) (eC (.int 2)))]) (eV 1)))
    (sSeq (sSetIx (eV 0) (eC (.int 2)) (eB opFdiv (eB opIx (eV 0) (eC (.int 2))) (eV 1)))
    (sRet (eV 3)))) sSkip)
    (sSeq (sSetIx (eV 0) (eC (.int 3)) (eB opMod (eN opInt [(eB opAdd (eB opMulA (eB opIx (eV 0) (eC (.int 3))) (eC (.int 48271))) (eC (.int 11)))]) (eC (.int 2147483647))))
    (sRet (eB opMod (eB opMod (eN opInt [(eB opAdd (eB opFdiv (eB opMulA (eB opIx (eV 0) (eC (.int 3))) (eB opIx (eV 0) (eC (.int 3)))) (eC (.int 65536))) (eB opIx (eV 0) (eC (.int 3))))]) (eC (.int 2147483629))) (eV 1))))))
noncomputable def m__law_draw : Fm := fnT 4 b__law_draw
noncomputable def b__law_pick : S := (sRet (eB opIx (eV 1) (eCall m__law_draw [(eV 0), (eN opLen [(eV 1)])])))
noncomputable def m__law_pick : Fm := fnT 2 b__law_pick
noncomputable def b__law_same (self_ : Fm) : S := (sSeq (sIf (tTru (eU (opIsi .tuple) (eV 1))) (sSeq (sIf (tOrM (tNotM (tTru (eU (opIsi .tuple) (eV 0)))) (tBl (eB opNe (eN opLen [(eV 0)]) (eN opLen [(eV 1)])))) (sRet (eC (.bl false))) sSkip)
    (sRet (eN opAll [(eFz (eLc (mRng1 (eN opLen [(eV 1)])) (gtName 2) tYesM (eCall self_ [(eB opIx (eV 0) (eV 2)), (eB opIx (eV 1) (eV 2))]) [2]))]))) sSkip)
    (sSeq (sIf (tBl (eU opIsN (eV 1))) (sRet (eU opIsN (eV 0))) sSkip)
    (sSeq (sIf (tOrM (tTru (eU (opIsi .bool) (eV 1))) (tTru (eU (opIsi .bool) (eV 0)))) (sRet (eAnd (eU (opIsi .bool) (eV 1)) (eAnd (eU (opIsi .bool) (eV 0)) (eB opEq (eV 0) (eV 1))))) sSkip)
    (sSeq (sIf (tTru (eU (opIsi .int) (eV 1))) (sRet (eAnd (eU (opIsi .int) (eV 0)) (eB opEq (eV 0) (eV 1)))) sSkip)
    (sRet (eAnd (eU (opIsi .str) (eV 1)) (eAnd (eU (opIsi .str) (eV 0)) (eB opEq (eV 0) (eV 1)))))))))
noncomputable def m__law_same : Nat → Fm
  | 0 => fun _ _ => .bad
  | n + 1 => fnT 3 (b__law_same (m__law_same n))
noncomputable def b__law_joined_1 : S := (sTr (sExpr (eMt opExtend (eV 1) [(eN opList [(eV 2)])])))
noncomputable def b__law_joined : S := (sSeq (sSet 1 (eLst []))
    (sSeq (sFor (mSeqS (eV 0)) (gtName 2) b__law_joined_1)
    (sRet (eFz (eV 1)))))
noncomputable def m__law_joined : Fm := fnT 3 b__law_joined
noncomputable def b__law_octet_row : S := (sSeq (sSet 2 (eCall m__law_draw [(eV 0), (eC (.int 256))]))
    (sSeq (sSet 3 (eCall m__law_draw [(eV 0), (eC (.int 256))]))
    (sRet (eN opTupleOf [(eFz (eLc (mRng1 (eV 1)) (gtName 4) tYesM (eB opMod (eN opInt [(eB opAdd (eV 2) (eB opMulA (eV 3) (eV 4)))]) (eC (.int 256))) [4]))]))))
noncomputable def m__law_octet_row : Fm := fnT 5 b__law_octet_row
noncomputable def b__law_rows_1 : S := (sSeq (sSet 3 (eCall m__law_draw [(eV 0), (eC (.int 5))]))
    (sSeq (sIf (tBl (eB opEq (eCall m__law_draw [(eV 0), (eC (.int 12))]) (eC (.int 11)))) (sSet 3 (eB opAdd (eC (.int 254)) (eCall m__law_draw [(eV 0), (eC (.int 4))]))) sSkip)
    (sExpr (eMt opAppend (eV 1) [(eCall m__law_octet_row [(eV 0), (eV 3)])]))))
noncomputable def b__law_rows : S := (sSeq (sSet 1 (eLst []))
    (sSeq (sFor (mRng1 (eCall m__law_draw [(eV 0), (eC (.int 6))])) (gtName 2) b__law_rows_1)
    (sSeq (sIf (tBl (eB opEq (eCall m__law_draw [(eV 0), (eC (.int 24))]) (eC (.int 23)))) (sExpr (eMt opAppend (eV 1) [(eCall m__law_octet_row [(eV 0), (eB opAdd (eC (.int 7999)) (eCall m__law_draw [(eV 0), (eC (.int 2))]))])])) sSkip)
    (sRet (eFz (eV 1))))))
noncomputable def m__law_rows : Fm := fnT 4 b__law_rows
noncomputable def b__law_octet_fault_1 : S := (sSeq (sSet 2 (eB opIx (eV 0) (eV 1)))
    (sIf (tOrM (tTru (eU (opIsi .bool) (eV 2))) (tOrM (tNotM (tTru (eU (opIsi .int) (eV 2)))) (tOrM (tBl (eB opLtX (eV 2) (eC (.int 0)))) (tBl (eB opGtX (eV 2) (eC (.int 255))))))) (sRet (eTup [(eV 1), (eC (.str "octet"))])) sSkip))
noncomputable def b__law_octet_fault : S := (sSeq (sIf (tNotM (tTru (eU (opIsi .tuple) (eV 0)))) (sRet (eTup [(eC (.int 0)), (eC (.str "shape"))])) sSkip)
    (sSeq (sFor (mRng1 (eN opLen [(eV 0)])) (gtName 1) b__law_octet_fault_1)
    (sRet (eC .non))))
noncomputable def m__law_octet_fault : Fm := fnT 3 b__law_octet_fault
noncomputable def b__law_wrong_row : S := (sSeq (sSet 2 (eCall m__law_draw [(eV 0), (eC (.int 6))]))
    (sSeq (sSet 3 (eCall m__law_octet_row [(eV 0), (eCall m__law_draw [(eV 0), (eC (.int 4))])]))
    (sSeq (sIf (tBl (eB opEq (eV 2) (eC (.int 0)))) (sRet (eCall m__law_pick [(eV 0), (eLstF [(eN opListF [(eV 3)]), (eC .non), (eC (.str "")), (eC (.int 0))])])) sSkip)
    (sSeq (sIf (tAndM (tTru (eV 1)) (tAndM (tBl (eB opEq (eV 2) (eC (.int 1)))) (tBl (eB opEq (eCall m__law_draw [(eV 0), (eC (.int 4))]) (eC (.int 3)))))) (sRet (eCall m__law_octet_row [(eV 0), (eC (.int 8001))])) sSkip)
    (sSeq (sSet 4 (eCall m__law_pick [(eV 0), (eLstF [(eC (.int 256)), (eU opNeg (eC (.int 1))), (eC (.bl true)), (eC (.bl false)), (eC (.str "1")), (eC .non), (eTup [(eC (.int 1))])])]))
    (sSeq (sSet 5 (eCall m__law_draw [(eV 0), (eB opAdd (eN opLen [(eV 3)]) (eC (.int 1)))]))
    (sRet (eB opAdd (eB opAdd (eSlF (eV 3) none (some (eV 5))) (eTup [(eV 4)])) (eSlF (eV 3) (some (eV 5)) none)))))))))
noncomputable def m__law_wrong_row : Fm := fnT 6 b__law_wrong_row
noncomputable def b__law_is_packed_1 : S := (sExpr (eMt opInsert (eV 2) [(eCall m__law_draw [(eV 0), (eB opAdd (eN opLen [(eV 2)]) (eC (.int 1)))]), (eCall m__law_wrong_row [(eV 0), (eC (.bl true))])]))
noncomputable def b__law_is_packed_2 : S := (sSeq (sSet 8 (eCall m__law_octet_fault [(eV 5)]))
    (sSeq (sIf (tAndM (tBl (eU opIsN (eV 8))) (tBl (eB opGtX (eN opLen [(eV 5)]) (eC (.int 8000))))) (sSet 8 (eTup [(eC (.int 8000)), (eC (.str "long"))])) sSkip)
    (sIf (tBl (eU opIsN (eV 4))) (sSet 4 (eV 8)) sSkip)))
noncomputable def b__law_is_packed : S := (sSeq (sSet 2 (eN opList [(eV 1)]))
    (sSeq (sFor (mRng1 (eB opAdd (eC (.int 1)) (eCall m__law_draw [(eV 0), (eC (.int 2))]))) (gtName 3) b__law_is_packed_1)
    (sSeq (sSet 4 (eC .non))
    (sSeq (sFor (mSeqS (eV 2)) (gtName 5) b__law_is_packed_2)
    (sSeq (sSet 6 (eCall m__law_draw [(eV 0), (eC (.int 6))]))
    (sSeq (sTryL (sIf (tBl (eB opEq (eV 6) (eC (.int 5)))) (sSeq (sSet 4 (eTup [(eC (.int 0)), (eC (.str "shape"))]))
    (sExpr (eCall m_pack_stream [(eCall m__law_pick [(eV 0), (eLstF [(eN opListF [(eV 1)]), (eC .non)])])]))) (sExpr (eCall m_pack_stream [(eN opTupleOf [(eV 2)])]))) [⟨(mtab 0), some 7, fun c_ fs => (fun fs => sRet ((fun fs => eCall (m__law_same 12) (List.map (fun m => m fs) [(eTupX [(eFd 0), (eFd 1)]), (fun _ => (eV 4))])) fs)) fs⟩])
    (sRet (eC (.bl false)))))))))
noncomputable def m__law_is_packed : Fm := fnT 9 b__law_is_packed
noncomputable def b__law_parsed_1 : S := (sSeq (sIf (tBl (eB opGtX (eB opAdd (eV 2) (eC (.int 2))) (eN opLen [(eV 0)]))) sBk sSkip)
    (sSeq (sSet 4 (eB opAdd (eB opMulA (eB opIx (eV 0) (eV 2)) (eC (.int 256))) (eB opIx (eV 0) (eB opAdd (eV 2) (eC (.int 1))))))
    (sSeq (sIf (tBl (eB opGtX (eV 4) (eC (.int 8000)))) (sRet (eLstF [(eFz (eV 1)), (eV 2), (eB opAdd (eV 2) (eC (.int 1)))])) sSkip)
    (sSeq (sIf (tBl (eB opGtX (eB opAdd (eB opAdd (eV 2) (eC (.int 2))) (eV 4)) (eN opLen [(eV 0)]))) sBk sSkip)
    (sSeq (sExpr (eMt opAppend (eV 1) [(eN opTupleOf [(eSlF (eV 0) (some (eB opAdd (eV 2) (eC (.int 2)))) (some (eB opAdd (eB opAdd (eV 2) (eC (.int 2))) (eV 4))))])]))
    (sSet 2 (eB opAdd (eB opAdd (eV 2) (eC (.int 2))) (eV 4))))))))
noncomputable def b__law_parsed : S := (sSeq (sSet 1 (eLst []))
    (sSeq (sSet 2 (eC (.int 0)))
    (sSeq (sFor (mRng1 (eN opLen [(eV 0)])) (gtName 3) b__law_parsed_1)
    (sRet (eLstF [(eFz (eV 1)), (eV 2), (eU opNeg (eC (.int 1)))])))))
noncomputable def m__law_parsed : Fm := fnT 5 b__law_parsed
noncomputable def b__law_piece : S := (sSeq (sSet 3 (eCall m__law_joined [(eV 1)]))
    (sSeq (sSet 4 (eSlF (eV 2) (some (eN opLen [(eV 3)])) none))
    (sSeq (sSet 5 (eCall m__law_draw [(eV 0), (eC (.int 8))]))
    (sSeq (sIf (tBl (eB opEq (eV 5) (eC (.int 0)))) (sRet (eCall m__law_wrong_row [(eV 0), (eC (.bl false))])) sSkip)
    (sSeq (sIf (tBl (eB opEq (eV 5) (eC (.int 1)))) (sSeq (sSet 6 (eB opSub (eB opIx (eCall m__law_parsed [(eB opAddF (eV 3) (eV 4))]) (eC (.int 1))) (eN opLen [(eV 3)])))
    (sRet (eB opAdd (eN opTupleOf [(eSlF (eV 4) none (some (eN opMax [(eC (.int 0)), (eV 6)])))]) (eTup [(eC (.int 31)), (eB opAdd (eC (.int 64)) (eCall m__law_draw [(eV 0), (eC (.int 3))]))])))) sSkip)
    (sSeq (sIf (tBl (eB opEq (eV 5) (eC (.int 2)))) (sRet (eN opTupleOf [(eSlF (eV 4) none (some (eC (.int 1))))])) sSkip)
    (sRet (eN opTupleOf [(eSlF (eV 4) none (some (eCall m__law_draw [(eV 0), (eB opAdd (eN opLen [(eV 4)]) (eC (.int 1)))])))]))))))))
noncomputable def m__law_piece : Fm := fnT 7 b__law_piece
noncomputable def b__law_due : S := (sSeq (sSet 2 (eCall m__law_octet_fault [(eV 1)]))
    (sSeq (sIf (tBl (eU opNotN (eV 2))) (sRet (eLstF [(eC (.str "octets")), (eV 2)])) sSkip)
    (sSeq (sSet 3 (eCall m__law_joined [(eV 0)]))
    (sSeq (sSet 4 (eCall m__law_parsed [(eB opAddF (eV 3) (eN opListF [(eV 1)]))]))
    (sSeq (sIf (tBl (eB opGeX (eB opIx (eV 4) (eC (.int 2))) (eC (.int 0)))) (sRet (eLstF [(eC (.str "octets")), (eTup [(eB opSub (eB opIx (eV 4) (eC (.int 2))) (eN opLen [(eV 3)])), (eC (.str "long"))])])) sSkip)
    (sSeq (sIf (tBl (eB opEq (eN opLen [(eV 0)]) (eC (.int 200)))) (sRet (eLstF [(eC (.str "many")), (eTup [(eC (.str "feeds")), (eC (.int 201))])])) sSkip)
    (sRet (eLstF [(eC (.str "rows")), (eN opTupleOf [(eSlF (eB opIx (eV 4) (eC (.int 0))) (some (eN opLen [(eB opIx (eCall m__law_parsed [(eV 3)]) (eC (.int 0)))])) none)])]))))))))
noncomputable def m__law_due : Fm := fnT 5 b__law_due
noncomputable def b_StreamReader_feed_1 : S := (sSeq (sSet 6 (eB opAdd (eB opMulA (eB opIx (eV 3) (eV 5)) (eC (.int 256))) (eB opIx (eV 3) (eB opAdd (eV 5) (eC (.int 1))))))
    (sSeq (sIf (tBl (eB opGtX (eV 6) (eC (.int 8000)))) (sRaise 0 [(eB opSub (eB opAdd (eV 5) (eC (.int 1))) (eV 2)), (eC (.str "long"))]) sSkip)
    (sSeq (sIf (tBl (eB opGtX (eB opAdd (eB opAdd (eV 5) (eC (.int 2))) (eV 6)) (eN opLen [(eV 3)]))) sBk sSkip)
    (sSeq (sExpr (eMt opAppend (eV 4) [(eSlF (eV 3) (some (eB opAdd (eV 5) (eC (.int 2)))) (some (eB opAdd (eB opAdd (eV 5) (eC (.int 2))) (eV 6))))]))
    (sAug opIAddI 5 (eB opAdd (eC (.int 2)) (eV 6)))))))
noncomputable def b_StreamReader_feed : S := (sSeq (sExpr (eCall m_check_octets [(eV 1)]))
    (sSeq (sSet 2 (eN opLen [(eB opIx (eU (opFld 3 1) (eV 0)) (eU opNeg (eC (.int 1))))]))
    (sSeq (sSet 3 (eB opAddF (eB opIx (eU (opFld 3 1) (eV 0)) (eU opNeg (eC (.int 1)))) (eV 1)))
    (sSeq (sSet 4 (eLst []))
    (sSeq (sSet 5 (eC (.int 0)))
    (sSeq (sWhile 100000 (tBl (eB opLeX (eB opAdd (eV 5) (eC (.int 2))) (eN opLen [(eV 3)]))) b_StreamReader_feed_1)
    (sSeq (sIf (tBl (eB opEq (eN opLen [(eU (opFld 3 0) (eV 0))]) (eC (.int 200)))) (sRaise 1 [(eC (.str "feeds")), (eB opAdd (eC (.int 200)) (eC (.int 1)))]) sSkip)
    (sSeq (sExpr (eMt opAppend (eU (opFld 3 0) (eV 0)) [(eV 1)]))
    (sSeq (sExpr (eMt opAppend (eU (opFld 3 1) (eV 0)) [(eSlF (eV 3) (some (eV 5)) none)]))
    (sRet (eN opTupleOf [(eV 4)])))))))))))
noncomputable def m_StreamReader_feed : Fm := fnT 7 b_StreamReader_feed
noncomputable def b__law_is_fed : S := (sSeq (sSet 3 (eCall m__law_due [(eV 1), (eV 2)]))
    (sSeq (sTryL (sSet 6 (eMethX 3 m_StreamReader_feed (eV 0) [(eV 2)])) [⟨(mtab 0), some 4, fun c_ fs => (fun fs => sRet ((fun fs => eAnd ((fun _ => (eB opEq (eB opIx (eV 3) (eC (.int 0))) (eC (.str "octets")))) fs) ((fun fs => eCall (m__law_same 12) (List.map (fun m => m fs) [(eTupX [(eFd 0), (eFd 1)]), (fun _ => (eB opIx (eV 3) (eC (.int 1))))])) fs)) fs)) fs⟩, ⟨(mtab 1), some 5, fun c_ fs => (fun fs => sRet ((fun fs => eAnd ((fun _ => (eB opEq (eB opIx (eV 3) (eC (.int 0))) (eC (.str "many")))) fs) ((fun fs => eCall (m__law_same 12) (List.map (fun m => m fs) [(eTupX [(eFd 0), (eFd 1)]), (fun _ => (eB opIx (eV 3) (eC (.int 1))))])) fs)) fs)) fs⟩])
    (sSeq (sExpr (eMt opAppend (eV 1) [(eV 2)]))
    (sRet (eAnd (eB opEq (eB opIx (eV 3) (eC (.int 0))) (eC (.str "rows"))) (eCall (m__law_same 12) [(eV 6), (eB opIx (eV 3) (eC (.int 1)))]))))))
noncomputable def m__law_is_fed : Fm := fnT 7 b__law_is_fed
noncomputable def b_StreamReader_undo : S := (sSeq (sIf (tBl (eB opEq (eU (opFld 3 0) (eV 0)) (eLstF []))) (sRaise 2 [(eC (.str "undo"))]) sSkip)
    (sSeq (sExpr (eMt opPop (eU (opFld 3 0) (eV 0)) []))
    (sExpr (eMt opPop (eU (opFld 3 1) (eV 0)) []))))
noncomputable def m_StreamReader_undo : Fm := fnT 1 b_StreamReader_undo
noncomputable def b__law_is_undone : S := (sSeq (sTryL (sSet 3 (eMethX 3 m_StreamReader_undo (eV 0) [])) [⟨(mtab 2), some 2, fun c_ fs => (fun fs => sRet ((fun fs => eAnd ((fun _ => (eB opEq (eV 1) (eLstF []))) fs) ((fun fs => eCall (m__law_same 12) (List.map (fun m => m fs) [(eFd 0), (fun _ => (eC (.str "undo")))])) fs)) fs)) fs⟩])
    (sSeq (sIf (tOrM (tBl (eB opEq (eV 1) (eLstF []))) (tBl (eU opNotN (eV 3)))) (sRet (eC (.bl false))) sSkip)
    (sSeq (sExpr (eMt opPop (eV 1) []))
    (sRet (eC (.bl true))))))
noncomputable def m__law_is_undone : Fm := fnT 4 b__law_is_undone
noncomputable def b_StreamReader___init__ : S := (sSeq (sFld 3 0 (eV 0) (eLst []))
    (sFld 3 1 (eV 0) (eLst [(eTup [])])))
noncomputable def m_StreamReader___init__ : Fm := fnT 1 b_StreamReader___init__
noncomputable def b_StreamReader_waiting : S := (sRet (eN opLen [(eB opIx (eU (opFld 3 1) (eV 0)) (eU opNeg (eC (.int 1))))]))
noncomputable def m_StreamReader_waiting : Fm := fnT 1 b_StreamReader_waiting
noncomputable def b_StreamReader_log : S := (sRet (eN opTupleOf [(eU (opFld 3 0) (eV 0))]))
noncomputable def m_StreamReader_log : Fm := fnT 1 b_StreamReader_log
noncomputable def b_law_1 : S := (sTr (sExpr (eMt opExtend (eV 3) [(eB opAdd (eLstF [(eB opFdiv (eN opLen [(eV 4)]) (eC (.int 256))), (eB opMod (eN opLen [(eV 4)]) (eC (.int 256)))]) (eN opListF [(eV 4)]))])))
noncomputable def b_law_2 : S := (sSeq (sExpr (eMt opAppend (eV 7) [(eTup [])]))
    (sIf (tNotM (tTru (eCall (m__law_same 12) [(eMethX 3 m_StreamReader_feed (eV 6) [(eTup [])]), (eTup [])]))) (sRet (eC (.bl false))) sSkip))
noncomputable def b_law_3 : S := (sSeq (sIf (tBl (eB opEq (eCall m__law_draw [(eV 1), (eC (.int 5))]) (eC (.int 4)))) (sSet 11 (eCall m__law_is_undone [(eV 6), (eV 7)])) (sSet 11 (eCall m__law_is_fed [(eV 6), (eV 7), (eCall m__law_piece [(eV 1), (eV 7), (eV 3)])])))
    (sSeq (sSet 10 (eCall m__law_joined [(eV 7)]))
    (sSeq (sIf (tOrM (tNotM (tTru (eV 11))) (tNotM (tTru (eCall (m__law_same 12) [(eMethX 3 m_StreamReader_waiting (eV 6) []), (eB opSub (eN opLen [(eV 10)]) (eB opIx (eCall m__law_parsed [(eV 10)]) (eC (.int 1))))])))) (sRet (eC (.bl false))) sSkip)
    (sIf (tNotM (tTru (eCall (m__law_same 12) [(eMethX 3 m_StreamReader_log (eV 6) []), (eN opTupleOf [(eV 7)])]))) (sRet (eC (.bl false))) sSkip))))
noncomputable def b_law : S := (sSeq (sSet 1 (eLst [(eV 0), (eC (.int 0)), (eC (.int 0)), (eC (.int 1))]))
    (sSeq (sSet 2 (eCall m__law_rows [(eV 1)]))
    (sSeq (sSet 3 (eLst []))
    (sSeq (sFor (mSeqS (eV 2)) (gtName 4) b_law_1)
    (sSeq (sIf (tOrM (tNotM (tTru (eCall (m__law_same 12) [(eCall m_pack_stream [(eN opTupleOf [(eV 2)])]), (eN opTupleOf [(eV 3)])]))) (tNotM (tTru (eCall m__law_is_packed [(eV 1), (eV 2)])))) (sRet (eC (.bl false))) sSkip)
    (sSeq (sSet 5 (eMakeX 3 2 m_StreamReader___init__ []))
    (sSeq (sIf (tNotM (tTru (eCall (m__law_same 12) [(eMethX 3 m_StreamReader_feed (eV 5) [(eTup [(eC (.int 0)), (eC (.int 0)), (eC (.int 0))])]), (eTup [(eTup [])])]))) (sRet (eC (.bl false))) sSkip)
    (sSeq (sSet 6 (eMakeX 3 2 m_StreamReader___init__ []))
    (sSeq (sSet 7 (eLst []))
    (sSeq (sIf (tBl (eB opEq (eCall m__law_draw [(eV 1), (eC (.int 8))]) (eC (.int 7)))) (sFor (mRng1 (eB opAdd (eC (.int 190)) (eCall m__law_draw [(eV 1), (eC (.int 11))]))) (gtName 9) b_law_2) sSkip)
    (sSeq (sFor (mRng1 (eC (.int 12))) (gtName 8) b_law_3)
    (sRet (eAnd (eCall (m__law_same 12) [(eMethX 3 m_StreamReader_waiting (eV 5) []), (eC (.int 1))]) (eCall (m__law_same 12) [(eMethX 3 m_StreamReader_log (eV 5) []), (eTup [(eTup [(eC (.int 0)), (eC (.int 0)), (eC (.int 0))])])]))))))))))))))
noncomputable def m_law : Fm := fnT 12 b_law
end Lk09
namespace Lk09
open PySem L2 PyProof.Rows Sm
def top (i : Nat) : Stmt := PySem.Challenge.pw_surely_k09_streams_cut_anywhere.main.body.getD i (.Pass ⟨0, 0, 0, 0⟩)
abbrev s_is_integer : Stmt := top 8
abbrev s_is_between : Stmt := top 9
abbrev s_check_octets : Stmt := top 11
abbrev s_from_number : Stmt := top 12
abbrev s_pack_stream : Stmt := top 14
abbrev s__law_draw : Stmt := top 17
abbrev s__law_pick : Stmt := top 18
abbrev s__law_same : Stmt := top 19
abbrev s__law_joined : Stmt := top 20
abbrev s__law_octet_row : Stmt := top 21
abbrev s__law_rows : Stmt := top 22
abbrev s__law_octet_fault : Stmt := top 23
abbrev s__law_wrong_row : Stmt := top 24
abbrev s__law_is_packed : Stmt := top 25
abbrev s__law_parsed : Stmt := top 26
abbrev s__law_piece : Stmt := top 27
abbrev s__law_due : Stmt := top 28
abbrev s_StreamReader_feed : Stmt := mth (top 15) 1
abbrev s__law_is_fed : Stmt := top 29
abbrev s_StreamReader_undo : Stmt := mth (top 15) 3
abbrev s__law_is_undone : Stmt := top 30
abbrev s_StreamReader___init__ : Stmt := mth (top 15) 0
abbrev s_StreamReader_waiting : Stmt := mth (top 15) 2
abbrev s_StreamReader_log : Stmt := mth (top 15) 4
abbrev s_law : Stmt := top 31
section
variable {P : Program} {w : World} {K : PySem.W.Frag} {mg : Str → Option Value} {base : Heap} {G : Cl}
structure Errs (P : Program) (w : World) (K : PySem.W.Frag) (mg : Str → Option Value) (base : Heap) (G : Cl) : Prop where
  m_BadOctets : mg "BadOctets" = some (.ref (G.at_ 0))
  E_BadOctets : ErrOk P w K mg base G 1 "BadOctets" 0
  N_BadOctets : G.nm 0 = (["place", "why"] : List Str)
  X_BadOctets : XfC K (G.at_ 0)
  F_BadOctets_place : PySem.W.findIn K (.ref (G.at_ 0)) "place" = some none
  F_BadOctets_why : PySem.W.findIn K (.ref (G.at_ 0)) "why" = some none
  m_TooMany : mg "TooMany" = some (.ref (G.at_ 1))
  E_TooMany : ErrOk P w K mg base G 1 "TooMany" 1
  N_TooMany : G.nm 1 = (["what", "count"] : List Str)
  X_TooMany : XfC K (G.at_ 1)
  F_TooMany_what : PySem.W.findIn K (.ref (G.at_ 1)) "what" = some none
  F_TooMany_count : PySem.W.findIn K (.ref (G.at_ 1)) "count" = some none
  m_BadDeed : mg "BadDeed" = some (.ref (G.at_ 2))
  E_BadDeed : ErrOk P w K mg base G 1 "BadDeed" 2
  N_BadDeed : G.nm 2 = (["why"] : List Str)
  X_BadDeed : XfC K (G.at_ 2)
  F_BadDeed_why : PySem.W.findIn K (.ref (G.at_ 2)) "why" = some none
  T_StreamReader : ClOk K G 3
  N_StreamReader : G.nm 3 = (["_pieces", "_held"] : List Str)
  M : ∀ c c2 b, mtab c c2 = some b → PySem.W.exmOne K (.ref (G.at_ c2)) (.ref (G.at_ c)) = some b
theorem sc_is_integer : FnScope ["value"] ["value"] (defScope s_is_integer) := ⟨rfl, rfl, rfl, by decide +kernel, rfl, by decide +kernel, by decide +kernel⟩
theorem d_is_integer {f : Addr} {fd : FuncData} (F : Fun K "is_integer" "is_integer" s_is_integer f fd) (T : Tx K mg) (Z : Errs P w K mg base G)  : FnOk P w K mg base (L2N.CX P w) 1 f fd ["value"] (spM K G 1 m_is_integer) :=
  fn_okT (N := ["value"]) (ps := ["value"]) (k := 0) (n := 1) (np := 1) (body := b_is_integer) rfl rfl F sc_is_integer fun cdv A outer s H E c => by
    exact (ss_one (s_ret (se_and (se_isi .int (se_var 0) (se_ty (by rfl) T.z_int bt_int) (by rfl) T.z_isinstance) (se_one (se_not (se_isi .bool (se_var 0) (se_ty (by rfl) T.z_bool bt_bool) (by rfl) T.z_isinstance))))))
theorem sc_is_between : FnScope ["value", "low", "high"] ["value", "low", "high"] (defScope s_is_between) := ⟨rfl, rfl, rfl, by decide +kernel, rfl, by decide +kernel, by decide +kernel⟩
theorem d_is_between {f : Addr} {fd : FuncData} (F : Fun K "is_between" "is_between" s_is_between f fd) (T : Tx K mg) (Z : Errs P w K mg base G) (O_is_integer : Ok P w K mg base G 1 "is_integer" ["value"] m_is_integer) : FnOk P w K mg base (L2N.CX P w) 2 f fd ["value", "low", "high"] (spM K G 3 m_is_between) :=
  fn_okT (N := ["value", "low", "high"]) (ps := ["value", "low", "high"]) (k := 1) (n := 3) (np := 3) (body := b_is_between) rfl rfl F sc_is_between fun cdv A outer s H E c => by
    exact (ss_one (s_ret (se_and (se_call c O_is_integer (by decide) (by rfl) (sa_cons (se_var 0) sa_nil)) (se_and (se_leX c.hu (se_var 1) (se_var 0)) (se_one (se_leX c.hu (se_var 0) (se_var 2)))))))
theorem sc_check_octets : FnScope ["value", "k"] ["value"] (defScope s_check_octets) := ⟨rfl, rfl, rfl, by decide +kernel, rfl, by decide +kernel, by decide +kernel⟩
theorem d_check_octets {f : Addr} {fd : FuncData} (F : Fun K "check_octets" "check_octets" s_check_octets f fd) (T : Tx K mg) (Z : Errs P w K mg base G) (O_is_between : Ok P w K mg base G 2 "is_between" ["value", "low", "high"] m_is_between) : FnOk P w K mg base (L2N.CX P w) 3 f fd ["value"] (spM K G 1 m_check_octets) :=
  fn_okT (N := ["value", "k"]) (ps := ["value"]) (k := 2) (n := 2) (np := 1) (body := b_check_octets) rfl rfl F sc_check_octets fun cdv A outer s H E c => by
    exact (ss_cons (s_if (st_not (st_truth (se_isi .tuple (se_var 0) (se_ty (by rfl) T.z_tuple bt_tuple) (by rfl) T.z_isinstance))) (ss_one (s_raise (c := 0) c Z.E_BadOctets (by decide) (by rfl) (sa_cons se_int (sa_cons se_str sa_nil)) (by rw [Z.N_BadOctets]; rfl))) ss_nil)
    (ss_one (s_for c.po c.hc (pi_range1 (by rfl) T.z_range (sa_cons (se_callB call_lenAll im_len (by rfl) T.z_len bt_len (sa_cons (se_var 0) sa_nil)) sa_nil)) io_rng1 (pg_name (i := 1) c.nd rfl (by first | exact Or.inl rfl | exact Or.inr rfl)) tg_name (ss_one (s_if (st_not (st_truth (se_call c O_is_between (by decide) (by rfl) (sa_cons (se_ix (se_var 0) (se_var 1)) (sa_cons se_int (sa_cons se_int sa_nil)))))) (ss_one (s_raise (c := 0) c Z.E_BadOctets (by decide) (by rfl) (sa_cons (se_var 1) (sa_cons se_str sa_nil)) (by rw [Z.N_BadOctets]; rfl))) ss_nil)))))
theorem sc_from_number : FnScope ["number", "size", "octets", "_"] ["number", "size"] (defScope s_from_number) := ⟨rfl, rfl, rfl, by decide +kernel, rfl, by decide +kernel, by decide +kernel⟩
theorem d_from_number {f : Addr} {fd : FuncData} (F : Fun K "from_number" "from_number" s_from_number f fd) (T : Tx K mg) (Z : Errs P w K mg base G)  : FnOk P w K mg base (L2N.CX P w) 1 f fd ["number", "size"] (spM K G 2 m_from_number) :=
  fn_okT (N := ["number", "size", "octets", "_"]) (ps := ["number", "size"]) (k := 0) (n := 4) (np := 2) (body := b_from_number) rfl rfl F sc_from_number fun cdv A outer s H E c => by
    exact (ss_cons (s_set 2 c.nd (se_lst sa_nil))
    (ss_cons (s_for c.po c.hc (pi_range1 (by rfl) T.z_range (sa_cons (se_var 1) sa_nil)) io_rng1 (pg_name (i := 3) c.nd rfl (by first | exact Or.inl rfl | exact Or.inr rfl)) tg_name (ss_cons (s_expr (se_append (se_var 2) (sa_cons (se_mod (se_var 0) se_int) sa_nil)))
    (ss_one (s_set 0 c.nd (se_fdiv (se_var 0) se_int)))))
    (ss_cons (s_expr (se_reverse (se_var 2)))
    (ss_one (s_ret (se_callTy call_tuple_of im_tuple (by rfl) T.z_tuple bt_tuple (sa_cons (se_var 2) sa_nil)))))))
theorem sc_pack_stream : FnScope ["rows", "stream", "row"] ["rows"] (defScope s_pack_stream) := ⟨rfl, rfl, rfl, by decide +kernel, rfl, by decide +kernel, by decide +kernel⟩
theorem d_pack_stream {f : Addr} {fd : FuncData} (F : Fun K "pack_stream" "pack_stream" s_pack_stream f fd) (T : Tx K mg) (Z : Errs P w K mg base G) (O_check_octets : Ok P w K mg base G 3 "check_octets" ["value"] m_check_octets) (O_from_number : Ok P w K mg base G 1 "from_number" ["number", "size"] m_from_number) : FnOk P w K mg base (L2N.CX P w) 4 f fd ["rows"] (spM K G 1 m_pack_stream) :=
  fn_okT (N := ["rows", "stream", "row"]) (ps := ["rows"]) (k := 3) (n := 3) (np := 1) (body := b_pack_stream) rfl rfl F sc_pack_stream fun cdv A outer s H E c => by
    exact (ss_cons (s_if (st_not (st_truth (se_isi .tuple (se_var 0) (se_ty (by rfl) T.z_tuple bt_tuple) (by rfl) T.z_isinstance))) (ss_one (s_raise (c := 0) c Z.E_BadOctets (by decide) (by rfl) (sa_cons se_int (sa_cons se_str sa_nil)) (by rw [Z.N_BadOctets]; rfl))) ss_nil)
    (ss_cons (s_set 1 c.nd (se_lst sa_nil))
    (ss_cons (s_for c.po c.hc (pi_seqS (se_var 0)) io_seqS (pg_name (i := 2) c.nd rfl (by first | exact Or.inl rfl | exact Or.inr rfl)) tg_name (ss_cons (s_expr (se_call c O_check_octets (by decide) (by rfl) (sa_cons (se_var 2) sa_nil)))
    (ss_cons (s_if (st_gtX c.hu (se_callB call_lenAll im_len (by rfl) T.z_len bt_len (sa_cons (se_var 2) sa_nil)) (se_globI' (by rfl) T.c_MOST_OCTETS)) (ss_one (s_raise (c := 0) c Z.E_BadOctets (by decide) (by rfl) (sa_cons (se_globI' (by rfl) T.c_MOST_OCTETS) (sa_cons se_str sa_nil)) (by rw [Z.N_BadOctets]; rfl))) ss_nil)
    (ss_cons (s_tr (s_expr (se_extend (se_var 1) (sa_cons (se_callTy (call_listAll c.hc) im_list (by rfl) T.z_list bt_list (sa_cons (se_call c O_from_number (by decide) (by rfl) (sa_cons (se_callB call_lenAll im_len (by rfl) T.z_len bt_len (sa_cons (se_var 2) sa_nil)) (sa_cons se_int sa_nil))) sa_nil)) sa_nil))))
    (ss_one (s_tr (s_expr (se_extend (se_var 1) (sa_cons (se_callTy (call_listAll c.hc) im_list (by rfl) T.z_list bt_list (sa_cons (se_var 2) sa_nil)) sa_nil)))))))))
    (ss_one (s_ret (se_callTy call_tuple_of im_tuple (by rfl) T.z_tuple bt_tuple (sa_cons (se_var 1) sa_nil)))))))
theorem sc__law_draw : FnScope ["src", "most", "cell", "digit"] ["src", "most"] (defScope s__law_draw) := ⟨rfl, rfl, rfl, by decide +kernel, rfl, by decide +kernel, by decide +kernel⟩
theorem d__law_draw {f : Addr} {fd : FuncData} (F : Fun K "_law_draw" "_law_draw" s__law_draw f fd) (T : Tx K mg) (Z : Errs P w K mg base G)  : FnOk P w K mg base (L2N.CX P w) 1 f fd ["src", "most"] (spM K G 2 m__law_draw) :=
  fn_okT (N := ["src", "most", "cell", "digit"]) (ps := ["src", "most"]) (k := 0) (n := 4) (np := 2) (body := b__law_draw) rfl rfl F sc__law_draw fun cdv A outer s H E c => by
    exact (ss_cons (s_if (st_w (sw_and (st_eq c.hu (se_ix (se_var 0) se_int) se_int) (sw_and1 (st_ltX c.hu (se_ix (se_var 0) se_int) (se_callB call_lenAll im_len (by rfl) T.z_len bt_len (sa_cons (se_ix (se_var 0) se_int) sa_nil)))))) (ss_cons (s_set 2 c.nd (se_callB call_abs im_abs (by rfl) T.z_abs bt_abs (sa_cons (se_ix (se_ix (se_var 0) se_int) (se_ix (se_var 0) se_int)) sa_nil)))
    (ss_cons (s_setIx c.hu1 (se_var 0) se_int (se_add (se_ix (se_var 0) se_int) se_int))
    (ss_one (s_if (st_geX c.hu (se_var 2) (se_pow se_int se_int)) (ss_one (s_setIx c.hu1 (se_var 0) se_int (se_var 2))) (ss_one (s_setIx c.hu1 (se_var 0) se_int (se_mod (se_callTy call_int1 im_int (by rfl) T.z_int bt_int (sa_cons (se_add (se_add (se_mulA (se_ix (se_var 0) se_int) se_int) (se_mulA (se_var 2) se_int)) se_int) sa_nil)) se_int))))))) ss_nil)
    (ss_cons (s_if (st_gtX c.hu (se_ix (se_var 0) se_int) se_int) (ss_cons (s_set 3 c.nd (se_mod (se_callTy call_int1 im_int (by rfl) T.z_int bt_int (sa_cons (se_ix (se_var 0) se_int) sa_nil)) (se_var 1)))
    (ss_cons (s_setIx c.hu1 (se_var 0) se_int (se_fdiv (se_ix (se_var 0) se_int) (se_var 1)))
    (ss_one (s_ret (se_var 3))))) ss_nil)
    (ss_cons (s_setIx c.hu1 (se_var 0) se_int (se_mod (se_callTy call_int1 im_int (by rfl) T.z_int bt_int (sa_cons (se_add (se_mulA (se_ix (se_var 0) se_int) se_int) se_int) sa_nil)) se_int))
    (ss_one (s_ret (se_mod (se_mod (se_callTy call_int1 im_int (by rfl) T.z_int bt_int (sa_cons (se_add (se_fdiv (se_mulA (se_ix (se_var 0) se_int) (se_ix (se_var 0) se_int)) se_int) (se_ix (se_var 0) se_int)) sa_nil)) se_int) (se_var 1)))))))
theorem sc__law_pick : FnScope ["src", "some"] ["src", "some"] (defScope s__law_pick) := ⟨rfl, rfl, rfl, by decide +kernel, rfl, by decide +kernel, by decide +kernel⟩
theorem d__law_pick {f : Addr} {fd : FuncData} (F : Fun K "_law_pick" "_law_pick" s__law_pick f fd) (T : Tx K mg) (Z : Errs P w K mg base G) (O__law_draw : Ok P w K mg base G 1 "_law_draw" ["src", "most"] m__law_draw) : FnOk P w K mg base (L2N.CX P w) 2 f fd ["src", "some"] (spM K G 2 m__law_pick) :=
  fn_okT (N := ["src", "some"]) (ps := ["src", "some"]) (k := 1) (n := 2) (np := 2) (body := b__law_pick) rfl rfl F sc__law_pick fun cdv A outer s H E c => by
    exact (ss_one (s_ret (se_ix (se_var 1) (se_call c O__law_draw (by decide) (by rfl) (sa_cons (se_var 0) (sa_cons (se_callB call_lenAll im_len (by rfl) T.z_len bt_len (sa_cons (se_var 1) sa_nil)) sa_nil))))))
theorem sc__law_same : FnScope ["told", "due", "k"] ["told", "due"] (defScope s__law_same) := ⟨rfl, rfl, rfl, by decide +kernel, rfl, by decide +kernel, by decide +kernel⟩
theorem dH__law_same {f : Addr} {fd : FuncData} (F : Fun K "_law_same" "_law_same" s__law_same f fd) (T : Tx K mg) (Z : Errs P w K mg base G)  (hm_ : mg "_law_same" = some (.ref f)) (hb_ : Binds K fd ["told", "due"] []) : ∀ n : Nat, L2H.FnH P w K mg base (L2N.CX P w) (1 + n) f fd ["told", "due"] (spM K G 2 (m__law_same n))
  | 0 => fnH_bad rfl
  | n + 1 => by
    have OH_self : OkH P w K mg base G (1 + n) "_law_same" ["told", "due"] (m__law_same n) := ⟨f, fd, hm_, F.kp, hb_, dH__law_same F T Z  hm_ hb_ n⟩
    exact fnH_okT (N := ["told", "due", "k"]) (ps := ["told", "due"]) (k := 1 + n) (n := 3) (np := 2) (body := b__law_same (m__law_same n)) rfl rfl F sc__law_same fun cdv A outer s H E p c => by
      exact (ss_cons (s_if (st_truth (se_isi .tuple (se_var 1) (se_ty (by rfl) T.z_tuple bt_tuple) (by rfl) T.z_isinstance)) (ss_cons (s_if (st_w (sw_or (st_not (st_truth (se_isi .tuple (se_var 0) (se_ty (by rfl) T.z_tuple bt_tuple) (by rfl) T.z_isinstance))) (sw_or1 (st_ne c.hu (se_callB call_lenAll im_len (by rfl) T.z_len bt_len (sa_cons (se_var 0) sa_nil)) (se_callB call_lenAll im_len (by rfl) T.z_len bt_len (sa_cons (se_var 1) sa_nil)))))) (ss_one (s_ret se_bl)) ss_nil)
    (ss_one (s_ret (se_callB (crH_all c.hot) im_all (by rfl) T.z_all bt_all (sa_cons (se_fz (seH_lc (own := [("k", 2)]) (s := (gtName 2)) c (L2H.pi_range1H (by rfl) T.z_range (sa_cons (se_callB call_lenAll im_len (by rfl) T.z_len bt_len (sa_cons (se_var 1) sa_nil)) sa_nil)) io_rng1 (blkOk_by (N := ["told", "due", "k"]) (sc := defScope s__law_same) (by decide +kernel)) (fun _ _ _ _ _ _ _ => (pg_name (i := 2) c.nd rfl (by first | exact Or.inl rfl | exact Or.inr rfl))) (tgw_name (by decide)) (fun _ _ _ _ _ _ _ => pts_nil) yes_imp (fun _ _ _ _ _ _ hot => inBlkEH c hot fun c => (seH_call c OH_self (Nat.le_refl _) (by rfl) (sa_cons (se_ix (se_var 0) (se_var 2)) (sa_cons (se_ix (se_var 1) (se_var 2)) sa_nil)))))) sa_nil))))) ss_nil)
    (ss_cons (s_if (st_isN (se_var 1)) (ss_one (s_ret (se_isN (se_var 0)))) ss_nil)
    (ss_cons (s_if (st_w (sw_or (st_truth (se_isi .bool (se_var 1) (se_ty (by rfl) T.z_bool bt_bool) (by rfl) T.z_isinstance)) (sw_or1 (st_truth (se_isi .bool (se_var 0) (se_ty (by rfl) T.z_bool bt_bool) (by rfl) T.z_isinstance))))) (ss_one (s_ret (se_and (se_isi .bool (se_var 1) (se_ty (by rfl) T.z_bool bt_bool) (by rfl) T.z_isinstance) (se_and (se_isi .bool (se_var 0) (se_ty (by rfl) T.z_bool bt_bool) (by rfl) T.z_isinstance) (se_one (se_eq c.hu (se_var 0) (se_var 1))))))) ss_nil)
    (ss_cons (s_if (st_truth (se_isi .int (se_var 1) (se_ty (by rfl) T.z_int bt_int) (by rfl) T.z_isinstance)) (ss_one (s_ret (se_and (se_isi .int (se_var 0) (se_ty (by rfl) T.z_int bt_int) (by rfl) T.z_isinstance) (se_one (se_eq c.hu (se_var 0) (se_var 1)))))) ss_nil)
    (ss_one (s_ret (se_and (se_isi .str (se_var 1) (se_ty (by rfl) T.z_str bt_str) (by rfl) T.z_isinstance) (se_and (se_isi .str (se_var 0) (se_ty (by rfl) T.z_str bt_str) (by rfl) T.z_isinstance) (se_one (se_eq c.hu (se_var 0) (se_var 1)))))))))))
theorem d__law_same {f : Addr} {fd : FuncData} (F : Fun K "_law_same" "_law_same" s__law_same f fd) (T : Tx K mg) (Z : Errs P w K mg base G)  (hm_ : mg "_law_same" = some (.ref f)) (hb_ : Binds K fd ["told", "due"] []) : ∀ n : Nat, FnOk P w K mg base (L2N.CX P w) (1 + n) f fd ["told", "due"] (spM K G 2 (m__law_same n))
  | 0 => fn_bad rfl
  | n + 1 => by
    have O_self : Ok P w K mg base G (1 + n) "_law_same" ["told", "due"] (m__law_same n) := ⟨f, fd, hm_, F.kp, hb_, d__law_same F T Z  hm_ hb_ n⟩
    exact fn_okT (N := ["told", "due", "k"]) (ps := ["told", "due"]) (k := 1 + n) (n := 3) (np := 2) (body := b__law_same (m__law_same n)) rfl rfl F sc__law_same fun cdv A outer s H E c => by
      exact (ss_cons (s_if (st_truth (se_isi .tuple (se_var 1) (se_ty (by rfl) T.z_tuple bt_tuple) (by rfl) T.z_isinstance)) (ss_cons (s_if (st_w (sw_or (st_not (st_truth (se_isi .tuple (se_var 0) (se_ty (by rfl) T.z_tuple bt_tuple) (by rfl) T.z_isinstance))) (sw_or1 (st_ne c.hu (se_callB call_lenAll im_len (by rfl) T.z_len bt_len (sa_cons (se_var 0) sa_nil)) (se_callB call_lenAll im_len (by rfl) T.z_len bt_len (sa_cons (se_var 1) sa_nil)))))) (ss_one (s_ret se_bl)) ss_nil)
    (ss_one (s_ret (se_callB (cr_all c.hc) im_all (by rfl) T.z_all bt_all (sa_cons (se_fz (se_lc (own := [("k", 2)]) (s := (gtName 2)) c.hc c.nd (pi_range1 (by rfl) T.z_range (sa_cons (se_callB call_lenAll im_len (by rfl) T.z_len bt_len (sa_cons (se_var 1) sa_nil)) sa_nil)) io_rng1 (blkOk_by (N := ["told", "due", "k"]) (sc := defScope s__law_same) (by decide +kernel)) (fun _ _ _ _ _ => (pg_name (i := 2) c.nd rfl (by first | exact Or.inl rfl | exact Or.inr rfl))) (tgw_name (by decide)) (fun _ _ _ _ _ => pts_nil) yes_imp (fun _ _ _ _ _ => inBlkE c fun c => (se_call c O_self (Nat.le_refl _) (by rfl) (sa_cons (se_ix (se_var 0) (se_var 2)) (sa_cons (se_ix (se_var 1) (se_var 2)) sa_nil)))))) sa_nil))))) ss_nil)
    (ss_cons (s_if (st_isN (se_var 1)) (ss_one (s_ret (se_isN (se_var 0)))) ss_nil)
    (ss_cons (s_if (st_w (sw_or (st_truth (se_isi .bool (se_var 1) (se_ty (by rfl) T.z_bool bt_bool) (by rfl) T.z_isinstance)) (sw_or1 (st_truth (se_isi .bool (se_var 0) (se_ty (by rfl) T.z_bool bt_bool) (by rfl) T.z_isinstance))))) (ss_one (s_ret (se_and (se_isi .bool (se_var 1) (se_ty (by rfl) T.z_bool bt_bool) (by rfl) T.z_isinstance) (se_and (se_isi .bool (se_var 0) (se_ty (by rfl) T.z_bool bt_bool) (by rfl) T.z_isinstance) (se_one (se_eq c.hu (se_var 0) (se_var 1))))))) ss_nil)
    (ss_cons (s_if (st_truth (se_isi .int (se_var 1) (se_ty (by rfl) T.z_int bt_int) (by rfl) T.z_isinstance)) (ss_one (s_ret (se_and (se_isi .int (se_var 0) (se_ty (by rfl) T.z_int bt_int) (by rfl) T.z_isinstance) (se_one (se_eq c.hu (se_var 0) (se_var 1)))))) ss_nil)
    (ss_one (s_ret (se_and (se_isi .str (se_var 1) (se_ty (by rfl) T.z_str bt_str) (by rfl) T.z_isinstance) (se_and (se_isi .str (se_var 0) (se_ty (by rfl) T.z_str bt_str) (by rfl) T.z_isinstance) (se_one (se_eq c.hu (se_var 0) (se_var 1)))))))))))
theorem sc__law_joined : FnScope ["pieces", "octets", "piece"] ["pieces"] (defScope s__law_joined) := ⟨rfl, rfl, rfl, by decide +kernel, rfl, by decide +kernel, by decide +kernel⟩
theorem d__law_joined {f : Addr} {fd : FuncData} (F : Fun K "_law_joined" "_law_joined" s__law_joined f fd) (T : Tx K mg) (Z : Errs P w K mg base G)  : FnOk P w K mg base (L2N.CX P w) 1 f fd ["pieces"] (spM K G 1 m__law_joined) :=
  fn_okT (N := ["pieces", "octets", "piece"]) (ps := ["pieces"]) (k := 0) (n := 3) (np := 1) (body := b__law_joined) rfl rfl F sc__law_joined fun cdv A outer s H E c => by
    exact (ss_cons (s_set 1 c.nd (se_lst sa_nil))
    (ss_cons (s_for c.po c.hc (pi_seqS (se_var 0)) io_seqS (pg_name (i := 2) c.nd rfl (by first | exact Or.inl rfl | exact Or.inr rfl)) tg_name (ss_one (s_tr (s_expr (se_extend (se_var 1) (sa_cons (se_callTy (call_listAll c.hc) im_list (by rfl) T.z_list bt_list (sa_cons (se_var 2) sa_nil)) sa_nil))))))
    (ss_one (s_ret (se_fz (se_var 1))))))
theorem sc__law_octet_row : FnScope ["src", "size", "first", "step", "k"] ["src", "size"] (defScope s__law_octet_row) := ⟨rfl, rfl, rfl, by decide +kernel, rfl, by decide +kernel, by decide +kernel⟩
theorem d__law_octet_row {f : Addr} {fd : FuncData} (F : Fun K "_law_octet_row" "_law_octet_row" s__law_octet_row f fd) (T : Tx K mg) (Z : Errs P w K mg base G) (O__law_draw : Ok P w K mg base G 1 "_law_draw" ["src", "most"] m__law_draw) : FnOk P w K mg base (L2N.CX P w) 2 f fd ["src", "size"] (spM K G 2 m__law_octet_row) :=
  fn_okT (N := ["src", "size", "first", "step", "k"]) (ps := ["src", "size"]) (k := 1) (n := 5) (np := 2) (body := b__law_octet_row) rfl rfl F sc__law_octet_row fun cdv A outer s H E c => by
    exact (ss_cons (s_set 2 c.nd (se_call c O__law_draw (by decide) (by rfl) (sa_cons (se_var 0) (sa_cons se_int sa_nil))))
    (ss_cons (s_set 3 c.nd (se_call c O__law_draw (by decide) (by rfl) (sa_cons (se_var 0) (sa_cons se_int sa_nil))))
    (ss_one (s_ret (se_callTy call_tuple_of im_tuple (by rfl) T.z_tuple bt_tuple (sa_cons (se_fz (se_lc (own := [("k", 4)]) (s := (gtName 4)) c.hc c.nd (pi_range1 (by rfl) T.z_range (sa_cons (se_var 1) sa_nil)) io_rng1 (blkOk_by (N := ["src", "size", "first", "step", "k"]) (sc := defScope s__law_octet_row) (by decide +kernel)) (fun _ _ _ _ _ => (pg_name (i := 4) c.nd rfl (by first | exact Or.inl rfl | exact Or.inr rfl))) (tgw_name (by decide)) (fun _ _ _ _ _ => pts_nil) yes_imp (fun _ _ _ _ _ => inBlkE c fun c => (se_mod (se_callTy call_int1 im_int (by rfl) T.z_int bt_int (sa_cons (se_add (se_var 2) (se_mulA (se_var 3) (se_var 4))) sa_nil)) se_int)))) sa_nil))))))
theorem sc__law_rows : FnScope ["src", "rows", "k", "size"] ["src"] (defScope s__law_rows) := ⟨rfl, rfl, rfl, by decide +kernel, rfl, by decide +kernel, by decide +kernel⟩
theorem d__law_rows {f : Addr} {fd : FuncData} (F : Fun K "_law_rows" "_law_rows" s__law_rows f fd) (T : Tx K mg) (Z : Errs P w K mg base G) (O__law_draw : Ok P w K mg base G 1 "_law_draw" ["src", "most"] m__law_draw) (O__law_octet_row : Ok P w K mg base G 2 "_law_octet_row" ["src", "size"] m__law_octet_row) : FnOk P w K mg base (L2N.CX P w) 3 f fd ["src"] (spM K G 1 m__law_rows) :=
  fn_okT (N := ["src", "rows", "k", "size"]) (ps := ["src"]) (k := 2) (n := 4) (np := 1) (body := b__law_rows) rfl rfl F sc__law_rows fun cdv A outer s H E c => by
    exact (ss_cons (s_set 1 c.nd (se_lst sa_nil))
    (ss_cons (s_for c.po c.hc (pi_range1 (by rfl) T.z_range (sa_cons (se_call c O__law_draw (by decide) (by rfl) (sa_cons (se_var 0) (sa_cons se_int sa_nil))) sa_nil)) io_rng1 (pg_name (i := 2) c.nd rfl (by first | exact Or.inl rfl | exact Or.inr rfl)) tg_name (ss_cons (s_set 3 c.nd (se_call c O__law_draw (by decide) (by rfl) (sa_cons (se_var 0) (sa_cons se_int sa_nil))))
    (ss_cons (s_if (st_eq c.hu (se_call c O__law_draw (by decide) (by rfl) (sa_cons (se_var 0) (sa_cons se_int sa_nil))) se_int) (ss_one (s_set 3 c.nd (se_add se_int (se_call c O__law_draw (by decide) (by rfl) (sa_cons (se_var 0) (sa_cons se_int sa_nil)))))) ss_nil)
    (ss_one (s_expr (se_append (se_var 1) (sa_cons (se_call c O__law_octet_row (by decide) (by rfl) (sa_cons (se_var 0) (sa_cons (se_var 3) sa_nil))) sa_nil)))))))
    (ss_cons (s_if (st_eq c.hu (se_call c O__law_draw (by decide) (by rfl) (sa_cons (se_var 0) (sa_cons se_int sa_nil))) se_int) (ss_one (s_expr (se_append (se_var 1) (sa_cons (se_call c O__law_octet_row (by decide) (by rfl) (sa_cons (se_var 0) (sa_cons (se_add se_int (se_call c O__law_draw (by decide) (by rfl) (sa_cons (se_var 0) (sa_cons se_int sa_nil)))) sa_nil))) sa_nil)))) ss_nil)
    (ss_one (s_ret (se_fz (se_var 1)))))))
theorem sc__law_octet_fault : FnScope ["row", "k", "octet"] ["row"] (defScope s__law_octet_fault) := ⟨rfl, rfl, rfl, by decide +kernel, rfl, by decide +kernel, by decide +kernel⟩
theorem d__law_octet_fault {f : Addr} {fd : FuncData} (F : Fun K "_law_octet_fault" "_law_octet_fault" s__law_octet_fault f fd) (T : Tx K mg) (Z : Errs P w K mg base G)  : FnOk P w K mg base (L2N.CX P w) 1 f fd ["row"] (spM K G 1 m__law_octet_fault) :=
  fn_okT (N := ["row", "k", "octet"]) (ps := ["row"]) (k := 0) (n := 3) (np := 1) (body := b__law_octet_fault) rfl rfl F sc__law_octet_fault fun cdv A outer s H E c => by
    exact (ss_cons (s_if (st_not (st_truth (se_isi .tuple (se_var 0) (se_ty (by rfl) T.z_tuple bt_tuple) (by rfl) T.z_isinstance))) (ss_one (s_ret (se_tup (sa_cons se_int (sa_cons se_str sa_nil))))) ss_nil)
    (ss_cons (s_for c.po c.hc (pi_range1 (by rfl) T.z_range (sa_cons (se_callB call_lenAll im_len (by rfl) T.z_len bt_len (sa_cons (se_var 0) sa_nil)) sa_nil)) io_rng1 (pg_name (i := 1) c.nd rfl (by first | exact Or.inl rfl | exact Or.inr rfl)) tg_name (ss_cons (s_set 2 c.nd (se_ix (se_var 0) (se_var 1)))
    (ss_one (s_if (st_w (sw_or (st_truth (se_isi .bool (se_var 2) (se_ty (by rfl) T.z_bool bt_bool) (by rfl) T.z_isinstance)) (sw_or (st_not (st_truth (se_isi .int (se_var 2) (se_ty (by rfl) T.z_int bt_int) (by rfl) T.z_isinstance))) (sw_or (st_ltX c.hu (se_var 2) se_int) (sw_or1 (st_gtX c.hu (se_var 2) se_int)))))) (ss_one (s_ret (se_tup (sa_cons (se_var 1) (sa_cons se_str sa_nil))))) ss_nil))))
    (ss_one (s_ret se_non))))
theorem sc__law_wrong_row : FnScope ["src", "long", "pick", "row", "wrong", "at"] ["src", "long"] (defScope s__law_wrong_row) := ⟨rfl, rfl, rfl, by decide +kernel, rfl, by decide +kernel, by decide +kernel⟩
theorem d__law_wrong_row {f : Addr} {fd : FuncData} (F : Fun K "_law_wrong_row" "_law_wrong_row" s__law_wrong_row f fd) (T : Tx K mg) (Z : Errs P w K mg base G) (O__law_draw : Ok P w K mg base G 1 "_law_draw" ["src", "most"] m__law_draw) (O__law_pick : Ok P w K mg base G 2 "_law_pick" ["src", "some"] m__law_pick) (O__law_octet_row : Ok P w K mg base G 2 "_law_octet_row" ["src", "size"] m__law_octet_row) : FnOk P w K mg base (L2N.CX P w) 3 f fd ["src", "long"] (spM K G 2 m__law_wrong_row) :=
  fn_okT (N := ["src", "long", "pick", "row", "wrong", "at"]) (ps := ["src", "long"]) (k := 2) (n := 6) (np := 2) (body := b__law_wrong_row) rfl rfl F sc__law_wrong_row fun cdv A outer s H E c => by
    exact (ss_cons (s_set 2 c.nd (se_call c O__law_draw (by decide) (by rfl) (sa_cons (se_var 0) (sa_cons se_int sa_nil))))
    (ss_cons (s_set 3 c.nd (se_call c O__law_octet_row (by decide) (by rfl) (sa_cons (se_var 0) (sa_cons (se_call c O__law_draw (by decide) (by rfl) (sa_cons (se_var 0) (sa_cons se_int sa_nil))) sa_nil))))
    (ss_cons (s_if (st_eq c.hu (se_var 2) se_int) (ss_one (s_ret (se_call c O__law_pick (by decide) (by rfl) (sa_cons (se_var 0) (sa_cons (se_lstF (sa_cons (se_callTyF (call_listAll c.hc) im_listF (by rfl) T.z_list bt_list (sa_cons (se_var 3) sa_nil)) (sa_cons se_non (sa_cons se_str (sa_cons se_int sa_nil))))) sa_nil))))) ss_nil)
    (ss_cons (s_if (st_w (sw_and (st_truth (se_var 1)) (sw_and (st_eq c.hu (se_var 2) se_int) (sw_and1 (st_eq c.hu (se_call c O__law_draw (by decide) (by rfl) (sa_cons (se_var 0) (sa_cons se_int sa_nil))) se_int))))) (ss_one (s_ret (se_call c O__law_octet_row (by decide) (by rfl) (sa_cons (se_var 0) (sa_cons se_int sa_nil))))) ss_nil)
    (ss_cons (s_set 4 c.nd (se_call c O__law_pick (by decide) (by rfl) (sa_cons (se_var 0) (sa_cons (se_lstF (sa_cons se_int (sa_cons (se_neg se_int) (sa_cons se_bl (sa_cons se_bl (sa_cons se_str (sa_cons se_non (sa_cons (se_tup (sa_cons se_int sa_nil)) sa_nil)))))))) sa_nil))))
    (ss_cons (s_set 5 c.nd (se_call c O__law_draw (by decide) (by rfl) (sa_cons (se_var 0) (sa_cons (se_add (se_callB call_lenAll im_len (by rfl) T.z_len bt_len (sa_cons (se_var 3) sa_nil)) se_int) sa_nil))))
    (ss_one (s_ret (se_add (se_add (se_slF (se_var 3) so_none (so_some (se_var 5))) (se_tup (sa_cons (se_var 4) sa_nil))) (se_slF (se_var 3) (so_some (se_var 5)) so_none))))))))))
theorem sc__law_is_packed : FnScope ["src", "rows", "argument", "k", "due", "row", "pick", "e", "fault"] ["src", "rows"] (defScope s__law_is_packed) := ⟨rfl, rfl, rfl, by decide +kernel, rfl, by decide +kernel, by decide +kernel⟩
theorem d__law_is_packed {f : Addr} {fd : FuncData} (F : Fun K "_law_is_packed" "_law_is_packed" s__law_is_packed f fd) (T : Tx K mg) (Z : Errs P w K mg base G) (O_pack_stream : Ok P w K mg base G 4 "pack_stream" ["rows"] m_pack_stream) (O__law_draw : Ok P w K mg base G 1 "_law_draw" ["src", "most"] m__law_draw) (O__law_pick : Ok P w K mg base G 2 "_law_pick" ["src", "some"] m__law_pick) (O__law_octet_fault : Ok P w K mg base G 1 "_law_octet_fault" ["row"] m__law_octet_fault) (O__law_wrong_row : Ok P w K mg base G 3 "_law_wrong_row" ["src", "long"] m__law_wrong_row) (OH__law_same : OkH P w K mg base G 13 "_law_same" ["told", "due"] (m__law_same 12)) : FnOk P w K mg base (L2N.CX P w) 14 f fd ["src", "rows"] (spM K G 2 m__law_is_packed) :=
  fn_okT (N := ["src", "rows", "argument", "k", "due", "row", "pick", "e", "fault"]) (ps := ["src", "rows"]) (k := 13) (n := 9) (np := 2) (body := b__law_is_packed) rfl rfl F sc__law_is_packed fun cdv A outer s H E c => by
    exact (ss_cons (s_set 2 c.nd (se_callTy (call_listAll c.hc) im_list (by rfl) T.z_list bt_list (sa_cons (se_var 1) sa_nil)))
    (ss_cons (s_for c.po c.hc (pi_range1 (by rfl) T.z_range (sa_cons (se_add se_int (se_call c O__law_draw (by decide) (by rfl) (sa_cons (se_var 0) (sa_cons se_int sa_nil)))) sa_nil)) io_rng1 (pg_name (i := 3) c.nd rfl (by first | exact Or.inl rfl | exact Or.inr rfl)) tg_name (ss_one (s_expr (se_insert (se_var 2) (sa_cons (se_call c O__law_draw (by decide) (by rfl) (sa_cons (se_var 0) (sa_cons (se_add (se_callB call_lenAll im_len (by rfl) T.z_len bt_len (sa_cons (se_var 2) sa_nil)) se_int) sa_nil))) (sa_cons (se_call c O__law_wrong_row (by decide) (by rfl) (sa_cons (se_var 0) (sa_cons se_bl sa_nil))) sa_nil))))))
    (ss_cons (s_set 4 c.nd se_non)
    (ss_cons (s_for c.po c.hc (pi_seqS (se_var 2)) io_seqS (pg_name (i := 5) c.nd rfl (by first | exact Or.inl rfl | exact Or.inr rfl)) tg_name (ss_cons (s_set 8 c.nd (se_call c O__law_octet_fault (by decide) (by rfl) (sa_cons (se_var 5) sa_nil)))
    (ss_cons (s_if (st_w (sw_and (st_isN (se_var 8)) (sw_and1 (st_gtX c.hu (se_callB call_lenAll im_len (by rfl) T.z_len bt_len (sa_cons (se_var 5) sa_nil)) se_int)))) (ss_one (s_set 8 c.nd (se_tup (sa_cons se_int (sa_cons se_str sa_nil))))) ss_nil)
    (ss_one (s_if (st_isN (se_var 4)) (ss_one (s_set 4 c.nd (se_var 8))) ss_nil)))))
    (ss_cons (s_set 6 c.nd (se_call c O__law_draw (by decide) (by rfl) (sa_cons (se_var 0) (sa_cons se_int sa_nil))))
    (ss_cons (s_tryL c rfl rfl (fun W pn xe c => (ss_one (s_if (st_eq c.hu (se_var 6) se_int) (ss_cons (s_set 4 c.nd (se_tup (sa_cons se_int (sa_cons se_str sa_nil))))
    (ss_one (s_expr (se_call c O_pack_stream (by decide) (by rfl) (sa_cons (se_call c O__law_pick (by decide) (by rfl) (sa_cons (se_var 0) (sa_cons (se_lstF (sa_cons (se_callTyF (call_listAll c.hc) im_listF (by rfl) T.z_list bt_list (sa_cons (se_var 1) sa_nil)) (sa_cons se_non sa_nil))) sa_nil))) sa_nil))))) (ss_one (s_expr (se_call c O_pack_stream (by decide) (by rfl) (sa_cons (se_callTy call_tuple_of im_tuple (by rfl) T.z_tuple bt_tuple (sa_cons (se_var 2) sa_nil)) sa_nil))))))) (HOk.as_ rfl rfl ⟨rfl, by decide, .inl Z.m_BadOctets⟩ (Z.M 0) (fun c_ hc a oe cls d pn hz hfl hcls => by have e := mtab_one 0 c_ hc; subst e; have c := CtH.suite (a := a) (pn := pn) c hz hfl; exact (xs_ret (xe_callH c OH__law_same (by decide) (by rfl) (xa_cons (xe_tup (xa_cons (xe_fld (G := G) (C := ⟨7, a, d, 0⟩) (k := 0) Z.X_BadOctets Z.F_BadOctets_place hcls hz.zc hfl rfl (Or.inl rfl) (by rw [Z.N_BadOctets]; rfl)) (xa_cons (xe_fld (G := G) (C := ⟨7, a, d, 0⟩) (k := 1) Z.X_BadOctets Z.F_BadOctets_why hcls hz.zc hfl rfl (Or.inl rfl) (by rw [Z.N_BadOctets]; rfl)) xa_nil))) (xa_cons (xe_of (se_var 4)) xa_nil))))) HOk.nil))
    (ss_one (s_ret se_bl))))))))
theorem sc__law_parsed : FnScope ["octets", "rows", "at", "turn", "size"] ["octets"] (defScope s__law_parsed) := ⟨rfl, rfl, rfl, by decide +kernel, rfl, by decide +kernel, by decide +kernel⟩
theorem d__law_parsed {f : Addr} {fd : FuncData} (F : Fun K "_law_parsed" "_law_parsed" s__law_parsed f fd) (T : Tx K mg) (Z : Errs P w K mg base G)  : FnOk P w K mg base (L2N.CX P w) 1 f fd ["octets"] (spM K G 1 m__law_parsed) :=
  fn_okT (N := ["octets", "rows", "at", "turn", "size"]) (ps := ["octets"]) (k := 0) (n := 5) (np := 1) (body := b__law_parsed) rfl rfl F sc__law_parsed fun cdv A outer s H E c => by
    exact (ss_cons (s_set 1 c.nd (se_lst sa_nil))
    (ss_cons (s_set 2 c.nd se_int)
    (ss_cons (s_for c.po c.hc (pi_range1 (by rfl) T.z_range (sa_cons (se_callB call_lenAll im_len (by rfl) T.z_len bt_len (sa_cons (se_var 0) sa_nil)) sa_nil)) io_rng1 (pg_name (i := 3) c.nd rfl (by first | exact Or.inl rfl | exact Or.inr rfl)) tg_name (ss_cons (s_if (st_gtX c.hu (se_add (se_var 2) se_int) (se_callB call_lenAll im_len (by rfl) T.z_len bt_len (sa_cons (se_var 0) sa_nil))) (ss_one s_break) ss_nil)
    (ss_cons (s_set 4 c.nd (se_add (se_mulA (se_ix (se_var 0) (se_var 2)) se_int) (se_ix (se_var 0) (se_add (se_var 2) se_int))))
    (ss_cons (s_if (st_gtX c.hu (se_var 4) se_int) (ss_one (s_ret (se_lstF (sa_cons (se_fz (se_var 1)) (sa_cons (se_var 2) (sa_cons (se_add (se_var 2) se_int) sa_nil)))))) ss_nil)
    (ss_cons (s_if (st_gtX c.hu (se_add (se_add (se_var 2) se_int) (se_var 4)) (se_callB call_lenAll im_len (by rfl) T.z_len bt_len (sa_cons (se_var 0) sa_nil))) (ss_one s_break) ss_nil)
    (ss_cons (s_expr (se_append (se_var 1) (sa_cons (se_callTy call_tuple_of im_tuple (by rfl) T.z_tuple bt_tuple (sa_cons (se_slF (se_var 0) (so_some (se_add (se_var 2) se_int)) (so_some (se_add (se_add (se_var 2) se_int) (se_var 4)))) sa_nil)) sa_nil)))
    (ss_one (s_set 2 c.nd (se_add (se_add (se_var 2) se_int) (se_var 4))))))))))
    (ss_one (s_ret (se_lstF (sa_cons (se_fz (se_var 1)) (sa_cons (se_var 2) (sa_cons (se_neg se_int) sa_nil)))))))))
theorem sc__law_piece : FnScope ["src", "fed", "stream", "octets", "rest", "way", "at"] ["src", "fed", "stream"] (defScope s__law_piece) := ⟨rfl, rfl, rfl, by decide +kernel, rfl, by decide +kernel, by decide +kernel⟩
theorem d__law_piece {f : Addr} {fd : FuncData} (F : Fun K "_law_piece" "_law_piece" s__law_piece f fd) (T : Tx K mg) (Z : Errs P w K mg base G) (O__law_draw : Ok P w K mg base G 1 "_law_draw" ["src", "most"] m__law_draw) (O__law_joined : Ok P w K mg base G 1 "_law_joined" ["pieces"] m__law_joined) (O__law_wrong_row : Ok P w K mg base G 3 "_law_wrong_row" ["src", "long"] m__law_wrong_row) (O__law_parsed : Ok P w K mg base G 1 "_law_parsed" ["octets"] m__law_parsed) : FnOk P w K mg base (L2N.CX P w) 4 f fd ["src", "fed", "stream"] (spM K G 3 m__law_piece) :=
  fn_okT (N := ["src", "fed", "stream", "octets", "rest", "way", "at"]) (ps := ["src", "fed", "stream"]) (k := 3) (n := 7) (np := 3) (body := b__law_piece) rfl rfl F sc__law_piece fun cdv A outer s H E c => by
    exact (ss_cons (s_set 3 c.nd (se_call c O__law_joined (by decide) (by rfl) (sa_cons (se_var 1) sa_nil)))
    (ss_cons (s_set 4 c.nd (se_slF (se_var 2) (so_some (se_callB call_lenAll im_len (by rfl) T.z_len bt_len (sa_cons (se_var 3) sa_nil))) so_none))
    (ss_cons (s_set 5 c.nd (se_call c O__law_draw (by decide) (by rfl) (sa_cons (se_var 0) (sa_cons se_int sa_nil))))
    (ss_cons (s_if (st_eq c.hu (se_var 5) se_int) (ss_one (s_ret (se_call c O__law_wrong_row (by decide) (by rfl) (sa_cons (se_var 0) (sa_cons se_bl sa_nil))))) ss_nil)
    (ss_cons (s_if (st_eq c.hu (se_var 5) se_int) (ss_cons (s_set 6 c.nd (se_sub (se_ix (se_call c O__law_parsed (by decide) (by rfl) (sa_cons (se_addF (se_var 3) (se_var 4)) sa_nil)) se_int) (se_callB call_lenAll im_len (by rfl) T.z_len bt_len (sa_cons (se_var 3) sa_nil))))
    (ss_one (s_ret (se_add (se_callTy call_tuple_of im_tuple (by rfl) T.z_tuple bt_tuple (sa_cons (se_slF (se_var 4) so_none (so_some (se_callB (call_max2 c.hc) im_max (by rfl) T.z_max bt_max (sa_cons se_int (sa_cons (se_var 6) sa_nil))))) sa_nil)) (se_tup (sa_cons se_int (sa_cons (se_add se_int (se_call c O__law_draw (by decide) (by rfl) (sa_cons (se_var 0) (sa_cons se_int sa_nil)))) sa_nil))))))) ss_nil)
    (ss_cons (s_if (st_eq c.hu (se_var 5) se_int) (ss_one (s_ret (se_callTy call_tuple_of im_tuple (by rfl) T.z_tuple bt_tuple (sa_cons (se_slF (se_var 4) so_none (so_some se_int)) sa_nil)))) ss_nil)
    (ss_one (s_ret (se_callTy call_tuple_of im_tuple (by rfl) T.z_tuple bt_tuple (sa_cons (se_slF (se_var 4) so_none (so_some (se_call c O__law_draw (by decide) (by rfl) (sa_cons (se_var 0) (sa_cons (se_add (se_callB call_lenAll im_len (by rfl) T.z_len bt_len (sa_cons (se_var 4) sa_nil)) se_int) sa_nil))))) sa_nil))))))))))
theorem sc__law_due : FnScope ["fed", "piece", "fault", "before", "told"] ["fed", "piece"] (defScope s__law_due) := ⟨rfl, rfl, rfl, by decide +kernel, rfl, by decide +kernel, by decide +kernel⟩
theorem d__law_due {f : Addr} {fd : FuncData} (F : Fun K "_law_due" "_law_due" s__law_due f fd) (T : Tx K mg) (Z : Errs P w K mg base G) (O__law_joined : Ok P w K mg base G 1 "_law_joined" ["pieces"] m__law_joined) (O__law_octet_fault : Ok P w K mg base G 1 "_law_octet_fault" ["row"] m__law_octet_fault) (O__law_parsed : Ok P w K mg base G 1 "_law_parsed" ["octets"] m__law_parsed) : FnOk P w K mg base (L2N.CX P w) 2 f fd ["fed", "piece"] (spM K G 2 m__law_due) :=
  fn_okT (N := ["fed", "piece", "fault", "before", "told"]) (ps := ["fed", "piece"]) (k := 1) (n := 5) (np := 2) (body := b__law_due) rfl rfl F sc__law_due fun cdv A outer s H E c => by
    exact (ss_cons (s_set 2 c.nd (se_call c O__law_octet_fault (by decide) (by rfl) (sa_cons (se_var 1) sa_nil)))
    (ss_cons (s_if (st_notN (se_var 2)) (ss_one (s_ret (se_lstF (sa_cons se_str (sa_cons (se_var 2) sa_nil))))) ss_nil)
    (ss_cons (s_set 3 c.nd (se_call c O__law_joined (by decide) (by rfl) (sa_cons (se_var 0) sa_nil)))
    (ss_cons (s_set 4 c.nd (se_call c O__law_parsed (by decide) (by rfl) (sa_cons (se_addF (se_var 3) (se_callTyF (call_listAll c.hc) im_listF (by rfl) T.z_list bt_list (sa_cons (se_var 1) sa_nil))) sa_nil)))
    (ss_cons (s_if (st_geX c.hu (se_ix (se_var 4) se_int) se_int) (ss_one (s_ret (se_lstF (sa_cons se_str (sa_cons (se_tup (sa_cons (se_sub (se_ix (se_var 4) se_int) (se_callB call_lenAll im_len (by rfl) T.z_len bt_len (sa_cons (se_var 3) sa_nil))) (sa_cons se_str sa_nil))) sa_nil))))) ss_nil)
    (ss_cons (s_if (st_eq c.hu (se_callB call_lenAll im_len (by rfl) T.z_len bt_len (sa_cons (se_var 0) sa_nil)) se_int) (ss_one (s_ret (se_lstF (sa_cons se_str (sa_cons (se_tup (sa_cons se_str (sa_cons se_int sa_nil))) sa_nil))))) ss_nil)
    (ss_one (s_ret (se_lstF (sa_cons se_str (sa_cons (se_callTy call_tuple_of im_tuple (by rfl) T.z_tuple bt_tuple (sa_cons (se_slF (se_ix (se_var 4) se_int) (so_some (se_callB call_lenAll im_len (by rfl) T.z_len bt_len (sa_cons (se_ix (se_call c O__law_parsed (by decide) (by rfl) (sa_cons (se_var 3) sa_nil)) se_int) sa_nil))) so_none) sa_nil)) sa_nil)))))))))))
theorem sc_StreamReader_feed : FnScope ["self", "octets", "shift", "held", "rows", "at", "size"] ["self", "octets"] (defScope s_StreamReader_feed) := ⟨rfl, rfl, rfl, by decide +kernel, rfl, by decide +kernel, by decide +kernel⟩
theorem d_StreamReader_feed {f : Addr} {fd : FuncData} (F : Fun K "feed" "StreamReader.feed" s_StreamReader_feed f fd) (T : Tx K mg) (Z : Errs P w K mg base G) (O_check_octets : Ok P w K mg base G 3 "check_octets" ["value"] m_check_octets) : FnOk P w K mg base (L2N.CX P w) 4 f fd ["self", "octets"] (spM K G 2 m_StreamReader_feed) :=
  fn_okT (N := ["self", "octets", "shift", "held", "rows", "at", "size"]) (ps := ["self", "octets"]) (k := 3) (n := 7) (np := 2) (body := b_StreamReader_feed) rfl rfl F sc_StreamReader_feed fun cdv A outer s H E c => by
    exact (ss_cons (s_expr (se_call c O_check_octets (by decide) (by rfl) (sa_cons (se_var 1) sa_nil)))
    (ss_cons (s_set 2 c.nd (se_callB call_lenAll im_len (by rfl) T.z_len bt_len (sa_cons (se_ix (se_fld Z.T_StreamReader (by rw [Z.N_StreamReader]; rfl) (se_var 0)) (se_neg se_int)) sa_nil)))
    (ss_cons (s_set 3 c.nd (se_addF (se_ix (se_fld Z.T_StreamReader (by rw [Z.N_StreamReader]; rfl) (se_var 0)) (se_neg se_int)) (se_var 1)))
    (ss_cons (s_set 4 c.nd (se_lst sa_nil))
    (ss_cons (s_set 5 c.nd se_int)
    (ss_cons (s_while 100000 c.po (st_leX c.hu (se_add (se_var 5) se_int) (se_callB call_lenAll im_len (by rfl) T.z_len bt_len (sa_cons (se_var 3) sa_nil))) (ss_cons (s_set 6 c.nd (se_add (se_mulA (se_ix (se_var 3) (se_var 5)) se_int) (se_ix (se_var 3) (se_add (se_var 5) se_int))))
    (ss_cons (s_if (st_gtX c.hu (se_var 6) (se_globI' (by rfl) T.c_MOST_OCTETS)) (ss_one (s_raise (c := 0) c Z.E_BadOctets (by decide) (by rfl) (sa_cons (se_sub (se_add (se_var 5) se_int) (se_var 2)) (sa_cons se_str sa_nil)) (by rw [Z.N_BadOctets]; rfl))) ss_nil)
    (ss_cons (s_if (st_gtX c.hu (se_add (se_add (se_var 5) se_int) (se_var 6)) (se_callB call_lenAll im_len (by rfl) T.z_len bt_len (sa_cons (se_var 3) sa_nil))) (ss_one s_break) ss_nil)
    (ss_cons (s_expr (se_append (se_var 4) (sa_cons (se_slF (se_var 3) (so_some (se_add (se_var 5) se_int)) (so_some (se_add (se_add (se_var 5) se_int) (se_var 6)))) sa_nil)))
    (ss_one (s_aug 5 c.nd iop_add im_iaddI (se_add se_int (se_var 6)))))))))
    (ss_cons (s_if (st_eq c.hu (se_callB call_lenAll im_len (by rfl) T.z_len bt_len (sa_cons (se_fld Z.T_StreamReader (by rw [Z.N_StreamReader]; rfl) (se_var 0)) sa_nil)) (se_globI' (by rfl) T.c_MOST_DEEDS)) (ss_one (s_raise (c := 1) c Z.E_TooMany (by decide) (by rfl) (sa_cons se_str (sa_cons (se_add (se_globI' (by rfl) T.c_MOST_DEEDS) se_int) sa_nil)) (by rw [Z.N_TooMany]; rfl))) ss_nil)
    (ss_cons (s_expr (se_append (se_fld Z.T_StreamReader (by rw [Z.N_StreamReader]; rfl) (se_var 0)) (sa_cons (se_var 1) sa_nil)))
    (ss_cons (s_expr (se_append (se_fld Z.T_StreamReader (by rw [Z.N_StreamReader]; rfl) (se_var 0)) (sa_cons (se_slF (se_var 3) (so_some (se_var 5)) so_none) sa_nil)))
    (ss_one (s_ret (se_callTy call_tuple_of im_tuple (by rfl) T.z_tuple bt_tuple (sa_cons (se_var 4) sa_nil)))))))))))))
theorem sc__law_is_fed : FnScope ["reader", "fed", "piece", "due", "e", "f", "told"] ["reader", "fed", "piece"] (defScope s__law_is_fed) := ⟨rfl, rfl, rfl, by decide +kernel, rfl, by decide +kernel, by decide +kernel⟩
theorem d__law_is_fed {f : Addr} {fd : FuncData} (F : Fun K "_law_is_fed" "_law_is_fed" s__law_is_fed f fd) (T : Tx K mg) (Z : Errs P w K mg base G) (O_StreamReader_feed : OkM P w K mg base G 4 3 "feed" ["self", "octets"] m_StreamReader_feed) (O__law_same : Ok P w K mg base G 13 "_law_same" ["told", "due"] (m__law_same 12)) (O__law_due : Ok P w K mg base G 2 "_law_due" ["fed", "piece"] m__law_due) (OH__law_same : OkH P w K mg base G 13 "_law_same" ["told", "due"] (m__law_same 12)) : FnOk P w K mg base (L2N.CX P w) 14 f fd ["reader", "fed", "piece"] (spM K G 3 m__law_is_fed) :=
  fn_okT (N := ["reader", "fed", "piece", "due", "e", "f", "told"]) (ps := ["reader", "fed", "piece"]) (k := 13) (n := 7) (np := 3) (body := b__law_is_fed) rfl rfl F sc__law_is_fed fun cdv A outer s H E c => by
    exact (ss_cons (s_set 3 c.nd (se_call c O__law_due (by decide) (by rfl) (sa_cons (se_var 1) (sa_cons (se_var 2) sa_nil))))
    (ss_cons (s_tryL c rfl rfl (fun W pn xe c => (ss_one (s_set 6 c.nd (se_methX c Z.T_StreamReader O_StreamReader_feed (by decide) (se_var 0) (sa_cons (se_var 2) sa_nil))))) (HOk.as_ rfl rfl ⟨rfl, by decide, .inl Z.m_BadOctets⟩ (Z.M 0) (fun c_ hc a oe cls d pn hz hfl hcls => by have e := mtab_one 0 c_ hc; subst e; have c := CtH.suite (a := a) (pn := pn) c hz hfl; exact (xs_ret (xe_and (xe_of (se_eq c.hu (se_ix (se_var 3) se_int) se_str)) (xe_one (xe_callH c OH__law_same (by decide) (by rfl) (xa_cons (xe_tup (xa_cons (xe_fld (G := G) (C := ⟨4, a, d, 0⟩) (k := 0) Z.X_BadOctets Z.F_BadOctets_place hcls hz.zc hfl rfl (Or.inl rfl) (by rw [Z.N_BadOctets]; rfl)) (xa_cons (xe_fld (G := G) (C := ⟨4, a, d, 0⟩) (k := 1) Z.X_BadOctets Z.F_BadOctets_why hcls hz.zc hfl rfl (Or.inl rfl) (by rw [Z.N_BadOctets]; rfl)) xa_nil))) (xa_cons (xe_of (se_ix (se_var 3) se_int)) xa_nil))))))) (HOk.as_ rfl rfl ⟨rfl, by decide, .inl Z.m_TooMany⟩ (Z.M 1) (fun c_ hc a oe cls d pn hz hfl hcls => by have e := mtab_one 1 c_ hc; subst e; have c := CtH.suite (a := a) (pn := pn) c hz hfl; exact (xs_ret (xe_and (xe_of (se_eq c.hu (se_ix (se_var 3) se_int) se_str)) (xe_one (xe_callH c OH__law_same (by decide) (by rfl) (xa_cons (xe_tup (xa_cons (xe_fld (G := G) (C := ⟨5, a, d, 1⟩) (k := 0) Z.X_TooMany Z.F_TooMany_what hcls hz.zc hfl rfl (Or.inl rfl) (by rw [Z.N_TooMany]; rfl)) (xa_cons (xe_fld (G := G) (C := ⟨5, a, d, 1⟩) (k := 1) Z.X_TooMany Z.F_TooMany_count hcls hz.zc hfl rfl (Or.inl rfl) (by rw [Z.N_TooMany]; rfl)) xa_nil))) (xa_cons (xe_of (se_ix (se_var 3) se_int)) xa_nil))))))) HOk.nil)))
    (ss_cons (s_expr (se_append (se_var 1) (sa_cons (se_var 2) sa_nil)))
    (ss_one (s_ret (se_and (se_eq c.hu (se_ix (se_var 3) se_int) se_str) (se_one (se_call c O__law_same (by decide) (by rfl) (sa_cons (se_var 6) (sa_cons (se_ix (se_var 3) se_int) sa_nil))))))))))
theorem sc_StreamReader_undo : FnScope ["self"] ["self"] (defScope s_StreamReader_undo) := ⟨rfl, rfl, rfl, by decide +kernel, rfl, by decide +kernel, by decide +kernel⟩
theorem d_StreamReader_undo {f : Addr} {fd : FuncData} (F : Fun K "undo" "StreamReader.undo" s_StreamReader_undo f fd) (T : Tx K mg) (Z : Errs P w K mg base G)  : FnOk P w K mg base (L2N.CX P w) 3 f fd ["self"] (spM K G 1 m_StreamReader_undo) :=
  fn_okT (N := ["self"]) (ps := ["self"]) (k := 2) (n := 1) (np := 1) (body := b_StreamReader_undo) rfl rfl F sc_StreamReader_undo fun cdv A outer s H E c => by
    exact (ss_cons (s_if (st_eq c.hu (se_fld Z.T_StreamReader (by rw [Z.N_StreamReader]; rfl) (se_var 0)) (se_lstF sa_nil)) (ss_one (s_raise (c := 2) c Z.E_BadDeed (by decide) (by rfl) (sa_cons se_str sa_nil) (by rw [Z.N_BadDeed]; rfl))) ss_nil)
    (ss_cons (s_expr (se_pop (se_fld Z.T_StreamReader (by rw [Z.N_StreamReader]; rfl) (se_var 0))))
    (ss_one (s_expr (se_pop (se_fld Z.T_StreamReader (by rw [Z.N_StreamReader]; rfl) (se_var 0)))))))
theorem sc__law_is_undone : FnScope ["reader", "fed", "e", "told"] ["reader", "fed"] (defScope s__law_is_undone) := ⟨rfl, rfl, rfl, by decide +kernel, rfl, by decide +kernel, by decide +kernel⟩
theorem d__law_is_undone {f : Addr} {fd : FuncData} (F : Fun K "_law_is_undone" "_law_is_undone" s__law_is_undone f fd) (T : Tx K mg) (Z : Errs P w K mg base G) (O_StreamReader_undo : OkM P w K mg base G 3 3 "undo" ["self"] m_StreamReader_undo) (OH__law_same : OkH P w K mg base G 13 "_law_same" ["told", "due"] (m__law_same 12)) : FnOk P w K mg base (L2N.CX P w) 14 f fd ["reader", "fed"] (spM K G 2 m__law_is_undone) :=
  fn_okT (N := ["reader", "fed", "e", "told"]) (ps := ["reader", "fed"]) (k := 13) (n := 4) (np := 2) (body := b__law_is_undone) rfl rfl F sc__law_is_undone fun cdv A outer s H E c => by
    exact (ss_cons (s_tryL c rfl rfl (fun W pn xe c => (ss_one (s_set 3 c.nd (se_methX0 c Z.T_StreamReader O_StreamReader_undo (by decide) (se_var 0))))) (HOk.as_ rfl rfl ⟨rfl, by decide, .inl Z.m_BadDeed⟩ (Z.M 2) (fun c_ hc a oe cls d pn hz hfl hcls => by have e := mtab_one 2 c_ hc; subst e; have c := CtH.suite (a := a) (pn := pn) c hz hfl; exact (xs_ret (xe_and (xe_of (se_eq c.hu (se_var 1) (se_lstF sa_nil))) (xe_one (xe_callH c OH__law_same (by decide) (by rfl) (xa_cons (xe_fld (G := G) (C := ⟨2, a, d, 2⟩) (k := 0) Z.X_BadDeed Z.F_BadDeed_why hcls hz.zc hfl rfl (Or.inl rfl) (by rw [Z.N_BadDeed]; rfl)) (xa_cons (xe_of se_str) xa_nil))))))) HOk.nil))
    (ss_cons (s_if (st_w (sw_or (st_eq c.hu (se_var 1) (se_lstF sa_nil)) (sw_or1 (st_notN (se_var 3))))) (ss_one (s_ret se_bl)) ss_nil)
    (ss_cons (s_expr (se_pop (se_var 1)))
    (ss_one (s_ret se_bl)))))
theorem sc_StreamReader___init__ : FnScope ["self"] ["self"] (defScope s_StreamReader___init__) := ⟨rfl, rfl, rfl, by decide +kernel, rfl, by decide +kernel, by decide +kernel⟩
theorem d_StreamReader___init__ {f : Addr} {fd : FuncData} (F : Fun K "__init__" "StreamReader.__init__" s_StreamReader___init__ f fd) (T : Tx K mg) (Z : Errs P w K mg base G)  : FnOk P w K mg base (L2N.CX P w) 1 f fd ["self"] (spM K G 1 m_StreamReader___init__) :=
  fn_okT (N := ["self"]) (ps := ["self"]) (k := 0) (n := 1) (np := 1) (body := b_StreamReader___init__) rfl rfl F sc_StreamReader___init__ fun cdv A outer s H E c => by
    exact (ss_cons (s_fld Z.T_StreamReader (by rw [Z.N_StreamReader]; rfl) (se_var 0) (se_lst sa_nil))
    (ss_one (s_fld Z.T_StreamReader (by rw [Z.N_StreamReader]; rfl) (se_var 0) (se_lst (sa_cons (se_tup sa_nil) sa_nil)))))
theorem sc_StreamReader_waiting : FnScope ["self"] ["self"] (defScope s_StreamReader_waiting) := ⟨rfl, rfl, rfl, by decide +kernel, rfl, by decide +kernel, by decide +kernel⟩
theorem d_StreamReader_waiting {f : Addr} {fd : FuncData} (F : Fun K "waiting" "StreamReader.waiting" s_StreamReader_waiting f fd) (T : Tx K mg) (Z : Errs P w K mg base G)  : FnOk P w K mg base (L2N.CX P w) 1 f fd ["self"] (spM K G 1 m_StreamReader_waiting) :=
  fn_okT (N := ["self"]) (ps := ["self"]) (k := 0) (n := 1) (np := 1) (body := b_StreamReader_waiting) rfl rfl F sc_StreamReader_waiting fun cdv A outer s H E c => by
    exact (ss_one (s_ret (se_callB call_lenAll im_len (by rfl) T.z_len bt_len (sa_cons (se_ix (se_fld Z.T_StreamReader (by rw [Z.N_StreamReader]; rfl) (se_var 0)) (se_neg se_int)) sa_nil))))
theorem sc_StreamReader_log : FnScope ["self"] ["self"] (defScope s_StreamReader_log) := ⟨rfl, rfl, rfl, by decide +kernel, rfl, by decide +kernel, by decide +kernel⟩
theorem d_StreamReader_log {f : Addr} {fd : FuncData} (F : Fun K "log" "StreamReader.log" s_StreamReader_log f fd) (T : Tx K mg) (Z : Errs P w K mg base G)  : FnOk P w K mg base (L2N.CX P w) 1 f fd ["self"] (spM K G 1 m_StreamReader_log) :=
  fn_okT (N := ["self"]) (ps := ["self"]) (k := 0) (n := 1) (np := 1) (body := b_StreamReader_log) rfl rfl F sc_StreamReader_log fun cdv A outer s H E c => by
    exact (ss_one (s_ret (se_callTy call_tuple_of im_tuple (by rfl) T.z_tuple bt_tuple (sa_cons (se_fld Z.T_StreamReader (by rw [Z.N_StreamReader]; rfl) (se_var 0)) sa_nil))))
theorem sc_law : FnScope ["script", "src", "rows", "stream", "row", "other", "reader", "fed", "turn", "k", "octets", "right"] ["script"] (defScope s_law) := ⟨rfl, rfl, rfl, by decide +kernel, rfl, by decide +kernel, by decide +kernel⟩
theorem d_law {f : Addr} {fd : FuncData} (F : Fun K "law" "law" s_law f fd) (T : Tx K mg) (Z : Errs P w K mg base G) (O_pack_stream : Ok P w K mg base G 4 "pack_stream" ["rows"] m_pack_stream) (O_StreamReader___init__ : OkC P w K mg base G 1 3 "StreamReader" ["self"] m_StreamReader___init__) (O_StreamReader_feed : OkM P w K mg base G 4 3 "feed" ["self", "octets"] m_StreamReader_feed) (O_StreamReader_waiting : OkM P w K mg base G 1 3 "waiting" ["self"] m_StreamReader_waiting) (O_StreamReader_log : OkM P w K mg base G 1 3 "log" ["self"] m_StreamReader_log) (O__law_draw : Ok P w K mg base G 1 "_law_draw" ["src", "most"] m__law_draw) (O__law_same : Ok P w K mg base G 13 "_law_same" ["told", "due"] (m__law_same 12)) (O__law_joined : Ok P w K mg base G 1 "_law_joined" ["pieces"] m__law_joined) (O__law_rows : Ok P w K mg base G 3 "_law_rows" ["src"] m__law_rows) (O__law_is_packed : Ok P w K mg base G 14 "_law_is_packed" ["src", "rows"] m__law_is_packed) (O__law_parsed : Ok P w K mg base G 1 "_law_parsed" ["octets"] m__law_parsed) (O__law_piece : Ok P w K mg base G 4 "_law_piece" ["src", "fed", "stream"] m__law_piece) (O__law_is_fed : Ok P w K mg base G 14 "_law_is_fed" ["reader", "fed", "piece"] m__law_is_fed) (O__law_is_undone : Ok P w K mg base G 14 "_law_is_undone" ["reader", "fed"] m__law_is_undone) : FnOk P w K mg base (L2N.CX P w) 15 f fd ["script"] (spM K G 1 m_law) :=
  fn_okT (N := ["script", "src", "rows", "stream", "row", "other", "reader", "fed", "turn", "k", "octets", "right"]) (ps := ["script"]) (k := 14) (n := 12) (np := 1) (body := b_law) rfl rfl F sc_law fun cdv A outer s H E c => by
    exact (ss_cons (s_set 1 c.nd (se_lst (sa_cons (se_var 0) (sa_cons se_int (sa_cons se_int (sa_cons se_int sa_nil))))))
    (ss_cons (s_set 2 c.nd (se_call c O__law_rows (by decide) (by rfl) (sa_cons (se_var 1) sa_nil)))
    (ss_cons (s_set 3 c.nd (se_lst sa_nil))
    (ss_cons (s_for c.po c.hc (pi_seqS (se_var 2)) io_seqS (pg_name (i := 4) c.nd rfl (by first | exact Or.inl rfl | exact Or.inr rfl)) tg_name (ss_one (s_tr (s_expr (se_extend (se_var 3) (sa_cons (se_add (se_lstF (sa_cons (se_fdiv (se_callB call_lenAll im_len (by rfl) T.z_len bt_len (sa_cons (se_var 4) sa_nil)) se_int) (sa_cons (se_mod (se_callB call_lenAll im_len (by rfl) T.z_len bt_len (sa_cons (se_var 4) sa_nil)) se_int) sa_nil))) (se_callTyF (call_listAll c.hc) im_listF (by rfl) T.z_list bt_list (sa_cons (se_var 4) sa_nil))) sa_nil))))))
    (ss_cons (s_if (st_w (sw_or (st_not (st_truth (se_call c O__law_same (by decide) (by rfl) (sa_cons (se_call c O_pack_stream (by decide) (by rfl) (sa_cons (se_callTy call_tuple_of im_tuple (by rfl) T.z_tuple bt_tuple (sa_cons (se_var 2) sa_nil)) sa_nil)) (sa_cons (se_callTy call_tuple_of im_tuple (by rfl) T.z_tuple bt_tuple (sa_cons (se_var 3) sa_nil)) sa_nil))))) (sw_or1 (st_not (st_truth (se_call c O__law_is_packed (by decide) (by rfl) (sa_cons (se_var 1) (sa_cons (se_var 2) sa_nil)))))))) (ss_one (s_ret se_bl)) ss_nil)
    (ss_cons (s_set 5 c.nd (se_makeX0 c O_StreamReader___init__ (by rw [Z.N_StreamReader]; rfl) (by decide) (by rfl)))
    (ss_cons (s_if (st_not (st_truth (se_call c O__law_same (by decide) (by rfl) (sa_cons (se_methX c Z.T_StreamReader O_StreamReader_feed (by decide) (se_var 5) (sa_cons (se_tup (sa_cons se_int (sa_cons se_int (sa_cons se_int sa_nil)))) sa_nil)) (sa_cons (se_tup (sa_cons (se_tup sa_nil) sa_nil)) sa_nil))))) (ss_one (s_ret se_bl)) ss_nil)
    (ss_cons (s_set 6 c.nd (se_makeX0 c O_StreamReader___init__ (by rw [Z.N_StreamReader]; rfl) (by decide) (by rfl)))
    (ss_cons (s_set 7 c.nd (se_lst sa_nil))
    (ss_cons (s_if (st_eq c.hu (se_call c O__law_draw (by decide) (by rfl) (sa_cons (se_var 1) (sa_cons se_int sa_nil))) se_int) (ss_one (s_for c.po c.hc (pi_range1 (by rfl) T.z_range (sa_cons (se_add se_int (se_call c O__law_draw (by decide) (by rfl) (sa_cons (se_var 1) (sa_cons se_int sa_nil)))) sa_nil)) io_rng1 (pg_name (i := 9) c.nd rfl (by first | exact Or.inl rfl | exact Or.inr rfl)) tg_name (ss_cons (s_expr (se_append (se_var 7) (sa_cons (se_tup sa_nil) sa_nil)))
    (ss_one (s_if (st_not (st_truth (se_call c O__law_same (by decide) (by rfl) (sa_cons (se_methX c Z.T_StreamReader O_StreamReader_feed (by decide) (se_var 6) (sa_cons (se_tup sa_nil) sa_nil)) (sa_cons (se_tup sa_nil) sa_nil))))) (ss_one (s_ret se_bl)) ss_nil))))) ss_nil)
    (ss_cons (s_for c.po c.hc (pi_range1 (by rfl) T.z_range (sa_cons se_int sa_nil)) io_rng1 (pg_name (i := 8) c.nd rfl (by first | exact Or.inl rfl | exact Or.inr rfl)) tg_name (ss_cons (s_if (st_eq c.hu (se_call c O__law_draw (by decide) (by rfl) (sa_cons (se_var 1) (sa_cons se_int sa_nil))) se_int) (ss_one (s_set 11 c.nd (se_call c O__law_is_undone (by decide) (by rfl) (sa_cons (se_var 6) (sa_cons (se_var 7) sa_nil))))) (ss_one (s_set 11 c.nd (se_call c O__law_is_fed (by decide) (by rfl) (sa_cons (se_var 6) (sa_cons (se_var 7) (sa_cons (se_call c O__law_piece (by decide) (by rfl) (sa_cons (se_var 1) (sa_cons (se_var 7) (sa_cons (se_var 3) sa_nil)))) sa_nil)))))))
    (ss_cons (s_set 10 c.nd (se_call c O__law_joined (by decide) (by rfl) (sa_cons (se_var 7) sa_nil)))
    (ss_cons (s_if (st_w (sw_or (st_not (st_truth (se_var 11))) (sw_or1 (st_not (st_truth (se_call c O__law_same (by decide) (by rfl) (sa_cons (se_methX0 c Z.T_StreamReader O_StreamReader_waiting (by decide) (se_var 6)) (sa_cons (se_sub (se_callB call_lenAll im_len (by rfl) T.z_len bt_len (sa_cons (se_var 10) sa_nil)) (se_ix (se_call c O__law_parsed (by decide) (by rfl) (sa_cons (se_var 10) sa_nil)) se_int)) sa_nil)))))))) (ss_one (s_ret se_bl)) ss_nil)
    (ss_one (s_if (st_not (st_truth (se_call c O__law_same (by decide) (by rfl) (sa_cons (se_methX0 c Z.T_StreamReader O_StreamReader_log (by decide) (se_var 6)) (sa_cons (se_callTy call_tuple_of im_tuple (by rfl) T.z_tuple bt_tuple (sa_cons (se_var 7) sa_nil)) sa_nil))))) (ss_one (s_ret se_bl)) ss_nil))))))
    (ss_one (s_ret (se_and (se_call c O__law_same (by decide) (by rfl) (sa_cons (se_methX0 c Z.T_StreamReader O_StreamReader_waiting (by decide) (se_var 5)) (sa_cons se_int sa_nil))) (se_one (se_call c O__law_same (by decide) (by rfl) (sa_cons (se_methX0 c Z.T_StreamReader O_StreamReader_log (by decide) (se_var 5)) (sa_cons (se_tup (sa_cons (se_tup (sa_cons se_int (sa_cons se_int (sa_cons se_int sa_nil)))) sa_nil)) sa_nil))))))))))))))))))
end
end Lk09
/-! k09: equality, faults, how a stream is cut -/
namespace Lk09
open PySem L2 PyProof.Rows Sm
open Lk07 (Oc num oc fb)
theorem q_check : m_check_octets = Lk07.m_check_octets := rfl
theorem q_same : m__law_same = Lk07.m__law_same := by
  funext n
  induction n with
  | zero => rfl
  | succ n ih =>
    show fnT 3 (b__law_same (m__law_same n)) = fnT 3 (Lk07.b__law_same (Lk07.m__law_same n))
    rw [ih]
    rfl
theorem q_fault : m__law_octet_fault = Lk07.m__law_octet_fault := rfl
theorem q_from : m_from_number = Lk07.m_from_number := rfl
theorem mt00 : mtab 0 0 = some true := rfl
theorem mt11 : mtab 1 1 = some true := rfl
theorem mt01 : mtab 0 1 = some false := rfl
theorem mt10 : mtab 1 0 = some false := rfl
theorem mt22 : mtab 2 2 = some true := rfl
abbrev rowD (os : List Int) : D := .tup (os.map D.int)
theorem szl {n : Nat} (h : n ≤ 16000000) : n ≤ sizeLine := by rw [sizeLine_eq]; omega
theorem szlt {n : Nat} (h : n ≤ 16000000) : n < sizeLine := by rw [sizeLine_eq]; omega
/-! ### _law_same -/
theorem same_int (i : Int) (n : Nat) (h : Hh) : m__law_same (n + 2) [.int i, .int i] h = .ok (.bl true) h := by
  rw [q_same]
  exact Lk07.same_refl 1 _ _ h rfl (fun _ z => by cases z) (fun _ z => by cases z) (by omega)
theorem same_tupD {ds : List D} {n : Nat} (hd : ∀ d ∈ ds, ∀ h, m__law_same n [d, d] h = .ok (.bl true) h) (hl : ds.length ≤ 1000000) (h : Hh) : m__law_same (n + 1) [.tup ds, .tup ds] h = .ok (.bl true) h := by
  have hr : Sm.inR (ds.length : Int) = true := inR_ok (by omega) (by omega)
  have lc := fz_lcM (i := 2) (m := eCall (m__law_same n) [(eB opIx (eV 0) (eV 2)), (eB opIx (eV 1) (eV 2))]) (env := [some (.tup ds), some (.tup ds), none]) (h := h) (fun k : Nat => D.int (k : Int)) (fun _ => D.bl true) (List.range ds.length) (fun j hj acc => by
    have hj' : j < ds.length := by simpa using hj
    obtain ⟨y, ey⟩ : ∃ y, ds[j]? = some y := ⟨_, List.getElem?_eq_getElem hj'⟩
    have a1 : atI ds (j : Int) = some y := by rw [atI_pos (by omega)]; exact ey
    have e := hd y (List.mem_of_getElem? ey) (h ++ [.lst acc])
    simp [a1, e]) (szl (by simp; omega)) (by rw [los_all]; simp)
  rw [← rngD_range] at lc
  have all : bools ((List.range ds.length).map fun _ => D.bl true) = some ((List.range ds.length).map fun _ => true) := bools_map (fun _ => true) _
  show fnT 3 (b__law_same (m__law_same n)) [.tup ds, .tup ds] h = _
  simp [b__law_same, hr, lc, all, trR_ok0]
theorem same_row {os : List Int} (hl : os.length ≤ 1000000) (n : Nat) (h : Hh) : m__law_same (n + 3) [rowD os, rowD os] h = .ok (.bl true) h := same_tupD (fun d hd h' => by
  obtain ⟨i, _, rfl⟩ := List.mem_map.mp hd
  exact same_int i n h') (by simpa using hl) h
theorem same_rows {rs : List (List Int)} (hr : ∀ r ∈ rs, r.length ≤ 1000000) (hl : rs.length ≤ 1000000) (h : Hh) : m__law_same 12 [.tup (rs.map rowD), .tup (rs.map rowD)] h = .ok (.bl true) h := same_tupD (fun d hd h' => by
  obtain ⟨r, hm, rfl⟩ := List.mem_map.mp hd
  exact same_row (hr r hm) 8 h') (by simpa using hl) h
theorem same_pair (p : Int) {y : Str} (hy : tm 1 (.str y) = true) (h : Hh) : m__law_same 12 [.tup [.int p, .str y], .tup [.int p, .str y]] h = .ok (.bl true) h := by
  rw [q_same]
  exact Lk07.same_refl 2 _ 12 h (tm_mkT (fun d hd => by
    simp at hd
    rcases hd with rfl | rfl
    · rfl
    · exact hy) (by simp)) (fun _ z => by cases z) (fun ds z e he es => by
    cases z
    simp at he
    rcases he with rfl | rfl <;> exact ⟨(nomatch ·), (nomatch ·)⟩) (by omega)
theorem same_pair2 (p : Int) {y : Str} (hy : tm 1 (.str y) = true) (h : Hh) : m__law_same 12 [.tup [.str y, .int p], .tup [.str y, .int p]] h = .ok (.bl true) h := by
  rw [q_same]
  exact Lk07.same_refl 2 _ 12 h (tm_mkT (fun d hd => by
    simp at hd
    rcases hd with rfl | rfl
    · exact hy
    · rfl) (by simp)) (fun _ z => by cases z) (fun ds z e he es => by
    cases z
    simp at he
    rcases he with rfl | rfl <;> exact ⟨(nomatch ·), (nomatch ·)⟩) (by omega)
theorem same_str {y : Str} (hy : tm 1 (.str y) = true) (h : Hh) : m__law_same 12 [.str y, .str y] h = .ok (.bl true) h := by
  rw [q_same]
  exact Lk07.same_refl 1 _ 12 h hy (fun _ z => by cases z) (fun _ z => by cases z) (by omega)
theorem shape_tm : tm 1 (.str "shape") = true := by simp only [tm, Bool.and_eq_true]; decide +kernel
theorem octet_tm : tm 1 (.str "octet") = true := by simp only [tm, Bool.and_eq_true]; decide +kernel
theorem long_tm : tm 1 (.str "long") = true := by simp only [tm, Bool.and_eq_true]; decide +kernel
theorem feeds_tm : tm 1 (.str "feeds") = true := by simp only [tm, Bool.and_eq_true]; decide +kernel
theorem undo_tm : tm 1 (.str "undo") = true := by simp only [tm, Bool.and_eq_true]; decide +kernel
/-! ### the fault of a value -/
def flt : D → Option (Int × Str)
  | .tup ds => (fb ds).map fun (k : Nat) => ((k : Int), ("octet" : Str))
  | _ => some (0, "shape")
/-- a value that the law draws -/
def Val (v : D) : Prop := (∃ k, tm k v = true) ∨ (∃ os, v = rowD os ∧ os.length ≤ 60000)
theorem flt_tm {v : D} {p : Int} {y : Str} (e : flt v = some (p, y)) : tm 1 (.str y) = true := by
  unfold flt at e
  split at e
  · cases q : fb _ with
    | none => rw [q] at e; cases e
    | some k => rw [q] at e; cases e; exact octet_tm
  · cases e; exact shape_tm
theorem check_val {v : D} (hv : Val v) (h : Hh) : m_check_octets [v] h = match flt v with
    | none => .ok .non h
    | some (p, y) => .exc 0 [.int p, .str y] h := by
  rw [q_check]
  have tupc : ∀ ds : List D, (∃ k, tms k ds = true) → ds.length ≤ 60000 → Lk07.m_check_octets [.tup ds] h = match flt (.tup ds) with
      | none => .ok .non h
      | some (p, y) => .exc 0 [.int p, .str y] h := fun ds ⟨k, hk⟩ hl => by
    rw [Lk07.check_tup hk hl]
    simp only [flt]
    cases fb ds <;> rfl
  rcases hv with ⟨k, ht⟩ | ⟨os, rfl, hl⟩
  · cases v with
    | tup ds => exact tupc ds ⟨_, (tm_tup ht).1⟩ (by have := (tm_tup ht).2; omega)
    | ref n => exact absurd ht tm_ref
    | _ => simp [Lk07.m_check_octets, Lk07.b_check_octets, flt, trR_exc0]
  · exact tupc _ ⟨1, Lk07.tms_ints os⟩ (by simpa using hl)
theorem fault_val {v : D} (hv : Val v) (h : Hh) : m__law_octet_fault [v] h = .ok (match flt v with
    | none => .non
    | some (p, y) => .tup [.int p, .str y]) h := by
  rw [q_fault]
  have tupc : ∀ ds : List D, (∃ k, tms k ds = true) → ds.length ≤ 60000 → Lk07.m__law_octet_fault [.tup ds] h = .ok (match flt (.tup ds) with
      | none => .non
      | some (p, y) => .tup [.int p, .str y]) h := fun ds ⟨k, hk⟩ hl => by
    rw [Lk07.fault_tup hk hl]
    simp only [flt]
    cases fb ds <;> rfl
  rcases hv with ⟨k, ht⟩ | ⟨os, rfl, hl⟩
  · cases v with
    | tup ds => exact tupc ds ⟨_, (tm_tup ht).1⟩ (by have := (tm_tup ht).2; omega)
    | ref n => exact absurd ht tm_ref
    | _ => simp [Lk07.m__law_octet_fault, Lk07.b__law_octet_fault, flt, trR_ok0]
  · exact tupc _ ⟨1, Lk07.tms_ints os⟩ (by simpa using hl)
theorem flt_oc {os : List Int} (h : Oc os) : flt (rowD os) = none := by
  simp only [flt]
  rw [Lk07.fb_oc h]
  rfl
theorem flt_none {v : D} (e : flt v = none) (hv : Val v) : ∃ os, Oc os ∧ v = rowD os ∧ os.length ≤ 60000 := by
  unfold flt at e
  split at e
  · rename_i ds
    cases q : fb ds with
    | some k => rw [q] at e; cases e
    | none =>
      obtain ⟨os, h1, rfl⟩ := Lk07.oc_of (Lk07.fb_none q)
      refine ⟨os, h1, rfl, ?_⟩
      rcases hv with ⟨k, ht⟩ | ⟨os', e', hl⟩
      · have := (tm_tup ht).2
        rw [List.length_map] at this
        omega
      · have := congrArg (fun d => match d with | D.tup ds => ds.length | _ => 0) e'
        simp at this
        omega
  · cases e
/-! ### how a stream is cut -/
inductive Par : List Int → List (List Int) → List Int → Bool → Prop
  | none : Par [] [] [] false
  | one {a : Int} : Par [a] [] [a] false
  | long {a b : Int} {t : List Int} : 8000 < a * 256 + b → Par (a :: b :: t) [] (a :: b :: t) true
  | wait {a b : Int} {t : List Int} : a * 256 + b ≤ 8000 → (t.length : Int) < a * 256 + b → Par (a :: b :: t) [] (a :: b :: t) false
  | row {a b : Int} {x t : List Int} {rs : List (List Int)} {r : List Int} {e : Bool} : a * 256 + b ≤ 8000 → (x.length : Int) = a * 256 + b → Par t rs r e → Par (a :: b :: (x ++ t)) (x :: rs) r e
theorem Par.app {p : List Int} {rs2 : List (List Int)} {r2 : List Int} {e : Bool} : ∀ {os : List Int} {rs : List (List Int)} {r : List Int}, Par os rs r false → Par (r ++ p) rs2 r2 e → Par (os ++ p) (rs ++ rs2) r2 e
  | _, _, _, .none, q => q
  | _, _, _, .one, q => q
  | _, _, _, .wait _ _, q => q
  | _, _, _, .row (a := a) (b := b) (x := x) (t := t) h1 h2 h3, q => by
    have ih := Par.app h3 q
    have : (a :: b :: (x ++ t)) ++ p = a :: b :: (x ++ (t ++ p)) := by simp
    rw [this]
    exact .row h1 h2 ih
theorem Par.len : ∀ {os : List Int} {rs : List (List Int)} {r : List Int} {e : Bool}, Par os rs r e → r.length + 2 * rs.length ≤ os.length
  | _, _, _, _, .none => by simp
  | _, _, _, _, .one => by simp
  | _, _, _, _, .long _ => by simp
  | _, _, _, _, .wait _ _ => by simp
  | _, _, _, _, .row _ _ h => by
    have := h.len
    simp
    omega
theorem Par.sub : ∀ {os : List Int} {rs : List (List Int)} {r : List Int} {e : Bool}, Par os rs r e → ∀ x ∈ rs, x.length ≤ os.length
  | _, _, _, _, .row (x := x) (t := t) _ _ h, y, hy => by
    rcases List.mem_cons.mp hy with rfl | hy
    · simp; omega
    · have := h.sub y hy
      simp
      omega
  | _, _, _, _, .none, _, hy => by simp at hy
  | _, _, _, _, .one, _, hy => by simp at hy
  | _, _, _, _, .long _, _, hy => by simp at hy
  | _, _, _, _, .wait _ _, _, hy => by simp at hy
theorem Par.ex : ∀ (n : Nat) (os : List Int), os.length ≤ n → Oc os → ∃ rs r e, Par os rs r e
  | _, [], _, _ => ⟨_, _, _, .none⟩
  | _, [a], _, _ => ⟨_, _, _, .one⟩
  | 0, _ :: _ :: _, h, _ => by simp at h
  | n + 1, a :: b :: t, h, ho => by
    have ha := ho a (by simp)
    have hb := ho b (by simp)
    by_cases h1 : 8000 < a * 256 + b
    · exact ⟨_, _, _, .long h1⟩
    · by_cases h2 : (t.length : Int) < a * 256 + b
      · exact ⟨_, _, _, .wait (by omega) h2⟩
      · obtain ⟨rs, r, e, q⟩ := Par.ex n (t.drop (a * 256 + b).toNat) (by simp at h ⊢; omega) (fun x hx => ho x (by simp [List.mem_of_mem_drop hx]))
        have e1 : t = t.take (a * 256 + b).toNat ++ t.drop (a * 256 + b).toNat := (List.take_append_drop _ _).symm
        refine ⟨t.take (a * 256 + b).toNat :: rs, r, e, ?_⟩
        have := Par.row (a := a) (b := b) (x := t.take (a * 256 + b).toNat) (t := t.drop (a * 256 + b).toNat) (by omega) (by rw [List.length_take]; omega) q
        rw [← e1] at this
        exact this
theorem Par.uniq : ∀ {os : List Int} {rs rs' : List (List Int)} {r r' : List Int} {e e' : Bool}, Par os rs r e → Par os rs' r' e' → rs = rs' ∧ r = r' ∧ e = e' := by
  intro os rs rs' r r' e e' h
  induction h generalizing rs' r' e' with
  | none => intro q; cases q; exact ⟨rfl, rfl, rfl⟩
  | one => intro q; cases q; exact ⟨rfl, rfl, rfl⟩
  | long h1 =>
    intro q
    cases q with
    | long _ => exact ⟨rfl, rfl, rfl⟩
    | wait h2 _ => omega
    | row h2 _ _ => omega
  | wait h1 h2 =>
    intro q
    cases q with
    | long h3 => omega
    | wait _ _ => exact ⟨rfl, rfl, rfl⟩
    | row h3 h4 _ => simp at h2; omega
  | @row a b x t rs r e h1 h2 h3 ih =>
    intro q
    generalize hL : a :: b :: (x ++ t) = L at q
    cases q with
    | none => cases hL
    | one => simp at hL
    | long h4 =>
      simp at hL
      omega
    | wait h4 h5 =>
      simp at hL
      obtain ⟨rfl, rfl, rfl⟩ := hL
      simp at h5
      omega
    | @row a' b' x' t' rs' r' e' h4 h5 h6 =>
      simp at hL
      obtain ⟨rfl, rfl, hL⟩ := hL
      have hx : x.length = x'.length := by omega
      obtain ⟨rfl, rfl⟩ := List.append_inj hL hx
      obtain ⟨rfl, rfl, rfl⟩ := ih h6
      exact ⟨rfl, rfl, rfl⟩
end Lk09
/-! k09: octets joined, streams parsed -/
namespace Lk09
open PySem L2 PyProof.Rows Sm
open Lk07 (Oc num oc fb)
theorem trS_top {h g : Hh} {a a' : O} {env : Ev} (he : ∀ d, some d ∈ env → lo (h.length + 1) d = true) (ha : loO (h.length + 1) a' = true) : trS (h ++ [a]) (.nx env (h ++ [a'] ++ g)) = .nx env (h ++ [a']) := by
  have k := Kq_set (h := h ++ [a]) (n := (h ++ [a]).length) (k := h.length) (o := a') (by simpa using ha)
  rw [hp_set1] at k
  exact trS_cut (by simp) (by simpa using he) k
theorem lo_row (n : Nat) (os : List Int) : lo n (rowD os) = true := by
  rw [lo_tup]
  exact los_ints n os
theorem los_rows (n : Nat) (rs : List (List Int)) : los n (rs.map rowD) = true := by
  rw [los_all, List.all_eq_true]
  intro d hd
  obtain ⟨r, _, rfl⟩ := List.mem_map.mp hd
  exact lo_row n r
section
variable {h : Hh}
theorem join_loop {f : Nat} {o : O} (hf : h[f]? = some o) : ∀ (ps : List (List Int)) (acc : List Int) (e2 : Option D), acc.length + ps.flatten.length ≤ 16000000 → ∃ f2,
    forL (gtName 2) b__law_joined_1 (some (f, o)) (ps.map rowD) [some (.ref f), some (.ref h.length), e2] (h ++ [.lst (acc.map D.int)]) = .nx [some (.ref f), some (.ref h.length), f2] (h ++ [.lst ((acc ++ ps.flatten).map D.int)])
  | [], acc, e2, _ => ⟨e2, by
    have hf' : (h ++ [O.lst (acc.map D.int)])[f]? = some o := by rw [List.getElem?_append_left (List.getElem?_eq_some_iff.mp hf).1]; exact hf
    rw [List.flatten_nil, List.append_nil]
    exact forL_nil hf'⟩
  | p :: ps, acc, e2, hl => by
    have hn := (List.getElem?_eq_some_iff.mp hf).1
    have hf' : (h ++ [O.lst (acc.map D.int)])[f]? = some o := by rw [List.getElem?_append_left hn]; exact hf
    rw [List.flatten_cons, List.length_append] at hl
    have run : sExpr (eMt opExtend (eV 1) [(eN opList [(eV 2)])]) [some (.ref f), some (.ref h.length), some (.tup (p.map D.int))] (h ++ [.lst (acc.map D.int)]) = .nx [some (.ref f), some (.ref h.length), some (.tup (p.map D.int))] (h ++ [.lst ((acc ++ p).map D.int)] ++ [.lst (p.map D.int)]) := by
      have sz : (acc.map D.int).length + (p.map D.int).length ≤ sizeLine := szl (by simp; omega)
      rw [List.map_append]
      generalize acc.map D.int = A at sz ⊢
      generalize p.map D.int = P at sz ⊢
      have g2 : (h ++ [O.lst A, O.lst P])[h.length]? = some (.lst A) := by simp
      have g3 : (h ++ [O.lst A, O.lst P])[h.length + 1]? = some (.lst P) := by simp
      have g4 : (h ++ [O.lst A, O.lst P]).set h.length (.lst (A ++ P)) = h ++ [.lst (A ++ P), .lst P] := by simp
      simp [g2, g3, g4, sz]
    have t : b__law_joined_1 [some (.ref f), some (.ref h.length), some (rowD p)] (h ++ [.lst (acc.map D.int)]) = .nx [some (.ref f), some (.ref h.length), some (rowD p)] (h ++ [.lst ((acc ++ p).map D.int)]) := by
      unfold b__law_joined_1
      rw [sTr_eq, run]
      refine trS_top (fun d hd => ?_) (by show los _ _ = true; exact los_ints _ _)
      simp only [List.mem_cons, List.not_mem_nil, or_false, Option.some.injEq] at hd
      rcases hd with z | z | z <;> subst z
      · simp; omega
      · simp
      · exact lo_row _ _
    obtain ⟨f2, ih⟩ := join_loop hf ps (acc ++ p) (some (rowD p)) (by rw [List.length_append]; omega)
    refine ⟨f2, ?_⟩
    rw [List.map_cons, forL_nx (gd := some (f, o)) (e1 := rfl) hf' t, ih, List.flatten_cons, List.append_assoc]
theorem joined_spec {f : Nat} {ps : List (List Int)} (hf : h[f]? = some (.lst (ps.map rowD))) (hl : ps.flatten.length ≤ 16000000) : m__law_joined [.ref f] h = .ok (.fls (ps.flatten.map D.int)) h := by
  obtain ⟨f2, lp⟩ := join_loop hf ps [] none (by simpa using hl)
  rw [List.nil_append] at lp
  have hn := (List.getElem?_eq_some_iff.mp hf).1
  have hf' : (h ++ [O.lst []])[f]? = some (.lst (ps.map rowD)) := by rw [List.getElem?_append_left hn]; exact hf
  have hr := los_ints h.length ps.flatten
  generalize ps.flatten.map D.int = L at lp hr ⊢
  rw [List.map_nil] at lp
  have ol := fz1_oldA (h := h) (g := [.lst L]) (ds := L) (n := h.length) [] (by simp)
  have main : b__law_joined [some (.ref f), none, none] h = .rt (.fls L) (h ++ [.dead]) := by
    unfold b__law_joined
    rw [go_nx (e' := [some (.ref f), some (.ref h.length), none]) (h' := h ++ [.lst []]) (by simp)]
    rw [go_nx (e' := [some (.ref f), some (.ref h.length), f2]) (h' := h ++ [.lst L]) (by
      generalize b__law_joined_1 = B at lp ⊢
      generalize ps.map rowD = R at lp hf' ⊢
      simp [hf']
      exact lp)]
    simp [ol]
  show trR h (fnEnd (b__law_joined [some (.ref f), none, none] h)) = _
  rw [main]
  show trR h (.ok (.fls L) (h ++ [.dead])) = _
  rw [trR_app, if_pos]
  rw [lo_fls]
  exact hr
/-! ### places in a stream -/
theorem at_a {pre t : List Int} {a b : Int} : atI ((pre ++ a :: b :: t).map D.int) ((pre.length : Nat) : Int) = some (.int a) := by
  rw [atI_pos (by omega)]
  show ((pre ++ a :: b :: t).map D.int)[pre.length]? = _
  simp
theorem at_b {pre t : List Int} {a b : Int} : atI ((pre ++ a :: b :: t).map D.int) (((pre.length : Nat) : Int) + 1) = some (.int b) := by
  rw [atI_pos (by omega), show (((pre.length : Nat) : Int) + 1).toNat = pre.length + 1 by omega]
  rw [List.getElem?_map, List.getElem?_append_right (by omega)]
  simp
theorem cut_x {pre x t : List Int} {a b : Int} (hx : (x.length : Int) = a * 256 + b) : cutD ((pre ++ a :: b :: (x ++ t)).map D.int) (some (((pre.length : Nat) : Int) + 2)) (some (((pre.length : Nat) : Int) + 2 + (a * 256 + b))) = x.map D.int := by
  rw [cutD_mid (by omega) (by omega), ← hx, show (((pre.length : Nat) : Int) + 2 + (x.length : Int)).toNat = pre.length + 2 + x.length by omega, show (((pre.length : Nat) : Int) + 2).toNat = pre.length + 2 by omega]
  rw [← List.map_take, ← List.map_drop]
  congr 1
  have e1 : pre ++ a :: b :: (x ++ t) = (pre ++ [a, b]) ++ (x ++ t) := by simp
  have e2 : (pre ++ [a, b]).length = pre.length + 2 := by simp
  rw [e1, ← e2, List.take_length_add_append]
  simp
/-! ### _law_parsed -/
theorem forL_bk {g : TgM} {body : S} {gd : Option (Nat × O)} {x : D} {xs : List D} {env env1 e' : Ev} {h h' : Hh} (hg : gdOk gd h) (e1 : g x h env = some env1) (e2 : body env1 h = .bk e' h') : forL g body gd (x :: xs) env h = .nx e' h' := by
  rw [forL, if_pos hg, e1]
  dsimp only
  rw [e2]
theorem parse_loop {os : List Int} (hos : os.length ≤ 1000000) : ∀ {rem : List Int} {rs : List (List Int)} {r : List Int} {e : Bool}, Par rem rs r e → ∀ (pre : List Int) (xs acc : List D) (e3 e4 : Option D), os = pre ++ rem → (∀ a ∈ os, 0 ≤ a ∧ a ≤ 255) → rs.length ≤ xs.length → (e = true → rs.length < xs.length) → acc.length + rs.length ≤ 1000000 → los h.length acc = true →
    (e = false → ∃ f3 f4, forL (gtName 3) b__law_parsed_1 none xs [some (.fls (os.map D.int)), some (.ref h.length), some (.int (pre.length : Int)), e3, e4] (h ++ [.lst acc]) = .nx [some (.fls (os.map D.int)), some (.ref h.length), some (.int ((os.length : Int) - (r.length : Int))), f3, f4] (h ++ [.lst (acc ++ rs.map rowD)])) ∧
    (e = true → forL (gtName 3) b__law_parsed_1 none xs [some (.fls (os.map D.int)), some (.ref h.length), some (.int (pre.length : Int)), e3, e4] (h ++ [.lst acc]) = .rt (.fls [.fls (acc ++ rs.map rowD), .int ((os.length : Int) - (r.length : Int)), .int ((os.length : Int) - (r.length : Int) + 1)]) (h ++ [.dead])) := by
  intro rem rs r e hp
  induction hp with
  | none =>
    intro pre xs acc e3 e4 ho hv h1 h2 h3 h4
    refine ⟨fun _ => ?_, fun z => absurd z (by simp)⟩
    have hl : (os.length : Int) = (pre.length : Int) := by rw [ho]; simp
    have gt : ¬ (pre.length : Int) + 2 ≤ (os.length : Int) := by omega
    have ll : (((os.map D.int).length : Nat) : Int) = (os.length : Int) := by simp
    cases xs with
    | nil => exact ⟨e3, e4, by rw [hl]; simp [forL_nil (gd := none) trivial]⟩
    | cons x xs =>
      refine ⟨some x, e4, ?_⟩
      have t : b__law_parsed_1 [some (.fls (os.map D.int)), some (.ref h.length), some (.int (pre.length : Int)), some x, e4] (h ++ [.lst acc]) = .bk [some (.fls (os.map D.int)), some (.ref h.length), some (.int (pre.length : Int)), some x, e4] (h ++ [.lst acc]) := by
        unfold b__law_parsed_1
        refine go_bk ?_
        generalize os.map D.int = L at ll ⊢
        have g2 : (L.length : Int) < (pre.length : Int) + 2 := by omega
        simp [g2]
      rw [forL_bk (gd := none) (e1 := rfl) trivial t, hl]
      simp
  | @one a =>
    intro pre xs acc e3 e4 ho hv h1 h2 h3 h4
    refine ⟨fun _ => ?_, fun z => absurd z (by simp)⟩
    have hl : (os.length : Int) = (pre.length : Int) + 1 := by rw [ho]; simp
    have ll : (((os.map D.int).length : Nat) : Int) = (os.length : Int) := by simp
    have e0 : (os.length : Int) - (([a] : List Int).length : Int) = (pre.length : Int) := by simp; omega
    rw [e0]
    cases xs with
    | nil => exact ⟨e3, e4, by simp [forL_nil (gd := none) trivial]⟩
    | cons x xs =>
      refine ⟨some x, e4, ?_⟩
      have t : b__law_parsed_1 [some (.fls (os.map D.int)), some (.ref h.length), some (.int (pre.length : Int)), some x, e4] (h ++ [.lst acc]) = .bk [some (.fls (os.map D.int)), some (.ref h.length), some (.int (pre.length : Int)), some x, e4] (h ++ [.lst acc]) := by
        unfold b__law_parsed_1
        refine go_bk ?_
        generalize os.map D.int = L at ll ⊢
        have g2 : (L.length : Int) < (pre.length : Int) + 2 := by omega
        simp [g2]
      rw [forL_bk (gd := none) (e1 := rfl) trivial t]
      simp
  | @long a b t hlong =>
    intro pre xs acc e3 e4 ho hv h1 h2 h3 h4
    refine ⟨fun z => absurd z (by simp), fun _ => ?_⟩
    have hl : (os.length : Int) = (pre.length : Int) + 2 + (t.length : Int) := by rw [ho]; simp; omega
    have ll : (((os.map D.int).length : Nat) : Int) = (os.length : Int) := by simp
    have e0 : (os.length : Int) - ((a :: b :: t).length : Int) = (pre.length : Int) := by simp; omega
    have aa : atI (os.map D.int) ((pre.length : Nat) : Int) = some (.int a) := by rw [ho]; exact at_a
    have ab : atI (os.map D.int) (((pre.length : Nat) : Int) + 1) = some (.int b) := by rw [ho]; exact at_b
    have mo : mulOk a 256 = true := mulOk_r (by decide) (by decide)
    rw [e0]
    cases xs with
    | nil => exact absurd (h2 rfl) (by simp)
    | cons x xs =>
      have ol := fz1_oldA (h := h) (g := [.lst acc]) (ds := acc) (n := h.length) [] (by simp)
      have t : b__law_parsed_1 [some (.fls (os.map D.int)), some (.ref h.length), some (.int (pre.length : Int)), some x, e4] (h ++ [.lst acc]) = .rt (.fls [.fls acc, .int (pre.length : Int), .int ((pre.length : Int) + 1)]) (h ++ [.dead]) := by
        unfold b__law_parsed_1
        generalize os.map D.int = L at ll aa ab ⊢
        have g2 : ¬ (L.length : Int) < (pre.length : Int) + 2 := by omega
        rw [go_nx (e' := [some (.fls L), some (.ref h.length), some (.int (pre.length : Int)), some x, e4]) (h' := h ++ [.lst acc]) (by simp [g2])]
        rw [go_nx (e' := [some (.fls L), some (.ref h.length), some (.int (pre.length : Int)), some x, some (.int (a * 256 + b))]) (h' := h ++ [.lst acc]) (by simp [aa, ab, mo])]
        refine go_rt ?_
        simp [hlong, ol]
      rw [forL_rt (gd := none) (e1 := rfl) trivial t]
      simp
  | @wait a b t h1' h2' =>
    intro pre xs acc e3 e4 ho hv h1 h2 h3 h4
    refine ⟨fun _ => ?_, fun z => absurd z (by simp)⟩
    have hl : (os.length : Int) = (pre.length : Int) + 2 + (t.length : Int) := by rw [ho]; simp; omega
    have ll : (((os.map D.int).length : Nat) : Int) = (os.length : Int) := by simp
    have e0 : (os.length : Int) - ((a :: b :: t).length : Int) = (pre.length : Int) := by simp; omega
    have aa : atI (os.map D.int) ((pre.length : Nat) : Int) = some (.int a) := by rw [ho]; exact at_a
    have ab : atI (os.map D.int) (((pre.length : Nat) : Int) + 1) = some (.int b) := by rw [ho]; exact at_b
    have mo : mulOk a 256 = true := mulOk_r (by decide) (by decide)
    rw [e0]
    cases xs with
    | nil => exact ⟨e3, e4, by simp [forL_nil (gd := none) trivial]⟩
    | cons x xs =>
      refine ⟨some x, some (.int (a * 256 + b)), ?_⟩
      have t : b__law_parsed_1 [some (.fls (os.map D.int)), some (.ref h.length), some (.int (pre.length : Int)), some x, e4] (h ++ [.lst acc]) = .bk [some (.fls (os.map D.int)), some (.ref h.length), some (.int (pre.length : Int)), some x, some (.int (a * 256 + b))] (h ++ [.lst acc]) := by
        unfold b__law_parsed_1
        generalize os.map D.int = L at ll aa ab ⊢
        have g2 : ¬ (L.length : Int) < (pre.length : Int) + 2 := by omega
        have g3 : ¬ 8000 < a * 256 + b := by omega
        have g4 : (L.length : Int) < (pre.length : Int) + 2 + (a * 256 + b) := by omega
        rw [go_nx (e' := [some (.fls L), some (.ref h.length), some (.int (pre.length : Int)), some x, e4]) (h' := h ++ [.lst acc]) (by simp [g2])]
        rw [go_nx (e' := [some (.fls L), some (.ref h.length), some (.int (pre.length : Int)), some x, some (.int (a * 256 + b))]) (h' := h ++ [.lst acc]) (by simp [aa, ab, mo])]
        generalize a * 256 + b = sz at *
        rw [go_nx (e' := [some (.fls L), some (.ref h.length), some (.int (pre.length : Int)), some x, some (.int sz)]) (h' := h ++ [.lst acc]) (by simp [g3])]
        refine go_bk ?_
        simp [g4]
      rw [forL_bk (gd := none) (e1 := rfl) trivial t]
      simp
  | @row a b x t rs r e h1' h2' h3' ih =>
    intro pre xs acc e3 e4 ho hv h1 h2 h3 h4
    rw [List.length_cons] at h1 h2 h3
    have hl : (os.length : Int) = (pre.length : Int) + 2 + (x.length : Int) + (t.length : Int) := by rw [ho]; simp; omega
    have ll : (((os.map D.int).length : Nat) : Int) = (os.length : Int) := by simp
    have aa : atI (os.map D.int) ((pre.length : Nat) : Int) = some (.int a) := by rw [ho]; exact at_a
    have ab : atI (os.map D.int) (((pre.length : Nat) : Int) + 1) = some (.int b) := by rw [ho]; exact at_b
    have ac : cutD (os.map D.int) (some (((pre.length : Nat) : Int) + 2)) (some (((pre.length : Nat) : Int) + 2 + (a * 256 + b))) = x.map D.int := by rw [ho]; exact cut_x h2'
    have mo : mulOk a 256 = true := mulOk_r (by decide) (by decide)
    have sl : acc.length < sizeLine := szlt (by omega)
    cases xs with
    | nil => simp at h1
    | cons y xs =>
      rw [List.length_cons] at h1 h2
      have tn : b__law_parsed_1 [some (.fls (os.map D.int)), some (.ref h.length), some (.int (pre.length : Int)), some y, e4] (h ++ [.lst acc]) = .nx [some (.fls (os.map D.int)), some (.ref h.length), some (.int (((pre ++ a :: b :: x).length : Nat) : Int)), some y, some (.int (a * 256 + b))] (h ++ [.lst (acc ++ [rowD x])]) := by
        have el : (((pre ++ a :: b :: x).length : Nat) : Int) = (pre.length : Int) + 2 + (a * 256 + b) := by simp; omega
        rw [el]
        unfold b__law_parsed_1
        show _ = SR.nx _ (h ++ [.lst (acc ++ [.tup (x.map D.int)])])
        generalize os.map D.int = L at ll aa ab ac ⊢
        have g2 : ¬ (L.length : Int) < (pre.length : Int) + 2 := by omega
        have g3 : ¬ 8000 < a * 256 + b := by omega
        have g4 : ¬ (L.length : Int) < (pre.length : Int) + 2 + (a * 256 + b) := by omega
        rw [go_nx (e' := [some (.fls L), some (.ref h.length), some (.int (pre.length : Int)), some y, e4]) (h' := h ++ [.lst acc]) (by simp [g2])]
        rw [go_nx (e' := [some (.fls L), some (.ref h.length), some (.int (pre.length : Int)), some y, some (.int (a * 256 + b))]) (h' := h ++ [.lst acc]) (by simp [aa, ab, mo])]
        generalize a * 256 + b = sz at *
        rw [go_nx (e' := [some (.fls L), some (.ref h.length), some (.int (pre.length : Int)), some y, some (.int sz)]) (h' := h ++ [.lst acc]) (by simp [g3])]
        rw [go_nx (e' := [some (.fls L), some (.ref h.length), some (.int (pre.length : Int)), some y, some (.int sz)]) (h' := h ++ [.lst acc]) (by simp [g4])]
        generalize x.map D.int = X at ac ⊢
        rw [go_nx (e' := [some (.fls L), some (.ref h.length), some (.int (pre.length : Int)), some y, some (.int sz)]) (h' := h ++ [.lst (acc ++ [.tup X])]) (by simp [ac, sl])]
        simp
      have i2 := ih (pre ++ a :: b :: x) xs (acc ++ [rowD x]) (some y) (some (.int (a * 256 + b))) (by rw [ho]; simp) hv (by omega) (fun z => by have := h2 z; omega) (by simp; omega) (by rw [los_app, h4]; simp only [los_cons, los_nil, Bool.and_true, Bool.true_and]; exact lo_row _ _)
      rw [forL_nx (gd := none) (e1 := rfl) trivial tn]
      have ec : acc ++ [rowD x] ++ rs.map rowD = acc ++ (x :: rs).map rowD := by simp
      rw [ec] at i2
      exact i2
end
end Lk09
/-! k09: _law_parsed, feed, undo, waiting, log -/
namespace Lk09
open PySem L2 PyProof.Rows Sm
open Lk07 (Oc num oc fb)
section
variable {h : Hh}
theorem parsed_spec {os : List Int} {rs : List (List Int)} {r : List Int} {e : Bool} (hp : Par os rs r e) (ho : Oc os) (hl : os.length ≤ 1000000) :
    m__law_parsed [.fls (os.map D.int)] h = .ok (.fls [.fls (rs.map rowD), .int ((os.length : Int) - (r.length : Int)), .int (if e = true then (os.length : Int) - (r.length : Int) + 1 else -1)]) h := by
  have pl := hp.len
  have hr : Sm.inR (os.length : Int) = true := inR_ok (by omega) (by omega)
  have rl : e = true → 2 ≤ r.length := fun z => by
    have : ∀ {os : List Int} {rs : List (List Int)} {r : List Int} {e : Bool}, Par os rs r e → e = true → 2 ≤ r.length := fun q => by
      induction q with
      | none => intro z; cases z
      | one => intro z; cases z
      | long _ => intro _; simp
      | wait _ _ => intro z; cases z
      | row _ _ _ ih => exact ih
    exact this hp z
  have lp := parse_loop (h := h) hl hp [] (rngD 0 os.length) [] none none rfl ho (by simp [rngD]; omega) (fun z => by have := rl z; simp [rngD]; omega) (by simp; omega) rfl
  rw [List.nil_append] at lp
  have ll : (((os.map D.int).length : Nat) : Int) = (os.length : Int) := by simp
  have lo1 := los_rows h.length rs
  generalize rs.map rowD = R at lp lo1 ⊢
  generalize os.map D.int = L at lp ll ⊢
  cases e with
  | true =>
    have lp := lp.2 rfl
    rw [if_pos rfl]
    have main : b__law_parsed [some (.fls L), none, none, none, none] h = .rt (.fls [.fls R, .int ((os.length : Int) - (r.length : Int)), .int ((os.length : Int) - (r.length : Int) + 1)]) (h ++ [.dead]) := by
      unfold b__law_parsed
      rw [go_nx (e' := [some (.fls L), some (.ref h.length), none, none, none]) (h' := h ++ [.lst []]) (by simp)]
      rw [go_nx (e' := [some (.fls L), some (.ref h.length), some (.int 0), none, none]) (h' := h ++ [.lst []]) (by simp)]
      refine go_rt ?_
      generalize b__law_parsed_1 = B at lp ⊢
      simp [ll, hr]
      exact lp
    show trR h (fnEnd (b__law_parsed [some (.fls L), none, none, none, none] h)) = _
    rw [main]
    show trR h (.ok _ (h ++ [.dead])) = _
    rw [trR_app, if_pos]
    simp [lo1]
  | false =>
    obtain ⟨f3, f4, lp⟩ := lp.1 rfl
    rw [if_neg (by simp)]
    have ol := fz1_oldA (h := h) (g := [.lst R]) (ds := R) (n := h.length) [] (by simp)
    have main : b__law_parsed [some (.fls L), none, none, none, none] h = .rt (.fls [.fls R, .int ((os.length : Int) - (r.length : Int)), .int (-1)]) (h ++ [.dead]) := by
      unfold b__law_parsed
      rw [go_nx (e' := [some (.fls L), some (.ref h.length), none, none, none]) (h' := h ++ [.lst []]) (by simp)]
      rw [go_nx (e' := [some (.fls L), some (.ref h.length), some (.int 0), none, none]) (h' := h ++ [.lst []]) (by simp)]
      generalize (os.length : Int) - (r.length : Int) = Q at lp ⊢
      rw [go_nx (e' := [some (.fls L), some (.ref h.length), some (.int Q), f3, f4]) (h' := h ++ [.lst R]) (by
        generalize b__law_parsed_1 = B at lp ⊢
        simp [ll, hr]
        exact lp)]
      simp [ol]
    show trR h (fnEnd (b__law_parsed [some (.fls L), none, none, none, none] h)) = _
    rw [main]
    show trR h (.ok _ (h ++ [.dead])) = _
    rw [trR_app, if_pos]
    simp [lo1]
/-! ### feed -/
theorem whileF_b {t : MT} {body : S} {n : Nat} {env e' : Ev} {h h1 h' : Hh} (e1 : t env h = .ok true h1) (e2 : body env h1 = .bk e' h') : whileF t body (n + 1) env h = .nx e' h' := by
  rw [whileF, e1]
  show (match body env h1 with
    | .nx e' h' => whileF t body n e' h'
    | .ct e' h' => whileF t body n e' h'
    | .bk e' h' => .nx e' h'
    | r => r) = _
  rw [e2]
noncomputable abbrev wT : MT := tBl (eB opLeX (eB opAdd (eV 5) (eC (.int 2))) (eN opLen [(eV 3)]))
theorem feed_loop {os : List Int} (hos : os.length ≤ 1000000) {s0 s1 : Option D} {sh : Int} : ∀ {rem : List Int} {rs : List (List Int)} {r : List Int} {e : Bool}, Par rem rs r e → ∀ (pre : List Int) (k : Nat) (acc : List D) (e6 : Option D), os = pre ++ rem → (∀ a ∈ os, 0 ≤ a ∧ a ≤ 255) → rs.length < k → acc.length + rs.length ≤ 1000000 →
    (e = false → ∃ f6, whileF wT b_StreamReader_feed_1 k [s0, s1, some (.int sh), some (.tup (os.map D.int)), some (.ref h.length), some (.int (pre.length : Int)), e6] (h ++ [.lst acc]) = .nx [s0, s1, some (.int sh), some (.tup (os.map D.int)), some (.ref h.length), some (.int ((os.length : Int) - (r.length : Int))), f6] (h ++ [.lst (acc ++ rs.map rowD)])) ∧
    (e = true → ∃ E, whileF wT b_StreamReader_feed_1 k [s0, s1, some (.int sh), some (.tup (os.map D.int)), some (.ref h.length), some (.int (pre.length : Int)), e6] (h ++ [.lst acc]) = .exc 0 [.int ((os.length : Int) - (r.length : Int) + 1 - sh), .str "long"] E (h ++ [.lst (acc ++ rs.map rowD)])) := by
  intro rem rs r e hp
  induction hp with
  | none =>
    intro pre k acc e6 ho hv h1 h2
    refine ⟨fun _ => ⟨e6, ?_⟩, fun z => absurd z (by simp)⟩
    obtain ⟨k, rfl⟩ : ∃ k', k = k' + 1 := ⟨k - 1, by omega⟩
    have hl : (os.length : Int) = (pre.length : Int) := by rw [ho]; simp
    have ll : (((os.map D.int).length : Nat) : Int) = (os.length : Int) := by simp
    have e0 : (os.length : Int) - (([] : List Int).length : Int) = (pre.length : Int) := by simp; omega
    rw [e0]
    rw [whileF_f (h' := h ++ [.lst acc])]
    · simp
    · generalize os.map D.int = L at ll ⊢
      have g2 : ¬ (pre.length : Int) + 2 ≤ (L.length : Int) := by omega
      simp [g2]
  | @one a =>
    intro pre k acc e6 ho hv h1 h2
    refine ⟨fun _ => ⟨e6, ?_⟩, fun z => absurd z (by simp)⟩
    obtain ⟨k, rfl⟩ : ∃ k', k = k' + 1 := ⟨k - 1, by omega⟩
    have hl : (os.length : Int) = (pre.length : Int) + 1 := by rw [ho]; simp
    have ll : (((os.map D.int).length : Nat) : Int) = (os.length : Int) := by simp
    have e0 : (os.length : Int) - (([a] : List Int).length : Int) = (pre.length : Int) := by simp; omega
    rw [e0]
    rw [whileF_f (h' := h ++ [.lst acc])]
    · simp
    · generalize os.map D.int = L at ll ⊢
      have g2 : ¬ (pre.length : Int) + 2 ≤ (L.length : Int) := by omega
      simp [g2]
  | @long a b t hlong =>
    intro pre k acc e6 ho hv h1 h2
    refine ⟨fun z => absurd z (by simp), fun _ => ?_⟩
    obtain ⟨k, rfl⟩ : ∃ k', k = k' + 1 := ⟨k - 1, by omega⟩
    have hl : (os.length : Int) = (pre.length : Int) + 2 + (t.length : Int) := by rw [ho]; simp; omega
    have ll : (((os.map D.int).length : Nat) : Int) = (os.length : Int) := by simp
    have e0 : (os.length : Int) - ((a :: b :: t).length : Int) = (pre.length : Int) := by simp; omega
    have aa : atI (os.map D.int) ((pre.length : Nat) : Int) = some (.int a) := by rw [ho]; exact at_a
    have ab : atI (os.map D.int) (((pre.length : Nat) : Int) + 1) = some (.int b) := by rw [ho]; exact at_b
    have mo : mulOk a 256 = true := mulOk_r (by decide) (by decide)
    rw [e0]
    generalize os.map D.int = L at ll aa ab ⊢
    have g2 : (pre.length : Int) + 2 ≤ (L.length : Int) := by omega
    refine ⟨[s0, s1, some (.int sh), some (.tup L), some (.ref h.length), some (.int (pre.length : Int)), some (.int (a * 256 + b))], ?_⟩
    rw [whileF_x (h1 := h ++ [.lst acc]) (by simp [g2]) (c := 0) (fs := [.int ((pre.length : Int) + 1 - sh), .str "long"]) (e' := [s0, s1, some (.int sh), some (.tup L), some (.ref h.length), some (.int (pre.length : Int)), some (.int (a * 256 + b))]) (h' := h ++ [.lst acc]) (by
      unfold b_StreamReader_feed_1
      rw [go_nx (e' := [s0, s1, some (.int sh), some (.tup L), some (.ref h.length), some (.int (pre.length : Int)), some (.int (a * 256 + b))]) (h' := h ++ [.lst acc]) (by simp [aa, ab, mo])]
      refine go_exc ?_
      simp [hlong])]
    simp
  | @wait a b t h1' h2' =>
    intro pre k acc e6 ho hv h1 h2
    refine ⟨fun _ => ⟨some (.int (a * 256 + b)), ?_⟩, fun z => absurd z (by simp)⟩
    obtain ⟨k, rfl⟩ : ∃ k', k = k' + 1 := ⟨k - 1, by omega⟩
    have hl : (os.length : Int) = (pre.length : Int) + 2 + (t.length : Int) := by rw [ho]; simp; omega
    have ll : (((os.map D.int).length : Nat) : Int) = (os.length : Int) := by simp
    have e0 : (os.length : Int) - ((a :: b :: t).length : Int) = (pre.length : Int) := by simp; omega
    have aa : atI (os.map D.int) ((pre.length : Nat) : Int) = some (.int a) := by rw [ho]; exact at_a
    have ab : atI (os.map D.int) (((pre.length : Nat) : Int) + 1) = some (.int b) := by rw [ho]; exact at_b
    have mo : mulOk a 256 = true := mulOk_r (by decide) (by decide)
    rw [e0]
    generalize os.map D.int = L at ll aa ab ⊢
    have g2 : (pre.length : Int) + 2 ≤ (L.length : Int) := by omega
    have g3 : ¬ 8000 < a * 256 + b := by omega
    have g4 : (L.length : Int) < (pre.length : Int) + 2 + (a * 256 + b) := by omega
    rw [whileF_b (h1 := h ++ [.lst acc]) (by simp [g2]) (e' := [s0, s1, some (.int sh), some (.tup L), some (.ref h.length), some (.int (pre.length : Int)), some (.int (a * 256 + b))]) (h' := h ++ [.lst acc]) (by
      unfold b_StreamReader_feed_1
      rw [go_nx (e' := [s0, s1, some (.int sh), some (.tup L), some (.ref h.length), some (.int (pre.length : Int)), some (.int (a * 256 + b))]) (h' := h ++ [.lst acc]) (by simp [aa, ab, mo])]
      generalize a * 256 + b = sz at *
      rw [go_nx (e' := [s0, s1, some (.int sh), some (.tup L), some (.ref h.length), some (.int (pre.length : Int)), some (.int sz)]) (h' := h ++ [.lst acc]) (by simp [g3])]
      refine go_bk ?_
      simp [g4])]
    simp
  | @row a b x t rs r e h1' h2' h3' ih =>
    intro pre k acc e6 ho hv h1 h2
    rw [List.length_cons] at h1 h2
    obtain ⟨k, rfl⟩ : ∃ k', k = k' + 1 := ⟨k - 1, by omega⟩
    have hl : (os.length : Int) = (pre.length : Int) + 2 + (x.length : Int) + (t.length : Int) := by rw [ho]; simp; omega
    have ll : (((os.map D.int).length : Nat) : Int) = (os.length : Int) := by simp
    have aa : atI (os.map D.int) ((pre.length : Nat) : Int) = some (.int a) := by rw [ho]; exact at_a
    have ab : atI (os.map D.int) (((pre.length : Nat) : Int) + 1) = some (.int b) := by rw [ho]; exact at_b
    have ac : cutD (os.map D.int) (some (((pre.length : Nat) : Int) + 2)) (some (((pre.length : Nat) : Int) + 2 + (a * 256 + b))) = x.map D.int := by rw [ho]; exact cut_x h2'
    have mo : mulOk a 256 = true := mulOk_r (by decide) (by decide)
    have sl : acc.length < sizeLine := szlt (by omega)
    have el : (((pre ++ a :: b :: x).length : Nat) : Int) = (pre.length : Int) + (2 + (a * 256 + b)) := by simp; omega
    have i2 := ih (pre ++ a :: b :: x) k (acc ++ [rowD x]) (some (.int (a * 256 + b))) (by rw [ho]; simp) hv (by omega) (by simp; omega)
    have ec : acc ++ [rowD x] ++ rs.map rowD = acc ++ (x :: rs).map rowD := by simp
    rw [ec, el] at i2
    have tn : whileF wT b_StreamReader_feed_1 (k + 1) [s0, s1, some (.int sh), some (.tup (os.map D.int)), some (.ref h.length), some (.int (pre.length : Int)), e6] (h ++ [.lst acc]) = whileF wT b_StreamReader_feed_1 k [s0, s1, some (.int sh), some (.tup (os.map D.int)), some (.ref h.length), some (.int ((pre.length : Int) + (2 + (a * 256 + b)))), some (.int (a * 256 + b))] (h ++ [.lst (acc ++ [rowD x])]) := by
      show _ = whileF wT _ k _ (h ++ [.lst (acc ++ [.tup (x.map D.int)])])
      generalize os.map D.int = L at ll aa ab ac ⊢
      generalize x.map D.int = X at ac ⊢
      have g2 : (pre.length : Int) + 2 ≤ (L.length : Int) := by omega
      have g3 : ¬ 8000 < a * 256 + b := by omega
      have g4 : ¬ (L.length : Int) < (pre.length : Int) + 2 + (a * 256 + b) := by omega
      refine whileF_t (h1 := h ++ [.lst acc]) (by simp [g2]) ?_
      unfold b_StreamReader_feed_1
      rw [go_nx (e' := [s0, s1, some (.int sh), some (.tup L), some (.ref h.length), some (.int (pre.length : Int)), some (.int (a * 256 + b))]) (h' := h ++ [.lst acc]) (by simp [aa, ab, mo])]
      generalize a * 256 + b = sz at *
      rw [go_nx (e' := [s0, s1, some (.int sh), some (.tup L), some (.ref h.length), some (.int (pre.length : Int)), some (.int sz)]) (h' := h ++ [.lst acc]) (by simp [g3])]
      rw [go_nx (e' := [s0, s1, some (.int sh), some (.tup L), some (.ref h.length), some (.int (pre.length : Int)), some (.int sz)]) (h' := h ++ [.lst acc]) (by simp [g4])]
      rw [go_nx (e' := [s0, s1, some (.int sh), some (.tup L), some (.ref h.length), some (.int (pre.length : Int)), some (.int sz)]) (h' := h ++ [.lst (acc ++ [.tup X])]) (by simp [ac, sl])]
      simp
    rw [tn]
    exact i2
end
end Lk09
/-! k09: the reader's methods -/
namespace Lk09
open PySem L2 PyProof.Rows Sm
open Lk07 (Oc num oc fb)
theorem trR_cut {h h1 g : Hh} {d : D} (hl : h1.length = h.length) (hd : lo h.length d = true) (hk : Kq h.length h h1) : trR h (.ok d (h1 ++ g)) = .ok d h1 := by
  unfold trR
  dsimp only
  have : (h1 ++ g).take h.length = h1 := by rw [← hl, List.take_left]
  rw [this, if_pos ⟨hd, hk⟩]
theorem Kq_set2 {h : Hh} {n p q : Nat} {a b : O} (ha : loO n a = true) (hb : loO n b = true) : Kq n h ((h.set p a).set q b) := fun i u e => by
  by_cases z : q = i
  · subst z
    by_cases hl : q < (h.set p a).length
    · rw [List.getElem?_set_self hl] at e
      cases e
      exact .inr hb
    · rw [List.getElem?_eq_none (by simpa using hl)] at e
      cases e
  · rw [List.getElem?_set_ne z] at e
    exact Kq_set ha i u e
theorem Par.suf : ∀ {os : List Int} {rs : List (List Int)} {r : List Int} {e : Bool}, Par os rs r e → ∃ pre, os = pre ++ r
  | _, _, _, _, .none => ⟨[], rfl⟩
  | _, _, _, _, .one => ⟨[], rfl⟩
  | _, _, _, _, .long _ => ⟨[], rfl⟩
  | _, _, _, _, .wait _ _ => ⟨[], rfl⟩
  | _, _, _, _, .row (a := a) (b := b) (x := x) _ _ h => by
    obtain ⟨pre, e⟩ := h.suf
    exact ⟨a :: b :: (x ++ pre), by rw [e]; simp⟩
theorem cut_r {os r : List Int} (h : ∃ pre, os = pre ++ r) : cutD (os.map D.int) (some ((os.length : Int) - (r.length : Int))) none = r.map D.int := by
  obtain ⟨pre, rfl⟩ := h
  have e : (((pre ++ r).length : Nat) : Int) - (r.length : Int) = (pre.length : Int) := by simp
  rw [e, cutD_from (by omega), Int.toNat_natCast, List.map_append, List.drop_left' (by simp)]
/-- a reader stands at n, its lists at p and q -/
structure Rd (h : Hh) (n p q : Nat) (ps hs : List (List Int)) : Prop where
  ins : h[n]? = some (.ins 3 [some (.ref p), some (.ref q)])
  lp : h[p]? = some (.lst (ps.map rowD))
  lq : h[q]? = some (.lst (hs.map rowD))
  pq : p ≠ q
  np : n ≠ p
  nq : n ≠ q
section
variable {h : Hh} {n p q : Nat} {ps hs : List (List Int)} {r x : List Int}
theorem Rd.app (R : Rd h n p q ps hs) (g : Hh) : Rd (h ++ g) n p q ps hs :=
  ⟨SmPool.get_app R.ins, SmPool.get_app R.lp, SmPool.get_app R.lq, R.pq, R.np, R.nq⟩
theorem last_row (hs : List (List Int)) (r : List Int) : atI ((hs ++ [r]).map rowD) (-1) = some (rowD r) := by
  rw [atI_m1]
  simp
theorem feed_bad {v : D} {a : Int} {y : Str} {s : D} (hv : Val v) (e : flt v = some (a, y)) : m_StreamReader_feed [s, v] h = .exc 0 [.int a, .str y] h := by
  have c := check_val hv h
  rw [e] at c
  dsimp only at c
  refine fn_exc (e' := [some s, some v, none, none, none, none, none]) ?_
  unfold b_StreamReader_feed
  show sSeq _ _ [some s, some v, none, none, none, none, none] h = _
  refine go_exc ?_
  simp [c]
theorem feed_start (R : Rd h n p q ps (hs ++ [r])) (hx : Oc x) (hl : r.length + x.length ≤ 1000000) (hxl : x.length ≤ 60000) :
    b_StreamReader_feed [some (.ref n), some (rowD x), none, none, none, none, none] h =
    (sSeq (sWhile 100000 wT b_StreamReader_feed_1)
    (sSeq (sIf (tBl (eB opEq (eN opLen [(eU (opFld 3 0) (eV 0))]) (eC (.int 200)))) (sRaise 1 [(eC (.str "feeds")), (eB opAdd (eC (.int 200)) (eC (.int 1)))]) sSkip)
    (sSeq (sExpr (eMt opAppend (eU (opFld 3 0) (eV 0)) [(eV 1)]))
    (sSeq (sExpr (eMt opAppend (eU (opFld 3 1) (eV 0)) [(eSlF (eV 3) (some (eV 5)) none)]))
    (sRet (eN opTupleOf [(eV 4)])))))) [some (.ref n), some (rowD x), some (.int (r.length : Int)), some (.tup ((r ++ x).map D.int)), some (.ref h.length), some (.int (([] : List Int).length : Int)), none] (h ++ [.lst []]) := by
  have c := check_val (.inr ⟨x, rfl, hxl⟩) h
  rw [flt_oc hx] at c
  dsimp only at c
  have lr := last_row hs r
  have i0 := R.ins
  have i2 := R.lq
  have sz : (r.map D.int).length + (x.map D.int).length ≤ sizeLine := szl (by simp; omega)
  have rl : (((r.map D.int).length : Nat) : Int) = (r.length : Int) := by simp
  unfold b_StreamReader_feed
  rw [List.map_append]
  show _ = _
  simp only [rowD] at c lr ⊢
  generalize (hs ++ [r]).map rowD = L at lr i2
  generalize x.map D.int = X at c sz ⊢
  generalize r.map D.int = Y at lr sz rl ⊢
  rw [go_nx (e' := [some (.ref n), some (.tup X), none, none, none, none, none]) (h' := h) (by simp [c])]
  rw [go_nx (e' := [some (.ref n), some (.tup X), some (.int (r.length : Int)), none, none, none, none]) (h' := h) (by simp [i0, i2, lr, rl])]
  rw [go_nx (e' := [some (.ref n), some (.tup X), some (.int (r.length : Int)), some (.tup (Y ++ X)), none, none, none]) (h' := h) (by simp [i0, i2, lr, sz])]
  rw [go_nx (e' := [some (.ref n), some (.tup X), some (.int (r.length : Int)), some (.tup (Y ++ X)), some (.ref h.length), none, none]) (h' := h ++ [.lst []]) (by simp)]
  rw [go_nx (e' := [some (.ref n), some (.tup X), some (.int (r.length : Int)), some (.tup (Y ++ X)), some (.ref h.length), some (.int (([] : List Int).length : Int)), none]) (h' := h ++ [.lst []]) (by simp)]
theorem oc_app {r x : List Int} (hr : Oc r) (hx : Oc x) : Oc (r ++ x) := fun a ha => (List.mem_append.mp ha).elim (hr a) (hx a)
theorem feed_long {rs : List (List Int)} {r' : List Int} (R : Rd h n p q ps (hs ++ [r])) (hr : Oc r) (hx : Oc x) (hl : r.length + x.length ≤ 150000) (hxl : x.length ≤ 60000) (hp : Par (r ++ x) rs r' true) :
    m_StreamReader_feed [.ref n, rowD x] h = .exc 0 [.int ((x.length : Int) - (r'.length : Int) + 1), .str "long"] h := by
  have pl := hp.len
  rw [List.length_append] at pl
  obtain ⟨E, lp⟩ := (feed_loop (h := h) (os := r ++ x) (s0 := some (.ref n)) (s1 := some (rowD x)) (sh := (r.length : Int)) (by simp; omega) hp [] 100000 [] none rfl (oc_app hr hx) (by omega) (by simp; omega)).2 rfl
  have e1 : (((r ++ x).length : Nat) : Int) - (r'.length : Int) + 1 - (r.length : Int) = (x.length : Int) - (r'.length : Int) + 1 := by simp; omega
  rw [e1] at lp
  refine fn_excA (g := [.lst ([] ++ rs.map rowD)]) (e' := E) ?_ rfl
  show b_StreamReader_feed [some (.ref n), some (rowD x), none, none, none, none, none] h = _
  rw [feed_start R hx (by omega) hxl]
  exact go_exc lp
theorem feed_many {rs : List (List Int)} {r' : List Int} (R : Rd h n p q ps (hs ++ [r])) (hr : Oc r) (hx : Oc x) (hl : r.length + x.length ≤ 150000) (hxl : x.length ≤ 60000) (hp : Par (r ++ x) rs r' false) (h200 : ps.length = 200) :
    m_StreamReader_feed [.ref n, rowD x] h = .exc 1 [.str "feeds", .int 201] h := by
  have pl := hp.len
  rw [List.length_append] at pl
  obtain ⟨f6, lp⟩ := (feed_loop (h := h) (os := r ++ x) (s0 := some (.ref n)) (s1 := some (rowD x)) (sh := (r.length : Int)) (by simp; omega) hp [] 100000 [] none rfl (oc_app hr hx) (by omega) (by simp; omega)).1 rfl
  have R1 := R.app [.lst ([] ++ rs.map rowD)]
  have i0 := R1.ins
  have i1 := R1.lp
  have l2 : (((ps.map rowD).length : Nat) : Int) = 200 := by simp; omega
  refine fn_excA (g := [.lst ([] ++ rs.map rowD)]) (e' := [some (.ref n), some (rowD x), some (.int (r.length : Int)), some (.tup ((r ++ x).map D.int)), some (.ref h.length), some (.int ((((r ++ x).length : Nat) : Int) - (r'.length : Int))), f6]) ?_ rfl
  show b_StreamReader_feed [some (.ref n), some (rowD x), none, none, none, none, none] h = _
  rw [feed_start R hx (by omega) hxl, go_nx (a := sWhile 100000 wT b_StreamReader_feed_1) lp]
  generalize ps.map rowD = P at i1 l2
  generalize ([] ++ rs.map rowD) = Q at i0 i1 ⊢
  refine go_exc ?_
  simp [i0, i1, l2]
theorem feed_rows {rs : List (List Int)} {r' : List Int} (R : Rd h n p q ps (hs ++ [r])) (hr : Oc r) (hx : Oc x) (hl : r.length + x.length ≤ 150000) (hxl : x.length ≤ 60000) (hp : Par (r ++ x) rs r' false) (h200 : ps.length < 200) (hhs : hs.length ≤ 1000) :
    m_StreamReader_feed [.ref n, rowD x] h = .ok (.tup (rs.map rowD)) ((h.set p (.lst ((ps ++ [x]).map rowD))).set q (.lst ((hs ++ [r] ++ [r']).map rowD))) := by
  have pl := hp.len
  rw [List.length_append] at pl
  obtain ⟨f6, lp⟩ := (feed_loop (h := h) (os := r ++ x) (s0 := some (.ref n)) (s1 := some (rowD x)) (sh := (r.length : Int)) (by simp; omega) hp [] 100000 [] none rfl (oc_app hr hx) (by omega) (by simp; omega)).1 rfl
  have np := (List.getElem?_eq_some_iff.mp R.lp).1
  have nq := (List.getElem?_eq_some_iff.mp R.lq).1
  have nn := (List.getElem?_eq_some_iff.mp R.ins).1
  have l2 : ¬ (((ps.map rowD).length : Nat) : Int) = 200 := by simp; omega
  have s1 : (ps.map rowD).length < sizeLine := szlt (by simp; omega)
  have s2 : ((hs ++ [r]).map rowD).length < sizeLine := szlt (by simp; omega)
  have cr := cut_r hp.suf
  have em : (ps ++ [x]).map rowD = ps.map rowD ++ [rowD x] := by simp
  have em2 : (hs ++ [r] ++ [r']).map rowD = (hs ++ [r]).map rowD ++ [rowD r'] := by simp
  have main : b_StreamReader_feed [some (.ref n), some (rowD x), none, none, none, none, none] h = .rt (.tup (rs.map rowD)) (((h.set p (.lst ((ps ++ [x]).map rowD))).set q (.lst ((hs ++ [r] ++ [r']).map rowD))) ++ [.lst (rs.map rowD)]) := by
    rw [feed_start R hx (by omega) hxl, go_nx (a := sWhile 100000 wT b_StreamReader_feed_1) lp]
    rw [List.nil_append, em, em2]
    have i0 := R.ins
    have i1 := R.lp
    have i2 := R.lq
    generalize ps.map rowD = P at i1 l2 s1 ⊢
    generalize (hs ++ [r]).map rowD = Hs at i2 s2 ⊢
    generalize rs.map rowD = Q
    generalize (((r ++ x).length : Nat) : Int) - (r'.length : Int) = at_ at cr ⊢
    simp only [rowD]
    generalize (r ++ x).map D.int = L at cr ⊢
    generalize r'.map D.int = L2 at cr ⊢
    generalize x.map D.int = X
    have g0 : (h ++ [O.lst Q])[n]? = some (.ins 3 [some (.ref p), some (.ref q)]) := SmPool.get_app i0
    have g1 : (h ++ [O.lst Q])[p]? = some (.lst P) := SmPool.get_app i1
    rw [go_nx (e' := [some (.ref n), some (.tup X), some (.int (r.length : Int)), some (.tup L), some (.ref h.length), some (.int at_), f6]) (h' := h ++ [.lst Q]) (by simp [g0, g1, l2])]
    have st1 : (h ++ [O.lst Q]).set p (.lst (P ++ [.tup X])) = h.set p (.lst (P ++ [.tup X])) ++ [.lst Q] := List.set_append_left _ _ np
    rw [go_nx (e' := [some (.ref n), some (.tup X), some (.int (r.length : Int)), some (.tup L), some (.ref h.length), some (.int at_), f6]) (h' := h.set p (.lst (P ++ [.tup X])) ++ [.lst Q]) (by simp [g0, g1, s1, st1])]
    generalize hh1 : h.set p (.lst (P ++ [.tup X])) = h1
    have len1 : h1.length = h.length := by rw [← hh1, List.length_set]
    have k0 : h1[n]? = some (.ins 3 [some (.ref p), some (.ref q)]) := by rw [← hh1, List.getElem?_set_ne (fun z => R.np z.symm)]; exact i0
    have k2 : h1[q]? = some (.lst Hs) := by rw [← hh1, List.getElem?_set_ne R.pq]; exact i2
    have g3 : (h1 ++ [O.lst Q])[n]? = some (.ins 3 [some (.ref p), some (.ref q)]) := SmPool.get_app k0
    have g4 : (h1 ++ [O.lst Q])[q]? = some (.lst Hs) := SmPool.get_app k2
    have st2 : (h1 ++ [O.lst Q]).set q (.lst (Hs ++ [.tup L2])) = h1.set q (.lst (Hs ++ [.tup L2])) ++ [.lst Q] := List.set_append_left _ _ (by omega)
    rw [go_nx (e' := [some (.ref n), some (.tup X), some (.int (r.length : Int)), some (.tup L), some (.ref h.length), some (.int at_), f6]) (h' := h1.set q (.lst (Hs ++ [.tup L2])) ++ [.lst Q]) (by simp [g3, g4, s2, st2, cr])]
    have g5 : (h1.set q (.lst (Hs ++ [.tup L2])) ++ [O.lst Q])[h.length]? = some (.lst Q) := by
      rw [List.getElem?_append_right (by simp; omega)]
      simp [len1]
    simp [g5]
  show trR h (fnEnd (b_StreamReader_feed [some (.ref n), some (rowD x), none, none, none, none, none] h)) = _
  rw [main]
  refine trR_cut (by simp) (by rw [lo_tup]; exact los_rows _ _) (Kq_set2 (by show los _ _ = true; exact los_rows _ _) (by show los _ _ = true; exact los_rows _ _))
theorem opEq_ref {i : Nat} {ds es : List D} (e : h[i]? = some (.lst ds)) : opEq (.ref i) (.fls es) h = opEq (.fls ds) (.fls es) h := by
  have t : toP h 60 (.ref i) = toP h 60 (.fls ds) := by simp only [toP, e]
  unfold opEq opEqB
  show (eqP h (.ref i) (.fls es)).map _ = (eqP h (.fls ds) (.fls es)).map _
  unfold eqP
  rw [t]
theorem okRow : ∀ (os : List Int), okDs 58 (os.map D.int) = true
  | [] => by simp [okDs]
  | o :: os => by simp only [List.map_cons, okDs, okRow os, okD, Bool.and_true]
theorem okRows : ∀ (rs : List (List Int)), okDs 59 (rs.map rowD) = true
  | [] => by simp [okDs]
  | r :: rs => by
    simp only [List.map_cons, okDs, okRows rs, Bool.and_true]
    simp only [okD]
    exact okRow r
theorem eq_nil {i : Nat} {rs : List (List Int)} (e : h[i]? = some (.lst (rs.map rowD))) : opEq (.ref i) (.fls []) h = some (.bl (decide (rs = [])), h) := by
  rw [opEq_ref e, opEq_ok h (by simp only [okD]; exact okRows rs) (by simp [okD, okDs])]
  cases rs with
  | nil => simp [eqd, eqds]
  | cons r rs => simp [eqd, eqds]
/-! ### undo, waiting, log -/
theorem undo_none (R : Rd h n p q [] hs) : m_StreamReader_undo [.ref n] h = .exc 2 [.str "undo"] h := by
  have i0 := R.ins
  have i1 := R.lp
  refine fn_exc (e' := [some (.ref n)]) ?_
  unfold b_StreamReader_undo
  show sSeq _ _ [some (.ref n)] h = _
  refine go_exc ?_
  have en := eq_nil i1
  simp [i0, en]
theorem undo_some {hs : List (List Int)} {r' : List Int} (R : Rd h n p q (ps ++ [x]) (hs ++ [r'])) : m_StreamReader_undo [.ref n] h = .ok .non ((h.set p (.lst (ps.map rowD))).set q (.lst (hs.map rowD))) := by
  have np := (List.getElem?_eq_some_iff.mp R.lp).1
  have nq := (List.getElem?_eq_some_iff.mp R.lq).1
  have main : b_StreamReader_undo [some (.ref n)] h = .nx [some (.ref n)] ((h.set p (.lst (ps.map rowD))).set q (.lst (hs.map rowD))) := by
    have i0 := R.ins
    have i1 := R.lp
    have i2 := R.lq
    have en := eq_nil i1
    have ne : ¬ (ps ++ [x] = []) := by simp
    rw [decide_eq_false ne] at en
    rw [List.map_append, List.map_cons, List.map_nil] at i1 i2
    unfold b_StreamReader_undo
    generalize ps.map rowD = P at i1 ⊢
    generalize hs.map rowD = Hs at i2 ⊢
    generalize rowD x = X at i1
    generalize rowD r' = Y at i2
    rw [go_nx (e' := [some (.ref n)]) (h' := h) (by simp [i0, en])]
    rw [go_nx (e' := [some (.ref n)]) (h' := h.set p (.lst P)) (by simp [i0, i1])]
    have k0 : (h.set p (.lst P))[n]? = some (.ins 3 [some (.ref p), some (.ref q)]) := by rw [List.getElem?_set_ne (fun z => R.np z.symm)]; exact i0
    have k2 : (h.set p (.lst P))[q]? = some (.lst (Hs ++ [Y])) := by rw [List.getElem?_set_ne R.pq]; exact i2
    simp [k0, k2]
  show trR h (fnEnd (b_StreamReader_undo [some (.ref n)] h)) = _
  rw [main]
  show trR h (.ok .non _) = _
  have := trR_cut (h := h) (h1 := (h.set p (.lst (ps.map rowD))).set q (.lst (hs.map rowD))) (g := []) (d := .non) (by simp) rfl (Kq_set2 (by show los _ _ = true; exact los_rows _ _) (by show los _ _ = true; exact los_rows _ _))
  rw [List.append_nil] at this
  exact this
theorem waiting_spec (R : Rd h n p q ps (hs ++ [r])) : m_StreamReader_waiting [.ref n] h = .ok (.int (r.length : Int)) h := by
  have i0 := R.ins
  have i2 := R.lq
  have lr := last_row hs r
  have rl : (((r.map D.int).length : Nat) : Int) = (r.length : Int) := by simp
  simp only [rowD] at lr
  generalize (hs ++ [r]).map rowD = L at lr i2
  generalize r.map D.int = Y at lr rl
  simp [m_StreamReader_waiting, b_StreamReader_waiting, i0, i2, lr, rl, trR_ok0]
theorem log_spec (R : Rd h n p q ps hs) : m_StreamReader_log [.ref n] h = .ok (.tup (ps.map rowD)) h := by
  have i0 := R.ins
  have i1 := R.lp
  have lo1 := los_rows h.length ps
  generalize ps.map rowD = P at i1 lo1 ⊢
  simp [m_StreamReader_log, b_StreamReader_log, i0, i1, trR_ok0]
end
end Lk09
/-! k09: what is due, a piece fed -/
namespace Lk09
open PySem L2 PyProof.Rows Sm
open Lk07 (Oc num oc fb)
section
variable {h : Hh} {n p q f : Nat} {ps hs : List (List Int)} {r x : List Int} {v : D}
theorem due_bad {a : Int} {y : Str} {F : D} (hv : Val v) (e : flt v = some (a, y)) (hF : lo h.length F = true) : m__law_due [F, v] h = .ok (.fls [.str "octets", .tup [.int a, .str y]]) h := by
  have c := fault_val hv h
  rw [e] at c
  dsimp only at c
  refine fn_rt ?_
  unfold b__law_due
  show sSeq _ _ [some F, some v, none, none, none] h = _
  rw [go_nx (e' := [some F, some v, some (.tup [.int a, .str y]), none, none]) (h' := h) (by simp [c])]
  refine go_rt ?_
  simp
theorem due_row {rs0 rs : List (List Int)} {r0 r' : List Int} {e : Bool} (hf : h[f]? = some (.lst (ps.map rowD))) (ho : Oc ps.flatten) (hx : Oc x) (hp0 : Par ps.flatten rs0 r0 false) (hp : Par (r0 ++ x) rs r' e) (hl : ps.flatten.length + x.length ≤ 150000) (hxl : x.length ≤ 60000) (h200 : ps.length ≤ 200) :
    m__law_due [.ref f, rowD x] h = .ok (if e = true then .fls [.str "octets", .tup [.int ((x.length : Int) - (r'.length : Int) + 1), .str "long"]] else if ps.length = 200 then .fls [.str "many", .tup [.str "feeds", .int 201]] else .fls [.str "rows", .tup (rs.map rowD)]) h := by
  have c := fault_val (.inr ⟨x, rfl, hxl⟩) h
  rw [flt_oc hx] at c
  dsimp only at c
  have jn := joined_spec hf (by omega)
  have pr0 := parsed_spec (h := h) hp0 ho (by omega)
  have pr := parsed_spec (h := h) (hp0.app hp) (oc_app ho hx) (by rw [List.length_append]; omega)
  rw [if_neg (by simp)] at pr0
  have l0 : (((ps.flatten.map D.int).length : Nat) : Int) = (ps.flatten.length : Int) := by rw [List.length_map]
  have lf : (((ps.map rowD).length : Nat) : Int) = (ps.length : Int) := by simp
  have sz : (ps.flatten.map D.int).length + (x.map D.int).length ≤ sizeLine := szl (by rw [List.length_map, List.length_map]; omega)
  rw [List.map_append, List.map_append] at pr
  have pl := (hp0.app hp).len
  rw [List.length_append] at pl
  have le : (((ps.flatten ++ x).length : Nat) : Int) = (ps.flatten.length : Int) + (x.length : Int) := by rw [List.length_append]; omega
  have lrs : (((rs0.map rowD).length : Nat) : Int) = (rs0.length : Int) := by simp
  have ct : cutD (rs0.map rowD ++ rs.map rowD) (some (rs0.length : Int)) none = rs.map rowD := by
    rw [cutD_from (by omega), Int.toNat_natCast, List.drop_left' (by simp)]
  have lo1 := los_rows h.length rs
  rw [le] at pr
  refine fn_rt ?_
  simp only [rowD] at c ⊢
  generalize ps.flatten.map D.int = A at jn pr0 pr l0 sz
  generalize ps.map rowD = F at hf lf
  generalize rs0.map rowD = R0 at pr pr0 lrs ct
  generalize rs.map rowD = R at pr ct lo1 ⊢
  generalize x.map D.int = X at c pr sz ⊢
  generalize (ps.flatten.length : Int) = N at *
  unfold b__law_due
  show sSeq _ _ [some (.ref f), some (.tup X), none, none, none] h = _
  rw [go_nx (e' := [some (.ref f), some (.tup X), some .non, none, none]) (h' := h) (by simp [c])]
  rw [go_nx (e' := [some (.ref f), some (.tup X), some .non, none, none]) (h' := h) (by simp)]
  rw [go_nx (e' := [some (.ref f), some (.tup X), some .non, some (.fls A), none]) (h' := h) (by simp [jn])]
  rw [go_nx (e' := [some (.ref f), some (.tup X), some .non, some (.fls A), some (.fls [.fls (R0 ++ R), .int (N + (x.length : Int) - (r'.length : Int)), .int (if e = true then N + (x.length : Int) - (r'.length : Int) + 1 else -1)])]) (h' := h) (by simp [sz, pr])]
  cases e with
  | true =>
    have g0 : (0 : Int) ≤ N + (x.length : Int) - (r'.length : Int) + 1 := by omega
    have e1 : N + (x.length : Int) - (r'.length : Int) + 1 - N = (x.length : Int) - (r'.length : Int) + 1 := by omega
    simp only [if_true]
    refine go_rt ?_
    generalize N + (x.length : Int) - (r'.length : Int) + 1 = Q at g0 e1 ⊢
    simp [ix3, g0, l0, e1]
  | false =>
    simp only [Bool.false_eq_true, if_false]
    rw [go_nx (e' := [some (.ref f), some (.tup X), some .non, some (.fls A), some (.fls [.fls (R0 ++ R), .int (N + (x.length : Int) - (r'.length : Int)), .int (-1)])]) (h' := h) (by simp [ix3])]
    by_cases hm : ps.length = 200
    · rw [if_pos hm]
      have lf2 : ((F.length : Nat) : Int) = 200 := by omega
      refine go_rt ?_
      simp [hf, lf2]
    · rw [if_neg hm]
      have lf2 : ¬ ((F.length : Nat) : Int) = 200 := by omega
      rw [go_nx (e' := [some (.ref f), some (.tup X), some .non, some (.fls A), some (.fls [.fls (R0 ++ R), .int (N + (x.length : Int) - (r'.length : Int)), .int (-1)])]) (h' := h) (by simp [hf, lf2])]
      generalize N + (x.length : Int) - (r'.length : Int) = Q
      simp [ix3, pr0, lrs, ct]
/-! ### _law_is_fed -/
theorem fed_exc0 {F : D} {a : Int} {y : Str} (hF : lo h.length F = true) (hv : lo h.length v = true) (d : m__law_due [F, v] h = .ok (.fls [.str "octets", .tup [.int a, .str y]]) h) {i : Nat} (hi : ∃ k, h[n]? = some (.ins 3 k)) (m : m_StreamReader_feed [.ref n, v] h = .exc 0 [.int a, .str y] h) (hy : tm 1 (.str y) = true) :
    m__law_is_fed [.ref n, F, v] h = .ok (.bl true) h := by
  obtain ⟨k, hi⟩ := hi
  have s3 := same_pair a hy h
  refine fn_rt ?_
  unfold b__law_is_fed
  show sSeq _ _ [some (.ref n), some F, some v, none, none, none, none] h = _
  rw [go_nx (e' := [some (.ref n), some F, some v, some (.fls [.str "octets", .tup [.int a, .str y]]), none, none, none]) (h' := h) (by simp [d])]
  refine go_rt ?_
  simp [hi, m, mt00, ix2, s3]
theorem fed_exc1 {F : D} (hF : lo h.length F = true) (hv : lo h.length v = true) (d : m__law_due [F, v] h = .ok (.fls [.str "many", .tup [.str "feeds", .int 201]]) h) (hi : ∃ k, h[n]? = some (.ins 3 k)) (m : m_StreamReader_feed [.ref n, v] h = .exc 1 [.str "feeds", .int 201] h) :
    m__law_is_fed [.ref n, F, v] h = .ok (.bl true) h := by
  obtain ⟨k, hi⟩ := hi
  have s3 := same_pair2 201 feeds_tm h
  refine fn_rt ?_
  unfold b__law_is_fed
  show sSeq _ _ [some (.ref n), some F, some v, none, none, none, none] h = _
  rw [go_nx (e' := [some (.ref n), some F, some v, some (.fls [.str "many", .tup [.str "feeds", .int 201]]), none, none, none]) (h' := h) (by simp [d])]
  refine go_rt ?_
  simp [hi, m, mt01, mt11, ix2, s3]
theorem fed_rows {F : List D} {R : List D} {h1 : Hh} (hl1 : h1.length = h.length) (hf : h1[f]? = some (.lst F)) (hFl : F.length < 1000) (hv : lo h.length v = true) (d : m__law_due [.ref f, v] h = .ok (.fls [.str "rows", .tup R]) h) (hi : ∃ k, h[n]? = some (.ins 3 k)) (m : m_StreamReader_feed [.ref n, v] h = .ok (.tup R) h1)
    (s : ∀ H, m__law_same 12 [.tup R, .tup R] H = .ok (.bl true) H) : m__law_is_fed [.ref n, .ref f, v] h = .ok (.bl true) (h1.set f (.lst (F ++ [v]))) := by
  obtain ⟨k, hi⟩ := hi
  have sl : F.length < sizeLine := szlt (by omega)
  have main : b__law_is_fed [some (.ref n), some (.ref f), some v, none, none, none, none] h = .rt (.bl true) (h1.set f (.lst (F ++ [v]))) := by
    unfold b__law_is_fed
    rw [go_nx (e' := [some (.ref n), some (.ref f), some v, some (.fls [.str "rows", .tup R]), none, none, none]) (h' := h) (by simp [d])]
    rw [go_nx (e' := [some (.ref n), some (.ref f), some v, some (.fls [.str "rows", .tup R]), none, none, some (.tup R)]) (h' := h1) (by simp [hi, m])]
    rw [go_nx (e' := [some (.ref n), some (.ref f), some v, some (.fls [.str "rows", .tup R]), none, none, some (.tup R)]) (h' := h1.set f (.lst (F ++ [v]))) (by simp [hf, sl])]
    simp [ix2, s]
  show trR h (fnEnd (b__law_is_fed [some (.ref n), some (.ref f), some v, none, none, none, none] h)) = _
  rw [main]
  exact SmPool3.trR_len (by rw [List.length_set]; exact hl1)
end
end Lk09
/-! k09: deeds of a reader -/
namespace Lk09
open PySem L2 PyProof.Rows Sm
open Lk07 (Oc num oc fb)
/-- the rests held behind each piece -/
inductive Hist : List (List Int) → List (List Int) → Prop
  | nil : Hist [] [[]]
  | snoc {ps hs : List (List Int)} {r p : List Int} {rs : List (List Int)} {r' : List Int} : Hist ps (hs ++ [r]) → Oc p → Par (r ++ p) rs r' false → Hist (ps ++ [p]) (hs ++ [r] ++ [r'])
theorem Hist.len {ps hs : List (List Int)} (H : Hist ps hs) : hs.length = ps.length + 1 := by
  induction H with
  | nil => rfl
  | snoc _ _ _ ih => simp at ih ⊢; omega
theorem Hist.last {ps hs : List (List Int)} (H : Hist ps hs) : ∃ hs0 r rs, hs = hs0 ++ [r] ∧ Par ps.flatten rs r false ∧ Oc ps.flatten := by
  induction H with
  | nil => exact ⟨[], [], [], rfl, .none, fun _ z => by simp at z⟩
  | @snoc ps hs r p rs r' H hp q ih =>
    obtain ⟨hs0, r0, rs0, e, pr, ho⟩ := ih
    obtain ⟨rfl, e2⟩ := List.append_inj' e rfl
    cases e2
    refine ⟨_, r', rs0 ++ rs, rfl, ?_, ?_⟩
    · have := pr.app q
      simpa using this
    · rw [List.flatten_append]
      simp only [List.flatten_cons, List.flatten_nil, List.append_nil]
      exact oc_app ho hp
theorem Hist.back {ps hs : List (List Int)} {p : List Int} (H : Hist (ps ++ [p]) hs) : ∃ hs' r', hs = hs' ++ [r'] ∧ Hist ps hs' := by
  generalize hq : ps ++ [p] = qs at H
  cases H with
  | nil => simp at hq
  | snoc H hp q =>
    obtain ⟨rfl, e2⟩ := List.append_inj' hq rfl
    exact ⟨_, _, rfl, H⟩
theorem oc_suf {os r : List Int} (ho : Oc os) (h : ∃ pre, os = pre ++ r) : Oc r := by
  obtain ⟨pre, rfl⟩ := h
  exact fun a ha => ho a (by simp [ha])
/-- a reader and the list of what it was fed -/
structure Gd (h : Hh) (n p q f : Nat) (ps hs : List (List Int)) : Prop where
  rd : Rd h n p q ps hs
  lf : h[f]? = some (.lst (ps.map rowD))
  fn : f ≠ n
  fp : f ≠ p
  fq : f ≠ q
  hist : Hist ps hs
theorem Val.lo {v : D} (hv : Val v) (n : Nat) : lo n v = true := by
  rcases hv with ⟨k, ht⟩ | ⟨os, rfl, _⟩
  · exact tm_lo ht
  · exact lo_row _ _
section
variable {h : Hh} {n p q f : Nat} {ps hs : List (List Int)} {v : D}
theorem Gd.lt (G : Gd h n p q f ps hs) : n < h.length ∧ p < h.length ∧ q < h.length ∧ f < h.length :=
  ⟨(List.getElem?_eq_some_iff.mp G.rd.ins).1, (List.getElem?_eq_some_iff.mp G.rd.lp).1, (List.getElem?_eq_some_iff.mp G.rd.lq).1, (List.getElem?_eq_some_iff.mp G.lf).1⟩
theorem Gd.write (G : Gd h n p q f ps hs) {ps' hs' : List (List Int)} (H : Hist ps' hs') : Gd (((h.set p (.lst (ps'.map rowD))).set q (.lst (hs'.map rowD))).set f (.lst (ps'.map rowD))) n p q f ps' hs' := by
  obtain ⟨l1, l2, l3, l4⟩ := G.lt
  refine ⟨⟨?_, ?_, ?_, G.rd.pq, G.rd.np, G.rd.nq⟩, ?_, G.fn, G.fp, G.fq, H⟩
  · rw [List.getElem?_set_ne G.fn, List.getElem?_set_ne (fun z => G.rd.nq z.symm), List.getElem?_set_ne (fun z => G.rd.np z.symm)]
    exact G.rd.ins
  · rw [List.getElem?_set_ne G.fp, List.getElem?_set_ne (fun z => G.rd.pq z.symm), List.getElem?_set_self l2]
  · rw [List.getElem?_set_ne G.fq, List.getElem?_set_self (by simpa using l3)]
  · rw [List.getElem?_set_self (by simpa using l4)]
theorem fed_spec (G : Gd h n p q f ps hs) (hv : Val v) (b : ps.flatten.length ≤ 135000) (vl : ∀ x, Oc x → v = rowD x → x.length ≤ 10000) (h200 : ps.length ≤ 200) :
    ∃ h' ps' hs', m__law_is_fed [.ref n, .ref f, v] h = .ok (.bl true) h' ∧ Gd h' n p q f ps' hs' ∧ h'.length = h.length ∧ (∀ i, i ≠ p → i ≠ q → i ≠ f → h'[i]? = h[i]?) ∧ ps'.flatten.length ≤ ps.flatten.length + 10000 ∧ ps'.length ≤ 200 := by
  have lv := hv.lo h.length
  have lF : lo h.length (.ref f) = true := by rw [lo_ref]; simpa using G.lt.2.2.2
  cases e : flt v with
  | some ay =>
    obtain ⟨a, y⟩ := ay
    exact ⟨h, ps, hs, fed_exc0 lF lv (due_bad hv e lF) (i := 0) ⟨_, G.rd.ins⟩ (feed_bad hv e) (flt_tm e), G, rfl, fun _ _ _ _ => rfl, by omega, h200⟩
  | none =>
    obtain ⟨x, hx, rfl, xl⟩ := flt_none e hv
    have xl2 := vl x hx rfl
    obtain ⟨hs0, r, rs0, rfl, p0, ho⟩ := G.hist.last
    have hr := oc_suf ho p0.suf
    have pl := p0.len
    obtain ⟨rs, r', ee, pr⟩ := Par.ex _ (r ++ x) (Nat.le_refl _) (oc_app hr hx)
    have du := due_row G.lf ho hx p0 pr (by omega) (by omega) h200
    have hl := G.hist.len
    cases ee with
    | true =>
      rw [if_pos rfl] at du
      exact ⟨h, ps, _, fed_exc0 lF lv du (i := 0) ⟨_, G.rd.ins⟩ (feed_long G.rd hr hx (by omega) (by omega) pr) long_tm, G, rfl, fun _ _ _ _ => rfl, by omega, h200⟩
    | false =>
      rw [if_neg (by simp)] at du
      by_cases hm : ps.length = 200
      · rw [if_pos hm] at du
        exact ⟨h, ps, _, fed_exc1 lF lv du ⟨_, G.rd.ins⟩ (feed_many G.rd hr hx (by omega) (by omega) pr hm), G, rfl, fun _ _ _ _ => rfl, by omega, h200⟩
      · rw [if_neg hm] at du
        simp at hl
        have fr := feed_rows G.rd hr hx (by omega) (by omega) pr (by omega) (by omega)
        have sm : ∀ H, m__law_same 12 [.tup (rs.map rowD), .tup (rs.map rowD)] H = .ok (.bl true) H := fun H => same_rows (fun y hy => by have := pr.sub y hy; rw [List.length_append] at this; omega) (by have := pr.len; rw [List.length_append] at this; omega) H
        have lf1 : (((h.set p (.lst ((ps ++ [x]).map rowD))).set q (.lst ((hs0 ++ [r] ++ [r']).map rowD))))[f]? = some (.lst (ps.map rowD)) := by
          rw [List.getElem?_set_ne (fun z => G.fq z.symm), List.getElem?_set_ne (fun z => G.fp z.symm)]
          exact G.lf
        have fd := fed_rows (by simp) lf1 (by simp; omega) lv du ⟨_, G.rd.ins⟩ fr sm
        have em : ps.map rowD ++ [rowD x] = (ps ++ [x]).map rowD := by simp
        rw [em] at fd
        refine ⟨_, ps ++ [x], hs0 ++ [r] ++ [r'], fd, G.write (.snoc G.hist hx pr), by simp, fun i a1 a2 a3 => ?_, ?_, by simp; omega⟩
        · rw [List.getElem?_set_ne (fun z => a3 z.symm), List.getElem?_set_ne (fun z => a2 z.symm), List.getElem?_set_ne (fun z => a1 z.symm)]
        · rw [List.flatten_append, List.length_append]
          simp only [List.flatten_cons, List.flatten_nil, List.append_nil]
          omega
theorem undone_spec (G : Gd h n p q f ps hs) (h200 : ps.length ≤ 200) : ∃ h' ps' hs', m__law_is_undone [.ref n, .ref f] h = .ok (.bl true) h' ∧ Gd h' n p q f ps' hs' ∧ h'.length = h.length ∧ (∀ i, i ≠ p → i ≠ q → i ≠ f → h'[i]? = h[i]?) ∧ ps'.flatten.length ≤ ps.flatten.length ∧ ps'.length ≤ 200 := by
  have i0 := G.rd.ins
  rcases List.eq_nil_or_concat ps with e0 | ⟨ps0, x, e0⟩
  · subst e0
    refine ⟨h, [], hs, ?_, G, rfl, fun _ _ _ _ => rfl, by omega, by simp⟩
    have un := undo_none G.rd
    have en := eq_nil G.lf
    have ss := same_str undo_tm h
    rw [decide_eq_true rfl] at en
    refine fn_rt ?_
    unfold b__law_is_undone
    show sSeq _ _ [some (.ref n), some (.ref f), none, none] h = _
    refine go_rt ?_
    simp [i0, un, mt22, en, ss]
  · rw [List.concat_eq_append] at e0
    subst e0
    obtain ⟨hs', r', rfl, H⟩ := G.hist.back
    have un := undo_some G.rd
    refine ⟨_, ps0, hs', ?_, G.write H, by simp, fun i a1 a2 a3 => ?_, by simp, by simp at h200; omega⟩
    · have lf1 : ((h.set p (.lst (ps0.map rowD))).set q (.lst (hs'.map rowD)))[f]? = some (.lst ((ps0 ++ [x]).map rowD)) := by
        rw [List.getElem?_set_ne (fun z => G.fq z.symm), List.getElem?_set_ne (fun z => G.fp z.symm)]
        exact G.lf
      have en := eq_nil lf1
      have ne : ¬ (ps0 ++ [x] = []) := by simp
      rw [decide_eq_false ne] at en
      have em : (ps0 ++ [x]).map rowD = ps0.map rowD ++ [rowD x] := by simp
      have lenh : ((h.set p (.lst (ps0.map rowD))).set q (.lst (hs'.map rowD))).length = h.length := by simp
      rw [em] at lf1
      have main : b__law_is_undone [some (.ref n), some (.ref f), none, none] h = .rt (.bl true) (((h.set p (.lst (ps0.map rowD))).set q (.lst (hs'.map rowD))).set f (.lst (ps0.map rowD))) := by
        unfold b__law_is_undone
        generalize (h.set p (.lst (ps0.map rowD))).set q (.lst (hs'.map rowD)) = h1 at un lf1 en lenh ⊢
        generalize ps0.map rowD = P at lf1 ⊢
        generalize rowD x = X at lf1
        rw [go_nx (e' := [some (.ref n), some (.ref f), none, some .non]) (h' := h1) (by simp [i0, un])]
        rw [go_nx (e' := [some (.ref n), some (.ref f), none, some .non]) (h' := h1) (by simp [en])]
        rw [go_nx (e' := [some (.ref n), some (.ref f), none, some .non]) (h' := h1.set f (.lst P)) (by simp [lf1])]
        simp
      show trR h (fnEnd (b__law_is_undone [some (.ref n), some (.ref f), none, none] h)) = _
      rw [main]
      exact SmPool3.trR_len (by simp)
    · rw [List.getElem?_set_ne (fun z => a3 z.symm), List.getElem?_set_ne (fun z => a2 z.symm), List.getElem?_set_ne (fun z => a1 z.symm)]
end
end Lk09
/-! k09: what is drawn -/
namespace Lk09
open PySem L2 PyProof.Rows Sm
open Lk07 (Oc num oc fb)
theorem draw_k {o : O} (t : Hh) {m : Int} (a : SrO o) (hm : 0 < m) (hm2 : m < 1073741824) : ∃ r o', 0 ≤ r ∧ r < m ∧ SrO o' ∧ m__law_draw [.ref 0, .int m] (o :: t) = .ok (.int r) (o' :: t) := draw_sX a hm hm2
theorem pick_k {o : O} (t : Hh) {xs : List D} (a : SrO o) (h0 : xs ≠ []) (hl : xs.length ≤ 4096) (hx : ∀ x ∈ xs, lo (t.length + 1) x = true) : ∃ x o', x ∈ xs ∧ SrO o' ∧ m__law_pick [.ref 0, .fls xs] (o :: t) = .ok x (o' :: t) := by
  have hp : 0 < xs.length := List.length_pos_iff.mpr h0
  obtain ⟨r, o', r0, r1, so, e⟩ := draw_k t a (m := (xs.length : Int)) (by omega) (by omega)
  have hr : r.toNat < xs.length := by omega
  have ha : atI xs r = some xs[r.toNat] := by rw [atI_pos r0, List.getElem?_eq_getElem hr]
  refine ⟨xs[r.toNat], o', by simp, so, ?_⟩
  have hlo : lo (t.length + 1) xs[r.toNat] = true := hx _ (by simp)
  simp [m__law_pick, b__law_pick, e, ha, trR_s0 so]
theorem orow_k {o : O} (t : Hh) (a : SrO o) {n : Nat} (hn : n ≤ 9000) : ∃ os o', Oc os ∧ os.length = n ∧ SrO o' ∧ m__law_octet_row [.ref 0, .int (n : Int)] (o :: t) = .ok (rowD os) (o' :: t) := by
  obtain ⟨b, o1, b0, b1, s1, e1⟩ := draw_k t a (m := 256) (by omega) (by omega)
  obtain ⟨c, o2, c0, c1, s2, e2⟩ := draw_k t s1 (m := 256) (by omega) (by omega)
  have hr : Sm.inR (n : Int) = true := inR_ok (by omega) (by omega)
  have lc := fz_lcM (i := 4) (m := (eB opMod (eN opInt [(eB opAdd (eV 2) (eB opMulA (eV 3) (eV 4)))]) (eC (.int 256)))) (env := [some (.ref 0), some (.int (n : Int)), some (.int b), some (.int c), none]) (h := o2 :: t) (fun i : Nat => D.int (i : Int)) (fun i : Nat => D.int ((b + c * (i : Int)) % 256)) (List.range n) (fun i hi acc => by
    have mo : mulOk c (i : Int) = true := mulOk_l (by omega) (by omega)
    simp [mo]) (szl (by simp; omega)) (by rw [los_all]; simp)
  rw [← rngD_range] at lc
  have ei : ((List.range n).map fun i : Nat => D.int ((b + c * (i : Int)) % 256)) = ((List.range n).map fun i : Nat => (b + c * (i : Int)) % 256).map D.int := by rw [List.map_map]; rfl
  rw [ei] at lc
  refine ⟨(List.range n).map fun i : Nat => (b + c * (i : Int)) % 256, o2, fun x hx => by
    obtain ⟨i, _, rfl⟩ := List.mem_map.mp hx
    have := Int.emod_nonneg (b + c * (i : Int)) (show (256 : Int) ≠ 0 by omega)
    have := Int.emod_lt_of_pos (b + c * (i : Int)) (show (0 : Int) < 256 by omega)
    omega, by simp, s2, ?_⟩
  have lo1 := los_ints (t.length + 1) ((List.range n).map fun i : Nat => (b + c * (i : Int)) % 256)
  simp only [rowD]
  generalize ((List.range n).map fun i : Nat => (b + c * (i : Int)) % 256).map D.int = L at lc lo1 ⊢
  have main : b__law_octet_row [some (.ref 0), some (.int (n : Int)), none, none, none] (o :: t) = .rt (.tup L) (o2 :: t) := by
    unfold b__law_octet_row
    rw [go_nx (e' := [some (.ref 0), some (.int (n : Int)), some (.int b), none, none]) (h' := o1 :: t) (by simp [e1])]
    rw [go_nx (e' := [some (.ref 0), some (.int (n : Int)), some (.int b), some (.int c), none]) (h' := o2 :: t) (by simp [e2])]
    generalize (eB opMod (eN opInt [(eB opAdd (eV 2) (eB opMulA (eV 3) (eV 4)))]) (eC (.int 256))) = F at lc ⊢
    simp only [List.length_cons, List.cons_append] at lc
    simp [hr, lc]
  show trR (o :: t) (fnEnd (b__law_octet_row [some (.ref 0), some (.int (n : Int)), none, none, none] (o :: t))) = _
  rw [main]
  exact trR_s0 s2
/-! ### wrong rows -/
theorem s1_tm : tm 1 (.str "1") = true := by simp only [tm, Bool.and_eq_true]; decide +kernel
theorem e_tm : tm 1 (.str "") = true := by simp only [tm, Bool.and_eq_true]; decide +kernel
def wrong : List D := [.int 256, .int (-1), .bl true, .bl false, .str "1", .non, .tup [.int 1]]
theorem wrong_tm : ∀ d ∈ wrong, tm 2 d = true ∧ oc d = false := by
  intro d hd
  simp only [wrong, List.mem_cons, List.not_mem_nil, or_false] at hd
  rcases hd with rfl | rfl | rfl | rfl | rfl | rfl | rfl
  · exact ⟨rfl, by simp [oc, Lk07.bt]⟩
  · exact ⟨rfl, by simp [oc, Lk07.bt]⟩
  · exact ⟨rfl, rfl⟩
  · exact ⟨rfl, rfl⟩
  · exact ⟨tm_mono (by omega) s1_tm, rfl⟩
  · exact ⟨rfl, rfl⟩
  · exact ⟨tm_mkT (k := 1) (fun d hd => by simp at hd; subst hd; rfl) (by simp), rfl⟩
/-- a value that pack_stream refuses -/
def rf (v : D) : Option (Int × Str) := match flt v, v with
  | some e, _ => some e
  | none, .tup ds => if 8000 < ds.length then some (8000, "long") else none
  | none, _ => none
theorem wrong_k {o : O} (t : Hh) (a : SrO o) (long : Bool) : ∃ v o', Val v ∧ (∃ e, rf v = some e) ∧ (long = false → ∃ e, flt v = some e) ∧ SrO o' ∧ m__law_wrong_row [.ref 0, .bl long] (o :: t) = .ok v (o' :: t) := by
  obtain ⟨w, o1, w0, w1, s1, e1⟩ := draw_k t a (m := 6) (by omega) (by omega)
  obtain ⟨z, o2, z0, z1, s2, e2⟩ := draw_k t s1 (m := 4) (by omega) (by omega)
  have ez : ((z.toNat : Nat) : Int) = z := by omega
  obtain ⟨os, o3, ho, hl, s3, e3⟩ := orow_k t s2 (n := z.toNat) (by omega)
  rw [ez] at e3
  have bad : ∀ v : D, (∃ e, flt v = some e) → ∃ e, rf v = some e := fun v ⟨e, q⟩ => ⟨e, by unfold rf; rw [q]⟩
  have st0 : b__law_wrong_row [some (.ref 0), some (.bl long), none, none, none, none] (o :: t) = (sSeq (sIf (tBl (eB opEq (eV 2) (eC (.int 0)))) (sRet (eCall m__law_pick [(eV 0), (eLstF [(eN opListF [(eV 3)]), (eC .non), (eC (.str "")), (eC (.int 0))])])) sSkip)
    (sSeq (sIf (tAndM (tTru (eV 1)) (tAndM (tBl (eB opEq (eV 2) (eC (.int 1)))) (tBl (eB opEq (eCall m__law_draw [(eV 0), (eC (.int 4))]) (eC (.int 3)))))) (sRet (eCall m__law_octet_row [(eV 0), (eC (.int 8001))])) sSkip)
    (sSeq (sSet 4 (eCall m__law_pick [(eV 0), (eLstF [(eC (.int 256)), (eU opNeg (eC (.int 1))), (eC (.bl true)), (eC (.bl false)), (eC (.str "1")), (eC .non), (eTup [(eC (.int 1))])])]))
    (sSeq (sSet 5 (eCall m__law_draw [(eV 0), (eB opAdd (eN opLen [(eV 3)]) (eC (.int 1)))]))
    (sRet (eB opAdd (eB opAdd (eSlF (eV 3) none (some (eV 5))) (eTup [(eV 4)])) (eSlF (eV 3) (some (eV 5)) none))))))) [some (.ref 0), some (.bl long), some (.int w), some (rowD os), none, none] (o3 :: t) := by
    unfold b__law_wrong_row
    simp only [rowD] at e3 ⊢
    generalize os.map D.int = X at e3 ⊢
    rw [go_nx (e' := [some (.ref 0), some (.bl long), some (.int w), none, none, none]) (h' := o1 :: t) (by simp [e1])]
    rw [go_nx (e' := [some (.ref 0), some (.bl long), some (.int w), some (.tup X), none, none]) (h' := o3 :: t) (by simp [e2, e3])]
  have fin : ∀ {v : D} {o' : O}, SrO o' → b__law_wrong_row [some (.ref 0), some (.bl long), none, none, none, none] (o :: t) = .rt v (o' :: t) → m__law_wrong_row [.ref 0, .bl long] (o :: t) = .ok v (o' :: t) := fun {v o'} so e => by
    show trR (o :: t) (fnEnd (b__law_wrong_row [some (.ref 0), some (.bl long), none, none, none, none] (o :: t))) = _
    rw [e]
    exact trR_s0 so
  by_cases h0 : w = 0
  · obtain ⟨v, o4, hv, s4, p4⟩ := pick_k t s3 (xs := [.fls (os.map D.int), .non, .str "", .int 0]) (by simp) (by simp) (fun d hd => by
      simp only [List.mem_cons, List.not_mem_nil, or_false] at hd
      rcases hd with rfl | rfl | rfl | rfl
      · rw [lo_fls]; exact los_ints _ _
      · rfl
      · rfl
      · rfl)
    have tv : Val v ∧ ∃ e, flt v = some e := by
      simp only [List.mem_cons, List.not_mem_nil, or_false] at hv
      rcases hv with rfl | rfl | rfl | rfl
      · exact ⟨.inl ⟨2, tm_mkF (fun d hd => by
          obtain ⟨i, _, rfl⟩ := List.mem_map.mp hd
          rfl) (by simp; omega)⟩, _, rfl⟩
      · exact ⟨.inl ⟨1, rfl⟩, _, rfl⟩
      · exact ⟨.inl ⟨1, e_tm⟩, _, rfl⟩
      · exact ⟨.inl ⟨1, rfl⟩, _, rfl⟩
    refine ⟨v, o4, tv.1, bad v tv.2, fun _ => tv.2, s4, fin s4 ?_⟩
    rw [st0]
    simp only [rowD]
    generalize os.map D.int = X at p4 ⊢
    refine go_rt ?_
    simp [h0, p4]
  · have n0 : (sIf (tBl (eB opEq (eV 2) (eC (.int 0)))) (sRet (eCall m__law_pick [(eV 0), (eLstF [(eN opListF [(eV 3)]), (eC .non), (eC (.str "")), (eC (.int 0))])])) sSkip) [some (.ref 0), some (.bl long), some (.int w), some (rowD os), none, none] (o3 :: t) = .nx [some (.ref 0), some (.bl long), some (.int w), some (rowD os), none, none] (o3 :: t) := by
      generalize eCall m__law_pick _ = F
      simp [h0]
    have rest : ∀ {o4 : O}, SrO o4 → (sIf (tAndM (tTru (eV 1)) (tAndM (tBl (eB opEq (eV 2) (eC (.int 1)))) (tBl (eB opEq (eCall m__law_draw [(eV 0), (eC (.int 4))]) (eC (.int 3)))))) (sRet (eCall m__law_octet_row [(eV 0), (eC (.int 8001))])) sSkip) [some (.ref 0), some (.bl long), some (.int w), some (rowD os), none, none] (o3 :: t) = .nx [some (.ref 0), some (.bl long), some (.int w), some (rowD os), none, none] (o4 :: t) →
        ∃ v o', Val v ∧ (∃ e, rf v = some e) ∧ (long = false → ∃ e, flt v = some e) ∧ SrO o' ∧ m__law_wrong_row [.ref 0, .bl long] (o :: t) = .ok v (o' :: t) := by
      intro o4 s4 e4
      obtain ⟨b, o5, hb, s5, p5⟩ := pick_k t s4 (xs := wrong) (by simp [wrong]) (by simp [wrong]) (fun d hd => tm_lo (wrong_tm d hd).1)
      obtain ⟨at_, o6, a0, a1, s6, e6⟩ := draw_k t s5 (m := (os.length : Int) + 1) (by omega) (by omega)
      obtain ⟨tb, nb⟩ := wrong_tm b hb
      have tX : ∀ d ∈ os.map D.int, tm 2 d = true := fun d hd => by
        obtain ⟨i, _, rfl⟩ := List.mem_map.mp hd
        rfl
      have ll : (((os.map D.int).length : Nat) : Int) = (os.length : Int) := by simp
      have ll2 : (os.map D.int).length ≤ 3 := by simp; omega
      have lX := los_ints (t.length + 1) os
      have fl : ∃ e, flt (.tup ((os.map D.int).take at_.toNat ++ [b] ++ (os.map D.int).drop at_.toNat)) = some e := by
        cases q : fb ((os.map D.int).take at_.toNat ++ [b] ++ (os.map D.int).drop at_.toNat) with
        | some k => exact ⟨_, by simp only [flt]; rw [q]; rfl⟩
        | none =>
          have := Lk07.fb_none q
          rw [List.all_append, List.all_append] at this
          simp [nb] at this
      refine ⟨.tup ((os.map D.int).take at_.toNat ++ [b] ++ (os.map D.int).drop at_.toNat), o6, .inl ⟨3, tm_mkT (k := 2) (fun d hd => by
        simp only [List.mem_append, List.mem_singleton] at hd
        rcases hd with (hd | rfl) | hd
        · exact tX d (List.mem_of_mem_take hd)
        · exact tb
        · exact tX d (List.mem_of_mem_drop hd)) (by simp; omega)⟩, bad _ fl, fun _ => fl, s6, fin s6 ?_⟩
      rw [st0, go_nx n0, go_nx e4]
      simp only [rowD]
      generalize os.map D.int = X at ll ll2 lX ⊢
      unfold wrong at p5
      rw [go_nx (e' := [some (.ref 0), some (.bl long), some (.int w), some (.tup X), some b, none]) (h' := o5 :: t) (by simp [p5])]
      rw [← ll] at e6
      rw [go_nx (e' := [some (.ref 0), some (.bl long), some (.int w), some (.tup X), some b, some (.int at_)]) (h' := o6 :: t) (by simp [e6])]
      have c1 := cutD_to (xs := X) a0
      have c2 := cutD_from (xs := X) a0
      have z1 : (X.take at_.toNat).length + 1 ≤ sizeLine := szl (by simp; omega)
      have z2 : (X.take at_.toNat).length + 1 + (X.drop at_.toNat).length ≤ sizeLine := szl (by simp; omega)
      generalize X.take at_.toNat = A at c1 z1 z2 ⊢
      generalize X.drop at_.toNat = B at c2 z2 ⊢
      simp [c1, c2, z1, z2]
    cases long with
    | false => exact rest s3 (by
        generalize eCall m__law_octet_row _ = F
        generalize rowD os = X
        simp)
    | true =>
      by_cases h1 : w = 1
      · obtain ⟨u, o4, u0, u1, s4, e4⟩ := draw_k t s3 (m := 4) (by omega) (by omega)
        by_cases h3 : u = 3
        · obtain ⟨ol, o5, hol, l5, s5, e5⟩ := orow_k t s4 (n := 8001) (by omega)
          refine ⟨rowD ol, o5, .inr ⟨ol, rfl, by omega⟩, ⟨(8000, "long"), ?_⟩, fun z => (by cases z), s5, fin s5 ?_⟩
          · unfold rf
            rw [flt_oc hol]
            show (if 8000 < (ol.map D.int).length then some ((8000 : Int), ("long" : Str)) else none) = _
            rw [if_pos (by simp; omega)]
          · rw [st0, go_nx n0]
            refine go_rt ?_
            generalize rowD os = X
            simp only [rowD] at e5 ⊢
            generalize ol.map D.int = Y at e5 ⊢
            have e5' : m__law_octet_row [.ref 0, .int 8001] (o4 :: t) = .ok (.tup Y) (o5 :: t) := e5
            simp [h1, e4, h3, e5']
        · exact rest s4 (by
            generalize eCall m__law_octet_row _ = F
            generalize rowD os = X
            simp [h1, e4, h3])
      · exact rest s3 (by
          generalize eCall m__law_octet_row _ = F
          generalize rowD os = X
          simp [h1])
end Lk09
/-! k09: rows drawn, pack_stream -/
namespace Lk09
open PySem L2 PyProof.Rows Sm
open Lk07 (Oc num oc fb)
theorem rows_loop : ∀ (xs : List D) (o : O) (rs : List (List Int)) (e2 e3 : Option D), SrO o → (∀ r ∈ rs, Oc r ∧ r.length ≤ 257) → rs.length + xs.length ≤ 100 → ∃ (rs' : List (List Int)) (o' : O) (f2 f3 : Option D), SrO o' ∧ (∀ r ∈ rs', Oc r ∧ r.length ≤ 257) ∧ rs'.length = rs.length + xs.length ∧
    forL (gtName 2) b__law_rows_1 none xs [some (.ref 0), some (.ref 1), e2, e3] [o, .lst (rs.map rowD)] = .nx [some (.ref 0), some (.ref 1), f2, f3] [o', .lst (rs'.map rowD)]
  | [], o, rs, e2, e3, s, hr, hl => ⟨rs, o, e2, e3, s, hr, rfl, forL_nil (gd := none) trivial⟩
  | x :: xs, o, rs, e2, e3, s, hr, hl => by
    rw [List.length_cons] at hl
    obtain ⟨z, o1, z0, z1, s1, e1⟩ := draw_k [.lst (rs.map rowD)] s (m := 5) (by omega) (by omega)
    obtain ⟨w, o2, w0, w1, s2, e2'⟩ := draw_k [.lst (rs.map rowD)] s1 (m := 12) (by omega) (by omega)
    have size : ∃ (n : Nat) (o3 : O), n ≤ 257 ∧ SrO o3 ∧ (sIf (tBl (eB opEq (eCall m__law_draw [(eV 0), (eC (.int 12))]) (eC (.int 11)))) (sSet 3 (eB opAdd (eC (.int 254)) (eCall m__law_draw [(eV 0), (eC (.int 4))]))) sSkip) [some (.ref 0), some (.ref 1), some x, some (.int z)] [o1, .lst (rs.map rowD)] = .nx [some (.ref 0), some (.ref 1), some x, some (.int (n : Int))] [o3, .lst (rs.map rowD)] := by
      generalize rs.map rowD = R at *
      by_cases h11 : w = 11
      · obtain ⟨u, o3, u0, u1, s3, e3⟩ := draw_k [.lst R] s2 (m := 4) (by omega) (by omega)
        refine ⟨(254 + u).toNat, o3, by omega, s3, ?_⟩
        have eu : (((254 + u).toNat : Nat) : Int) = 254 + u := by omega
        rw [eu]
        simp [e2', h11, e3]
      · refine ⟨z.toNat, o2, by omega, s2, ?_⟩
        have ez : ((z.toNat : Nat) : Int) = z := by omega
        rw [ez]
        simp [e2', h11]
    obtain ⟨n, o3, hn, s3, e3'⟩ := size
    obtain ⟨os, o4, ho, l4, s4, e4⟩ := orow_k [.lst (rs.map rowD)] s3 (n := n) (by omega)
    have sl : (rs.map rowD).length < sizeLine := szlt (by simp; omega)
    have t : b__law_rows_1 [some (.ref 0), some (.ref 1), some x, e3] [o, .lst (rs.map rowD)] = .nx [some (.ref 0), some (.ref 1), some x, some (.int (n : Int))] [o4, .lst ((rs ++ [os]).map rowD)] := by
      have em : (rs ++ [os]).map rowD = rs.map rowD ++ [rowD os] := by simp
      rw [em]
      unfold b__law_rows_1
      generalize rs.map rowD = R at *
      generalize rowD os = X at *
      rw [go_nx (e' := [some (.ref 0), some (.ref 1), some x, some (.int z)]) (h' := [o1, .lst R]) (by simp [e1]), go_nx e3']
      simp [e4, sl]
    obtain ⟨rs', o', f2, f3, q1, q2, q3, q4⟩ := rows_loop xs o4 (rs ++ [os]) (some x) (some (.int (n : Int))) s4 (fun r hm => by
      rcases List.mem_append.mp hm with hm | hm
      · exact hr r hm
      · simp at hm
        subst hm
        exact ⟨ho, by omega⟩) (by simp; omega)
    refine ⟨rs', o', f2, f3, q1, q2, by rw [q3]; simp; omega, ?_⟩
    rw [forL_nx (gd := none) (e1 := rfl) trivial t]
    exact q4
theorem flat_len {rs : List (List Int)} (h : ∀ r ∈ rs, r.length ≤ 257) : rs.flatten.length ≤ 257 * rs.length := by
  induction rs with
  | nil => simp
  | cons r rs ih =>
    have h1 := h r (by simp)
    have h2 := ih (fun x hx => h x (by simp [hx]))
    rw [List.flatten_cons, List.length_append, List.length_cons]
    omega
theorem rows_k {o : O} (a : SrO o) : ∃ (rs : List (List Int)) (o' : O), (∀ r ∈ rs, Oc r ∧ r.length ≤ 8000) ∧ rs.length ≤ 6 ∧ rs.flatten.length ≤ 9285 ∧ SrO o' ∧ m__law_rows [.ref 0] [o] = .ok (.fls (rs.map rowD)) [o'] := by
  obtain ⟨c, o1, c0, c1, s1, e1⟩ := draw_k [.lst []] a (m := 6) (by omega) (by omega)
  have hr : Sm.inR c = true := inR_ok (by omega) (by omega)
  obtain ⟨rs, o2, f2, f3, s2, hrs, l2, lp⟩ := rows_loop (rngD 0 c.toNat) o1 [] none none s1 (fun _ z => by simp at z) (by simp [rngD]; omega)
  have lrs : rs.length ≤ 5 := by rw [l2]; simp [rngD]; omega
  have fl := flat_len fun r hm => (hrs r hm).2
  obtain ⟨w, o3, w0, w1, s3, e3⟩ := draw_k [.lst (rs.map rowD)] s2 (m := 24) (by omega) (by omega)
  have step : ∃ (rs' : List (List Int)) (o4 : O), (∀ r ∈ rs', Oc r ∧ r.length ≤ 8000) ∧ rs'.length ≤ 6 ∧ rs'.flatten.length ≤ 9285 ∧ SrO o4 ∧ (sIf (tBl (eB opEq (eCall m__law_draw [(eV 0), (eC (.int 24))]) (eC (.int 23)))) (sExpr (eMt opAppend (eV 1) [(eCall m__law_octet_row [(eV 0), (eB opAdd (eC (.int 7999)) (eCall m__law_draw [(eV 0), (eC (.int 2))]))])])) sSkip) [some (.ref 0), some (.ref 1), f2, f3] [o2, .lst (rs.map rowD)] = .nx [some (.ref 0), some (.ref 1), f2, f3] [o4, .lst (rs'.map rowD)] := by
    by_cases h23 : w = 23
    · obtain ⟨u, o4, u0, u1, s4, e4⟩ := draw_k [.lst (rs.map rowD)] s3 (m := 2) (by omega) (by omega)
      have eu : (((7999 + u).toNat : Nat) : Int) = 7999 + u := by omega
      obtain ⟨os, o5, ho, l5, s5, e5⟩ := orow_k [.lst (rs.map rowD)] s4 (n := (7999 + u).toNat) (by omega)
      rw [eu] at e5
      have sl : (rs.map rowD).length < sizeLine := szlt (by simp; omega)
      have em : (rs ++ [os]).map rowD = rs.map rowD ++ [rowD os] := by simp
      refine ⟨rs ++ [os], o5, fun r hm => ?_, by simp; omega, by rw [List.flatten_append, List.length_append]; simp only [List.flatten_cons, List.flatten_nil, List.append_nil]; omega, s5, ?_⟩
      · rcases List.mem_append.mp hm with hm | hm
        · exact ⟨(hrs r hm).1, by have := (hrs r hm).2; omega⟩
        · simp at hm
          subst hm
          exact ⟨ho, by omega⟩
      · rw [em]
        generalize rs.map rowD = R at *
        generalize rowD os = X at *
        simp [e3, h23, e4, e5, sl]
    · refine ⟨rs, o3, fun r hm => ⟨(hrs r hm).1, by have := (hrs r hm).2; omega⟩, by omega, by omega, s3, ?_⟩
      generalize rs.map rowD = R at *
      generalize eCall m__law_octet_row _ = F
      simp [e3, h23]
  obtain ⟨rs', o4, h1, h2, h3, s4, e4⟩ := step
  refine ⟨rs', o4, h1, h2, h3, s4, ?_⟩
  have lo1 := los_rows 1 rs'
  have main : b__law_rows [some (.ref 0), none, none, none] [o] = .rt (.fls (rs'.map rowD)) [o4, .dead] := by
    unfold b__law_rows
    rw [go_nx (e' := [some (.ref 0), some (.ref 1), none, none]) (h' := [o, .lst []]) (by simp)]
    rw [go_nx (e' := [some (.ref 0), some (.ref 1), f2, f3]) (h' := [o2, .lst (rs.map rowD)]) (by
      rw [List.map_nil] at lp
      generalize b__law_rows_1 = B at lp ⊢
      simp [e1, hr, lp]), go_nx e4]
    generalize rs'.map rowD = R
    have fz := fz1_old (h := [o4, .lst R]) (ds := R) (n := 1) rfl
    simp [fz]
  show trR [o] (fnEnd (b__law_rows [some (.ref 0), none, none, none] [o])) = _
  rw [main]
  have := trR_s1 (o := o) (o' := o4) (d := .fls (rs'.map rowD)) s4 (x := .dead)
  show trR [o] (.ok _ [o4, .dead]) = _
  rw [this, if_pos]
  rw [lo_fls]
  exact lo1
/-! ### pack_stream -/
def pk (r : List Int) : List Int := [(r.length : Int) / 256, (r.length : Int) % 256] ++ r
def pks (rs : List (List Int)) : List Int := (rs.map pk).flatten
theorem pks_len (rs : List (List Int)) : (pks rs).length = rs.flatten.length + 2 * rs.length := by
  induction rs with
  | nil => rfl
  | cons r rs ih =>
    show (pk r ++ pks rs).length = _
    rw [List.length_append, ih, List.flatten_cons, List.length_append, List.length_cons]
    simp [pk]
    omega
theorem pks_oc {rs : List (List Int)} (h : ∀ r ∈ rs, Oc r ∧ r.length ≤ 8000) : Oc (pks rs) := by
  induction rs with
  | nil => exact fun _ z => by simp [pks] at z
  | cons r rs ih =>
    have h1 := h r (by simp)
    have h2 := ih (fun x hx => h x (by simp [hx]))
    intro a ha
    have ha' : a ∈ pk r ++ pks rs := ha
    rcases List.mem_append.mp ha' with ha | ha
    · simp only [pk, List.mem_append, List.mem_cons, List.not_mem_nil, or_false] at ha
      rcases ha with (rfl | rfl) | ha
      · omega
      · omega
      · exact h1.1 a ha
    · exact h2 a ha
theorem fn2 {n : Nat} (hn : n ≤ 8000) (h : Hh) : m_from_number [.int (n : Int), .int 2] h = .ok (.tup [.int ((n : Int) / 256), .int ((n : Int) % 256)]) h := by
  rw [q_from]
  have := Lk07.from_number_spec (os := [(n : Int) / 256, (n : Int) % 256]) (fun o ho => by
    simp only [List.mem_cons, List.not_mem_nil, or_false] at ho
    rcases ho with rfl | rfl <;> omega) (by simp) h
  have e : num [(n : Int) / 256, (n : Int) % 256] 0 = (n : Int) := by
    simp only [num, List.foldl_cons, List.foldl_nil]
    omega
  rw [e] at this
  exact this
/-- the first row that is refused -/
def rfs : List D → Option (Int × Str)
  | [] => none
  | v :: vs => match rf v with
    | some e => some e
    | none => rfs vs
theorem rf_none {v : D} (hv : Val v) (e : rf v = none) : ∃ x, Oc x ∧ v = rowD x ∧ x.length ≤ 8000 := by
  unfold rf at e
  cases q : flt v with
  | some y => rw [q] at e; cases e
  | none =>
    obtain ⟨x, hx, rfl, hl⟩ := flt_none q hv
    rw [q] at e
    refine ⟨x, hx, rfl, ?_⟩
    have e : (if 8000 < (x.map D.int).length then some ((8000 : Int), ("long" : Str)) else none) = none := e
    split at e
    · cases e
    · rename_i z
      simp at z
      omega
theorem rf_some {v : D} {a : Int} {y : Str} (hv : Val v) (e : rf v = some (a, y)) : flt v = some (a, y) ∨ (∃ x, Oc x ∧ v = rowD x ∧ x.length ≤ 60000 ∧ 8000 < x.length ∧ a = 8000 ∧ y = "long") := by
  unfold rf at e
  cases q : flt v with
  | some z => rw [q] at e; exact .inl e
  | none =>
    obtain ⟨x, hx, rfl, hl⟩ := flt_none q hv
    rw [q] at e
    have e : (if 8000 < (x.map D.int).length then some ((8000 : Int), ("long" : Str)) else none) = some (a, y) := e
    split at e
    · rename_i z
      cases e
      exact .inr ⟨x, hx, rfl, hl, by simpa using z, rfl, rfl⟩
    · cases e
theorem rf_tm {v : D} {a : Int} {y : Str} (hv : Val v) (e : rf v = some (a, y)) : tm 1 (.str y) = true := by
  rcases rf_some hv e with q | ⟨_, _, _, _, _, _, rfl⟩
  · exact flt_tm q
  · exact long_tm
theorem rfs_tm : ∀ {vs : List D} {a : Int} {y : Str}, (∀ v ∈ vs, Val v) → rfs vs = some (a, y) → tm 1 (.str y) = true
  | [], _, _, _, e => by cases e
  | v :: vs, a, y, h, e => by
    unfold rfs at e
    cases q : rf v with
    | some z =>
      rw [q] at e
      cases e
      exact rf_tm (h v (by simp)) q
    | none =>
      rw [q] at e
      exact rfs_tm (fun x hx => h x (by simp [hx])) e
theorem forL_exc {g : TgM} {body : S} {gd : Option (Nat × O)} {x : D} {xs fs : List D} {env env1 e' : Ev} {h h' : Hh} {c : Nat} (hg : gdOk gd h) (e1 : g x h env = some env1) (e2 : body env1 h = .exc c fs e' h') : forL g body gd (x :: xs) env h = .exc c fs e' h' := by
  rw [forL, if_pos hg, e1]
  dsimp only
  rw [e2]
section
variable {h : Hh} {v0 : D}
theorem pack_turn {x : List Int} (hx : Oc x) (hl : x.length ≤ 8000) {acc : List Int} (ha : acc.length ≤ 1000000) (hv0 : lo (h.length + 1) v0 = true) :
    b_pack_stream_1 [some v0, some (.ref h.length), some (rowD x)] (h ++ [.lst (acc.map D.int)]) = .nx [some v0, some (.ref h.length), some (rowD x)] (h ++ [.lst ((acc ++ pk x).map D.int)]) := by
  have c := check_val (.inr ⟨x, rfl, by omega⟩) (h ++ [.lst (acc.map D.int)])
  rw [flt_oc hx] at c
  dsimp only at c
  have f2 := fn2 hl (h ++ [.lst (acc.map D.int)])
  have lx : (((x.map D.int).length : Nat) : Int) = (x.length : Int) := by simp
  have n8 : ¬ 8000 < (x.length : Int) := by omega
  have he : ∀ d, some d ∈ [some v0, some (D.ref h.length), some (rowD x)] → lo (h.length + 1) d = true := fun d hd => by
    simp only [List.mem_cons, List.not_mem_nil, or_false, Option.some.injEq] at hd
    rcases hd with z | z | z <;> subst z
    · exact hv0
    · simp
    · exact lo_row _ _
  have em : (acc ++ pk x).map D.int = acc.map D.int ++ [.int ((x.length : Int) / 256), .int ((x.length : Int) % 256)] ++ x.map D.int := by
    rw [List.map_append, pk, List.map_append, ← List.append_assoc]
    rfl
  have z1 : (acc.map D.int).length + 2 ≤ sizeLine := szl (by simp; omega)
  have z2 : (acc.map D.int).length + 2 + (x.map D.int).length ≤ sizeLine := szl (by simp; omega)
  have l1 := los_ints (h.length + 1) acc
  have l2 := los_ints (h.length + 1) x
  rw [em]
  simp only [rowD] at c he ⊢
  unfold b_pack_stream_1
  generalize acc.map D.int = A at *
  generalize x.map D.int = X at *
  rw [go_nx (e' := [some v0, some (.ref h.length), some (.tup X)]) (h' := h ++ [.lst A]) (by simp [c])]
  rw [go_nx (e' := [some v0, some (.ref h.length), some (.tup X)]) (h' := h ++ [.lst A]) (by simp [lx, n8])]
  generalize hP : [D.int ((x.length : Int) / 256), D.int ((x.length : Int) % 256)] = P at *
  have lP : P.length = 2 := by rw [← hP]; rfl
  have loP : los (h.length + 1) P = true := by rw [← hP]; rfl
  have s1 : sTr (sExpr (eMt opExtend (eV 1) [(eN opList [(eCall m_from_number [(eN opLen [(eV 2)]), (eC (.int 2))])])])) [some v0, some (.ref h.length), some (.tup X)] (h ++ [.lst A]) = .nx [some v0, some (.ref h.length), some (.tup X)] (h ++ [.lst (A ++ P)]) := by
    have run : sExpr (eMt opExtend (eV 1) [(eN opList [(eCall m_from_number [(eN opLen [(eV 2)]), (eC (.int 2))])])]) [some v0, some (.ref h.length), some (.tup X)] (h ++ [.lst A]) = .nx [some v0, some (.ref h.length), some (.tup X)] (h ++ [.lst (A ++ P)] ++ [.lst P]) := by
      have g2 : (h ++ [O.lst A, O.lst P])[h.length]? = some (.lst A) := by simp
      have g3 : (h ++ [O.lst A, O.lst P])[h.length + 1]? = some (.lst P) := by simp
      have g4 : (h ++ [O.lst A, O.lst P]).set h.length (.lst (A ++ P)) = h ++ [.lst (A ++ P), .lst P] := by simp
      have z1' : A.length + P.length ≤ sizeLine := by rw [lP]; exact z1
      simp [lx, f2, g2, g3, g4, z1']
    rw [sTr_eq, run]
    exact trS_top he (by show los _ _ = true; rw [los_app, l1, loP]; rfl)
  rw [go_nx s1]
  have run2 : sExpr (eMt opExtend (eV 1) [(eN opList [(eV 2)])]) [some v0, some (.ref h.length), some (.tup X)] (h ++ [.lst (A ++ P)]) = .nx [some v0, some (.ref h.length), some (.tup X)] (h ++ [.lst (A ++ P ++ X)] ++ [.lst X]) := by
    have g2 : (h ++ [O.lst (A ++ P), O.lst X])[h.length]? = some (.lst (A ++ P)) := by simp
    have g3 : (h ++ [O.lst (A ++ P), O.lst X])[h.length + 1]? = some (.lst X) := by simp
    have g4 : (h ++ [O.lst (A ++ P), O.lst X]).set h.length (.lst (A ++ P ++ X)) = h ++ [.lst (A ++ P ++ X), .lst X] := by simp
    have z2' : (A ++ P).length + X.length ≤ sizeLine := by rw [List.length_append, lP]; exact z2
    generalize A ++ P = AP at *
    simp [g2, g3, g4, z2']
  rw [sTr_eq, run2]
  exact trS_top he (by show los _ _ = true; rw [los_app, los_app, l1, loP, l2]; rfl)
theorem pack_loop (hv0 : lo (h.length + 1) v0 = true) : ∀ (vs : List D) (acc : List Int) (e2 : Option D), (∀ v ∈ vs, Val v) → acc.length + 8002 * vs.length ≤ 1000000 →
    (rfs vs = none → ∃ (rs : List (List Int)) (f2 : Option D), vs = rs.map rowD ∧ forL (gtName 2) b_pack_stream_1 none vs [some v0, some (.ref h.length), e2] (h ++ [.lst (acc.map D.int)]) = .nx [some v0, some (.ref h.length), f2] (h ++ [.lst ((acc ++ pks rs).map D.int)])) ∧
    (∀ a y, rfs vs = some (a, y) → ∃ E A, forL (gtName 2) b_pack_stream_1 none vs [some v0, some (.ref h.length), e2] (h ++ [.lst (acc.map D.int)]) = .exc 0 [.int a, .str y] E (h ++ [.lst A]))
  | [], acc, e2, _, _ => ⟨fun _ => ⟨[], e2, rfl, by
      rw [show pks [] = [] from rfl, List.append_nil]
      exact forL_nil (gd := none) trivial⟩, fun _ _ z => by cases z⟩
  | v :: vs, acc, e2, hv, hl => by
    rw [List.length_cons] at hl
    have hv1 := hv v (by simp)
    unfold rfs
    cases q : rf v with
    | none =>
      obtain ⟨x, hx, rfl, xl⟩ := rf_none hv1 q
      have t := pack_turn (h := h) (v0 := v0) hx xl (acc := acc) (by omega) hv0
      have ih := pack_loop hv0 vs (acc ++ pk x) (some (rowD x)) (fun w hw => hv w (by simp [hw])) (by simp [pk]; omega)
      rw [forL_nx (gd := none) (e1 := rfl) trivial t]
      refine ⟨fun z => ?_, fun a y z => ih.2 a y z⟩
      obtain ⟨rs, f2, e, lp⟩ := ih.1 z
      refine ⟨x :: rs, f2, by rw [e]; rfl, ?_⟩
      rw [lp]
      have : acc ++ pks (x :: rs) = acc ++ pk x ++ pks rs := by
        rw [List.append_assoc]
        rfl
      rw [this]
    | some ay =>
      obtain ⟨a, y⟩ := ay
      refine ⟨fun z => absurd z (by simp), fun a' y' z => ?_⟩
      cases z
      rcases rf_some hv1 q with q2 | ⟨x, hx, rfl, xl, xl2, rfl, rfl⟩
      · have c := check_val hv1 (h ++ [.lst (acc.map D.int)])
        rw [q2] at c
        dsimp only at c
        have t : b_pack_stream_1 [some v0, some (.ref h.length), some v] (h ++ [.lst (acc.map D.int)]) = .exc 0 [.int a, .str y] [some v0, some (.ref h.length), some v] (h ++ [.lst (acc.map D.int)]) := by
          unfold b_pack_stream_1
          refine go_exc ?_
          generalize acc.map D.int = A at c ⊢
          simp [c]
        exact ⟨_, _, Lk09.forL_exc (gd := none) trivial rfl t⟩
      · have c := check_val hv1 (h ++ [.lst (acc.map D.int)])
        rw [flt_oc hx] at c
        dsimp only at c
        have lx : (8000 : Int) < (((x.map D.int).length : Nat) : Int) := by simp; omega
        have t : b_pack_stream_1 [some v0, some (.ref h.length), some (rowD x)] (h ++ [.lst (acc.map D.int)]) = .exc 0 [.int 8000, .str "long"] [some v0, some (.ref h.length), some (rowD x)] (h ++ [.lst (acc.map D.int)]) := by
          unfold b_pack_stream_1
          simp only [rowD] at c ⊢
          generalize acc.map D.int = A at c ⊢
          generalize x.map D.int = X at c lx ⊢
          rw [go_nx (e' := [some v0, some (.ref h.length), some (.tup X)]) (h' := h ++ [.lst A]) (by simp [c])]
          refine go_exc ?_
          simp [lx]
        exact ⟨_, _, Lk09.forL_exc (gd := none) trivial rfl t⟩
end
end Lk09
/-! k09: _law_is_packed, _law_piece -/
namespace Lk09
open PySem L2 PyProof.Rows Sm
open Lk07 (Oc num oc fb)
theorem int_inj : ∀ {a b : List Int}, a.map D.int = b.map D.int → a = b
  | [], [], _ => rfl
  | [], _ :: _, e => by simp at e
  | _ :: _, [], e => by simp at e
  | x :: a, y :: b, e => by
    simp only [List.map_cons, List.cons.injEq, D.int.injEq] at e
    rw [e.1, int_inj e.2]
theorem rows_inj : ∀ {a b : List (List Int)}, a.map rowD = b.map rowD → a = b
  | [], [], _ => rfl
  | [], _ :: _, e => by simp at e
  | _ :: _, [], e => by simp at e
  | x :: a, y :: b, e => by
    simp only [List.map_cons, List.cons.injEq, D.tup.injEq] at e
    rw [int_inj e.1, rows_inj e.2]
theorem rf_ok {x : List Int} (hx : Oc x) (hl : x.length ≤ 8000) : rf (rowD x) = none := by
  unfold rf
  rw [flt_oc hx]
  show (if 8000 < (x.map D.int).length then some ((8000 : Int), ("long" : Str)) else none) = _
  rw [if_neg (by simp; omega)]
theorem rfs_ok : ∀ {rs : List (List Int)}, (∀ r ∈ rs, Oc r ∧ r.length ≤ 8000) → rfs (rs.map rowD) = none
  | [], _ => rfl
  | r :: rs, h => by
    have h1 := h r (by simp)
    rw [List.map_cons]
    unfold rfs
    rw [rf_ok h1.1 h1.2]
    exact rfs_ok fun x hx => h x (by simp [hx])
theorem val_row {r : List Int} (hl : r.length ≤ 8001) : Val (rowD r) := .inr ⟨r, rfl, by omega⟩
section
variable {h : Hh}
theorem pack_good {rs : List (List Int)} (hr : ∀ r ∈ rs, Oc r ∧ r.length ≤ 8000) (hl : rs.length ≤ 100) : m_pack_stream [.tup (rs.map rowD)] h = .ok (.tup ((pks rs).map D.int)) h := by
  have lo1 := los_rows (h.length + 1) rs
  obtain ⟨rs', f2, e, lp⟩ := (pack_loop (h := h) (v0 := .tup (rs.map rowD)) (by rw [lo_tup]; exact lo1) (rs.map rowD) [] none (fun v hv => by
    obtain ⟨r, hm, rfl⟩ := List.mem_map.mp hv
    exact val_row (by have := (hr r hm).2; omega)) (by simp; omega)).1 (rfs_ok hr)
  rw [← rows_inj e, List.nil_append, List.map_nil] at lp
  refine fn_rtA (g := [.lst ((pks rs).map D.int)]) ?_ (by rw [lo_tup]; exact los_ints _ _)
  unfold b_pack_stream
  show sSeq _ _ [some (.tup (rs.map rowD)), none, none] h = _
  generalize rs.map rowD = R at lp ⊢
  generalize (pks rs).map D.int = P at lp ⊢
  rw [go_nx (e' := [some (.tup R), none, none]) (h' := h) (by simp)]
  rw [go_nx (e' := [some (.tup R), some (.ref h.length), none]) (h' := h ++ [.lst []]) (by simp)]
  rw [go_nx (e' := [some (.tup R), some (.ref h.length), f2]) (h' := h ++ [.lst P]) (by
    generalize b_pack_stream_1 = B at lp ⊢
    simp [lp])]
  simp
theorem pack_bad {vs : List D} {a : Int} {y : Str} (hv : ∀ v ∈ vs, Val v) (hl : vs.length ≤ 100) (e : rfs vs = some (a, y)) : m_pack_stream [.tup vs] h = .exc 0 [.int a, .str y] h := by
  obtain ⟨E, A, lp⟩ := (pack_loop (h := h) (v0 := .tup vs) (by
    rw [lo_tup, los_all, List.all_eq_true]
    exact fun v hm => (hv v hm).lo _) vs [] none hv (by simp; omega)).2 a y e
  rw [List.map_nil] at lp
  refine fn_excA (g := [.lst A]) (e' := E) ?_ rfl
  unfold b_pack_stream
  show sSeq _ _ [some (.tup vs), none, none] h = _
  rw [go_nx (e' := [some (.tup vs), none, none]) (h' := h) (by simp)]
  rw [go_nx (e' := [some (.tup vs), some (.ref h.length), none]) (h' := h ++ [.lst []]) (by simp)]
  refine go_exc ?_
  generalize b_pack_stream_1 = B at lp ⊢
  simp [lp]
theorem pack_shape {v : D} (hv : v = .non ∨ ∃ ds, v = .fls ds) : m_pack_stream [v] h = .exc 0 [.int 0, .str "shape"] h := by
  rcases hv with rfl | ⟨ds, rfl⟩ <;> simp [m_pack_stream, b_pack_stream, trR_exc0]
end
/-! ### _law_is_packed -/
def frst (c d : Option (Int × Str)) : Option (Int × Str) := match c with
  | some z => some z
  | none => d
def dD : Option (Int × Str) → D
  | none => .non
  | some (a, y) => .tup [.int a, .str y]
theorem rfs_ex : ∀ {vs : List D}, (∃ v ∈ vs, ∃ e, rf v = some e) → ∃ e, rfs vs = some e
  | [], ⟨v, hv, _⟩ => by simp at hv
  | v :: vs, ⟨w, hw, e, he⟩ => by
    unfold rfs
    cases q : rf v with
    | some z => exact ⟨z, rfl⟩
    | none =>
      rcases List.mem_cons.mp hw with rfl | hw
      · rw [he] at q; cases q
      · exact rfs_ex ⟨w, hw, e, he⟩
theorem ins_loop {t : Hh} {v1 : Option D} : ∀ (xs : List D) (o : O) (ds : List D) (e3 : Option D), SrO o → (∀ v ∈ ds, Val v) → ds.length + xs.length ≤ 50 → ∃ (ds' : List D) (o' : O) (f3 : Option D), SrO o' ∧ (∀ v ∈ ds', Val v) ∧ ds'.length ≤ 50 ∧ ((xs ≠ [] ∨ ∃ v ∈ ds, ∃ e, rf v = some e) → ∃ v ∈ ds', ∃ e, rf v = some e) ∧
    forL (gtName 3) b__law_is_packed_1 none xs [some (.ref 0), v1, some (.ref (t.length + 1)), e3, none, none, none, none, none] (o :: (t ++ [.lst ds])) = .nx [some (.ref 0), v1, some (.ref (t.length + 1)), f3, none, none, none, none, none] (o' :: (t ++ [.lst ds']))
  | [], o, ds, e3, s, hv, hl => ⟨ds, o, e3, s, hv, by simpa using hl, fun z => z.elim (fun z => absurd rfl z) id, forL_nil (gd := none) trivial⟩
  | x :: xs, o, ds, e3, s, hv, hl => by
    rw [List.length_cons] at hl
    obtain ⟨r, o1, r0, r1, s1, e1⟩ := draw_k (t ++ [.lst ds]) s (m := (ds.length : Int) + 1) (by omega) (by omega)
    obtain ⟨w, o2, hw, hbad, _, s2, e2⟩ := wrong_k (t ++ [.lst ds]) s1 true
    have sl : ds.length < sizeLine := szlt (by omega)
    have r63 : r < 2 ^ 63 := by
      have e : (2 : Int) ^ 63 = 9223372036854775808 := by decide
      rw [e]; omega
    have ga : ∀ o : O, (o :: (t ++ [O.lst ds]))[t.length + 1]? = some (.lst ds) := fun o => by simp
    have ins : opInsert (.ref (t.length + 1)) [.int r, w] (o2 :: (t ++ [.lst ds])) = some (.non, o2 :: (t ++ [.lst (ds.take r.toNat ++ [w] ++ ds.drop r.toNat)])) := by
      show (match (o2 :: (t ++ [O.lst ds]))[t.length + 1]? with
        | some (.lst xs) => if xs.length < sizeLine ∧ 0 ≤ r ∧ r < 2 ^ 63 then some (D.non, (o2 :: (t ++ [O.lst ds])).set (t.length + 1) (.lst (xs.take r.toNat ++ [w] ++ xs.drop r.toNat))) else none
        | _ => none) = _
      rw [ga]
      show (if ds.length < sizeLine ∧ 0 ≤ r ∧ r < 2 ^ 63 then some (D.non, (o2 :: (t ++ [O.lst ds])).set (t.length + 1) (.lst (ds.take r.toNat ++ [w] ++ ds.drop r.toNat))) else none) = _
      rw [if_pos ⟨sl, r0, r63⟩]
      simp
    have tn : b__law_is_packed_1 [some (.ref 0), v1, some (.ref (t.length + 1)), some x, none, none, none, none, none] (o :: (t ++ [.lst ds])) = .nx [some (.ref 0), v1, some (.ref (t.length + 1)), some x, none, none, none, none, none] (o2 :: (t ++ [.lst (ds.take r.toNat ++ [w] ++ ds.drop r.toNat)])) := by
      unfold b__law_is_packed_1
      generalize ds.take r.toNat ++ [w] ++ ds.drop r.toNat = T at ins ⊢
      have g1 := ga o
      simp [e1, e2, ins]
    obtain ⟨ds', o', f3, q1, q2, q3, q4, q5⟩ := ins_loop (t := t) (v1 := v1) xs o2 (ds.take r.toNat ++ [w] ++ ds.drop r.toNat) (some x) s2 (fun d hd => by
      simp only [List.mem_append, List.mem_singleton] at hd
      rcases hd with (hd | rfl) | hd
      · exact hv d (List.mem_of_mem_take hd)
      · exact hw
      · exact hv d (List.mem_of_mem_drop hd)) (by simp; omega)
    refine ⟨ds', o', f3, q1, q2, q3, fun _ => q4 (.inr ⟨w, by simp, hbad⟩), ?_⟩
    rw [forL_nx (gd := none) (e1 := rfl) trivial tn]
    exact q5
theorem due_loop {v1 v2 e3 : Option D} {H : Hh} {i : Nat} {ob : O} (hi : H[i]? = some ob) : ∀ (vs : List D) (c : Option (Int × Str)) (e5 e8 : Option D), (∀ v ∈ vs, Val v) → ∃ f5 f8,
    forL (gtName 5) b__law_is_packed_2 (some (i, ob)) vs [some (.ref 0), v1, v2, e3, some (dD c), e5, none, none, e8] H = .nx [some (.ref 0), v1, v2, e3, some (dD (frst c (rfs vs))), f5, none, none, f8] H
  | [], c, e5, e8, _ => ⟨e5, e8, by cases c <;> exact forL_nil hi⟩
  | v :: vs, c, e5, e8, hv => by
    have hv1 := hv v (by simp)
    have fa := fault_val hv1 H
    have step : b__law_is_packed_2 [some (.ref 0), v1, v2, e3, some (dD c), some v, none, none, e8] H = .nx [some (.ref 0), v1, v2, e3, some (dD (frst c (rf v))), some v, none, none, some (dD (rf v))] H := by
      have fa' : m__law_octet_fault [v] H = .ok (dD (flt v)) H := by
        rw [fa]
        cases flt v <;> rfl
      have st2 : (sIf (tAndM (tBl (eU opIsN (eV 8))) (tBl (eB opGtX (eN opLen [(eV 5)]) (eC (.int 8000))))) (sSet 8 (eTup [(eC (.int 8000)), (eC (.str "long"))])) sSkip) [some (.ref 0), v1, v2, e3, some (dD c), some v, none, none, some (dD (flt v))] H = .nx [some (.ref 0), v1, v2, e3, some (dD c), some v, none, none, some (dD (rf v))] H := by
        cases q : flt v with
        | some z =>
          have : rf v = some z := by unfold rf; rw [q]
          rw [this]
          simp [dD]
        | none =>
          obtain ⟨x, hx, rfl, hl⟩ := flt_none q hv1
          have lx : (((x.map D.int).length : Nat) : Int) = (x.length : Int) := by simp
          have er : rf (rowD x) = if 8000 < x.length then some ((8000 : Int), ("long" : Str)) else none := by
            unfold rf
            rw [q]
            show (if 8000 < (x.map D.int).length then some ((8000 : Int), ("long" : Str)) else none) = _
            rw [List.length_map]
          rw [er]
          simp only [rowD]
          generalize x.map D.int = X at lx ⊢
          by_cases h8 : 8000 < x.length
          · rw [if_pos h8]
            have h8' : (8000 : Int) < (x.length : Int) := by omega
            simp [dD, lx, h8']
          · rw [if_neg h8]
            have h8' : ¬ (8000 : Int) < (x.length : Int) := by omega
            simp [dD, lx, h8']
      unfold b__law_is_packed_2
      rw [go_nx (e' := [some (.ref 0), v1, v2, e3, some (dD c), some v, none, none, some (dD (flt v))]) (h' := H) (by simp [fa'])]
      rw [go_nx st2]
      cases c with
      | some z => simp [dD, frst]
      | none => simp [dD, frst]
    rw [forL_nx (gd := some (i, ob)) (e1 := rfl) hi step]
    obtain ⟨f5, f8, ih⟩ := due_loop hi (v1 := v1) (v2 := v2) (e3 := e3) vs (frst c (rf v)) (some v) (some (dD (rf v))) (fun w hw => hv w (by simp [hw]))
    refine ⟨f5, f8, ih.trans ?_⟩
    cases c with
    | some z => rfl
    | none =>
      have : frst (frst none (rf v)) (rfs vs) = frst none (rfs (v :: vs)) := by
        show frst (rf v) (rfs vs) = rfs (v :: vs)
        rw [rfs]
        cases rf v <;> rfl
      rw [this]
theorem packed_k {o : O} (t : Hh) (a : SrO o) {rs : List (List Int)} (hr : ∀ r ∈ rs, Oc r ∧ r.length ≤ 8000) (hl : rs.length ≤ 6) : ∃ o', SrO o' ∧ m__law_is_packed [.ref 0, .fls (rs.map rowD)] (o :: t) = .ok (.bl true) (o' :: t) := by
  have vr : ∀ v ∈ rs.map rowD, Val v := fun v hv => by
    obtain ⟨r, hm, rfl⟩ := List.mem_map.mp hv
    exact val_row (by have := (hr r hm).2; omega)
  have lR : (rs.map rowD).length ≤ 6 := by simpa using hl
  have loR := los_rows (t.length + 1 + 1) rs
  generalize rs.map rowD = R at vr lR loR ⊢
  obtain ⟨r, o1, r0, r1, s1, e1⟩ := draw_k (t ++ [.lst R]) a (m := 2) (by omega) (by omega)
  have hin : Sm.inR (1 + r) = true := inR_ok (by omega) (by omega)
  obtain ⟨ds, o2, f3, s2, vd, ld, hb, lp⟩ := ins_loop (t := t) (v1 := some (.fls R)) (rngD 0 (1 + r).toNat) o1 R none s1 vr (by simp [rngD]; omega)
  obtain ⟨⟨p, y⟩, hpy⟩ := rfs_ex (hb (.inl (by
    intro z
    have := congrArg List.length z
    simp [rngD] at this
    omega)))
  have gi : (o2 :: (t ++ [O.lst ds]))[t.length + 1]? = some (.lst ds) := by simp
  obtain ⟨f5, f8, dl⟩ := due_loop gi (v1 := some (.fls R)) (v2 := some (.ref (t.length + 1))) (e3 := f3) ds none none none vd
  rw [hpy] at dl
  have dl : forL (gtName 5) b__law_is_packed_2 (some (t.length + 1, .lst ds)) ds [some (.ref 0), some (.fls R), some (.ref (t.length + 1)), f3, some .non, none, none, none, none] (o2 :: (t ++ [.lst ds])) = .nx [some (.ref 0), some (.fls R), some (.ref (t.length + 1)), f3, some (.tup [.int p, .str y]), f5, none, none, f8] (o2 :: (t ++ [.lst ds])) := dl
  obtain ⟨w, o3, w0, w1, s3, e3⟩ := draw_k (t ++ [.lst ds]) s2 (m := 6) (by omega) (by omega)
  have gi3 : ∀ o : O, (o :: (t ++ [O.lst ds]))[t.length + 1]? = some (.lst ds) := fun o => by simp
  have fin : ∀ {o' : O}, SrO o' → b__law_is_packed [some (.ref 0), some (.fls R), none, none, none, none, none, none, none] (o :: t) = .rt (.bl true) (o' :: (t ++ [.lst ds])) → m__law_is_packed [.ref 0, .fls R] (o :: t) = .ok (.bl true) (o' :: t) := fun {o'} so e => by
    show trR (o :: t) (fnEnd (b__law_is_packed [some (.ref 0), some (.fls R), none, none, none, none, none, none, none] (o :: t))) = _
    rw [e]
    show trR (o :: t) (.ok (.bl true) (o' :: (t ++ [.lst ds]))) = _
    rw [trR_s so]
    exact if_pos rfl
  have start : ∃ E, E = [some (D.ref 0), some (.fls R), some (.ref (t.length + 1)), f3, some (.tup [.int p, .str y]), f5, some (.int w), none, f8] ∧ b__law_is_packed [some (.ref 0), some (.fls R), none, none, none, none, none, none, none] (o :: t) = (sSeq (sTryL (sIf (tBl (eB opEq (eV 6) (eC (.int 5)))) (sSeq (sSet 4 (eTup [(eC (.int 0)), (eC (.str "shape"))]))
    (sExpr (eCall m_pack_stream [(eCall m__law_pick [(eV 0), (eLstF [(eN opListF [(eV 1)]), (eC .non)])])]))) (sExpr (eCall m_pack_stream [(eN opTupleOf [(eV 2)])]))) [⟨(mtab 0), some 7, fun c_ fs => (fun fs => sRet ((fun fs => eCall (m__law_same 12) (List.map (fun m => m fs) [(eTupX [(eFd 0), (eFd 1)]), (fun _ => (eV 4))])) fs)) fs⟩])
    (sRet (eC (.bl false)))) E (o3 :: (t ++ [.lst ds])) := by
    refine ⟨_, rfl, ?_⟩
    unfold b__law_is_packed
    rw [go_nx (e' := [some (.ref 0), some (.fls R), some (.ref (t.length + 1)), none, none, none, none, none, none]) (h' := o :: (t ++ [.lst R])) (by simp)]
    rw [go_nx (e' := [some (.ref 0), some (.fls R), some (.ref (t.length + 1)), f3, none, none, none, none, none]) (h' := o2 :: (t ++ [.lst ds])) (by
      generalize b__law_is_packed_1 = B at lp ⊢
      simp [e1, hin, lp])]
    rw [go_nx (e' := [some (.ref 0), some (.fls R), some (.ref (t.length + 1)), f3, some .non, none, none, none, none]) (h' := o2 :: (t ++ [.lst ds])) (by simp)]
    rw [go_nx (e' := [some (.ref 0), some (.fls R), some (.ref (t.length + 1)), f3, some (.tup [.int p, .str y]), f5, none, none, f8]) (h' := o2 :: (t ++ [.lst ds])) (by
      generalize b__law_is_packed_2 = B at dl ⊢
      simp
      exact dl)]
    rw [go_nx (e' := [some (.ref 0), some (.fls R), some (.ref (t.length + 1)), f3, some (.tup [.int p, .str y]), f5, some (.int w), none, f8]) (h' := o3 :: (t ++ [.lst ds])) (by simp [e3])]
  obtain ⟨E, eE, start⟩ := start
  subst eE
  by_cases h5 : w = 5
  · obtain ⟨v, o4, hv, s4, p4⟩ := pick_k (t ++ [.lst ds]) s3 (xs := [.fls R, .non]) (by simp) (by simp) (fun d hd => by
      simp only [List.mem_cons, List.not_mem_nil, or_false] at hd
      rcases hd with rfl | rfl
      · rw [lo_fls]; simpa using loR
      · rfl)
    have ps := pack_shape (h := o4 :: (t ++ [.lst ds])) (v := v) (by
      simp only [List.mem_cons, List.not_mem_nil, or_false] at hv
      rcases hv with rfl | rfl
      · exact .inr ⟨_, rfl⟩
      · exact .inl rfl)
    have sm := same_pair 0 shape_tm (o4 :: (t ++ [.lst ds]))
    refine ⟨o4, s4, fin s4 ?_⟩
    rw [start]
    refine go_rt ?_
    simp [h5, p4, ps, mt00, sm]
  · have pb := pack_bad (h := o3 :: (t ++ [.lst ds])) vd (by omega) hpy
    have sm := same_pair p (rfs_tm vd hpy) (o3 :: (t ++ [.lst ds]))
    have g3 := gi3 o3
    refine ⟨o3, s3, fin s3 ?_⟩
    rw [start]
    refine go_rt ?_
    generalize eCall m__law_pick _ = F
    simp [h5, pb, mt00, sm]
end Lk09
/-! k09: a piece drawn -/
namespace Lk09
open PySem L2 PyProof.Rows Sm
open Lk07 (Oc num oc fb)
theorem oc_take {os : List Int} (h : Oc os) (k : Nat) : Oc (os.take k) := fun a ha => h a (List.mem_of_mem_take ha)
theorem oc_drop {os : List Int} (h : Oc os) (k : Nat) : Oc (os.drop k) := fun a ha => h a (List.mem_of_mem_drop ha)
theorem ref_lo {h : Hh} {i : Nat} {o : O} (e : h[i]? = some o) : i < h.length := (List.getElem?_eq_some_iff.mp e).1
theorem piece_k {o : O} (t : Hh) (a : SrO o) {f si : Nat} {ps : List (List Int)} {st : List Int} (hf : t[f]? = some (.lst (ps.map rowD))) (hs : t[si]? = some (.lst (st.map D.int))) (ho : Oc ps.flatten) (hos : Oc st) (hl : ps.flatten.length ≤ 140000) (hsl : st.length ≤ 9400) :
    ∃ v o', Val v ∧ (∀ x, Oc x → v = rowD x → x.length ≤ 10000) ∧ SrO o' ∧ m__law_piece [.ref 0, .ref (f + 1), .ref (si + 1)] (o :: t) = .ok v (o' :: t) := by
  have gf : ∀ o : O, (o :: t)[f + 1]? = some (.lst (ps.map rowD)) := fun o => by simpa using hf
  have gs : ∀ o : O, (o :: t)[si + 1]? = some (.lst (st.map D.int)) := fun o => by simpa using hs
  have jn := joined_spec (gf o) (by omega)
  obtain ⟨w, o1, w0, w1, s1, e1⟩ := draw_k t a (m := 8) (by omega) (by omega)
  have cr : cutD (st.map D.int) (some (ps.flatten.length : Int)) none = (st.drop ps.flatten.length).map D.int := by
    rw [cutD_from (by omega), Int.toNat_natCast, List.map_drop]
  have lA : (((ps.flatten.map D.int).length : Nat) : Int) = (ps.flatten.length : Int) := by rw [List.length_map]
  have hR : Oc (st.drop ps.flatten.length) := oc_drop hos _
  have lR : (st.drop ps.flatten.length).length ≤ 9400 := by simp; omega
  generalize hrest : st.drop ps.flatten.length = rest at cr hR lR
  have g0 := gs o
  have start : b__law_piece [some (.ref 0), some (.ref (f + 1)), some (.ref (si + 1)), none, none, none, none] (o :: t) = (sSeq (sIf (tBl (eB opEq (eV 5) (eC (.int 0)))) (sRet (eCall m__law_wrong_row [(eV 0), (eC (.bl false))])) sSkip)
    (sSeq (sIf (tBl (eB opEq (eV 5) (eC (.int 1)))) (sSeq (sSet 6 (eB opSub (eB opIx (eCall m__law_parsed [(eB opAddF (eV 3) (eV 4))]) (eC (.int 1))) (eN opLen [(eV 3)])))
    (sRet (eB opAdd (eN opTupleOf [(eSlF (eV 4) none (some (eN opMax [(eC (.int 0)), (eV 6)])))]) (eTup [(eC (.int 31)), (eB opAdd (eC (.int 64)) (eCall m__law_draw [(eV 0), (eC (.int 3))]))])))) sSkip)
    (sSeq (sIf (tBl (eB opEq (eV 5) (eC (.int 2)))) (sRet (eN opTupleOf [(eSlF (eV 4) none (some (eC (.int 1))))])) sSkip)
    (sRet (eN opTupleOf [(eSlF (eV 4) none (some (eCall m__law_draw [(eV 0), (eB opAdd (eN opLen [(eV 4)]) (eC (.int 1)))])))]))))) [some (.ref 0), some (.ref (f + 1)), some (.ref (si + 1)), some (.fls (ps.flatten.map D.int)), some (.fls (rest.map D.int)), some (.int w), none] (o1 :: t) := by
    unfold b__law_piece
    generalize ps.flatten.map D.int = A at jn lA ⊢
    generalize rest.map D.int = R at cr ⊢
    generalize st.map D.int = S at cr g0
    rw [go_nx (e' := [some (.ref 0), some (.ref (f + 1)), some (.ref (si + 1)), some (.fls A), none, none, none]) (h' := o :: t) (by simp [jn])]
    rw [go_nx (e' := [some (.ref 0), some (.ref (f + 1)), some (.ref (si + 1)), some (.fls A), some (.fls R), none, none]) (h' := o :: t) (by
      simp only [List.getElem?_cons_succ] at g0
      generalize (ps.flatten.length : Int) = N at cr lA
      simp [g0, lA, cr])]
    rw [go_nx (e' := [some (.ref 0), some (.ref (f + 1)), some (.ref (si + 1)), some (.fls A), some (.fls R), some (.int w), none]) (h' := o1 :: t) (by simp [e1])]
  have fin : ∀ {v : D} {o' : O}, SrO o' → b__law_piece [some (.ref 0), some (.ref (f + 1)), some (.ref (si + 1)), none, none, none, none] (o :: t) = .rt v (o' :: t) → m__law_piece [.ref 0, .ref (f + 1), .ref (si + 1)] (o :: t) = .ok v (o' :: t) := fun {v o'} so e => by
    show trR (o :: t) (fnEnd (b__law_piece [some (.ref 0), some (.ref (f + 1)), some (.ref (si + 1)), none, none, none, none] (o :: t))) = _
    rw [e]
    exact trR_s0 so
  have row : ∀ {x : List Int}, x.length ≤ 10000 → Val (rowD x) ∧ ∀ y, Oc y → rowD x = rowD y → y.length ≤ 10000 := fun {x} hx => ⟨.inr ⟨x, rfl, by omega⟩, fun y _ e => by
    have := congrArg (fun d => match d with | D.tup ds => ds.length | _ => 0) e
    simp at this
    omega⟩
  by_cases h0 : w = 0
  · obtain ⟨v, o2, hv, _, hb, s2, e2⟩ := wrong_k t s1 false
    obtain ⟨e, fe⟩ := hb rfl
    refine ⟨v, o2, hv, fun x hx z => ?_, s2, fin s2 ?_⟩
    · rw [z, flt_oc hx] at fe
      cases fe
    · rw [start]
      refine go_rt ?_
      simp [h0, e2]
  · have n0 : (sIf (tBl (eB opEq (eV 5) (eC (.int 0)))) (sRet (eCall m__law_wrong_row [(eV 0), (eC (.bl false))])) sSkip) [some (.ref 0), some (.ref (f + 1)), some (.ref (si + 1)), some (.fls (ps.flatten.map D.int)), some (.fls (rest.map D.int)), some (.int w), none] (o1 :: t) = .nx [some (.ref 0), some (.ref (f + 1)), some (.ref (si + 1)), some (.fls (ps.flatten.map D.int)), some (.fls (rest.map D.int)), some (.int w), none] (o1 :: t) := by
      generalize ps.flatten.map D.int = A
      generalize eCall m__law_wrong_row _ = F
      simp [h0]
    by_cases h1 : w = 1
    · obtain ⟨rs, r', e, pr⟩ := Par.ex _ (ps.flatten ++ rest) (Nat.le_refl _) (oc_app ho hR)
      have pp := parsed_spec (h := o1 :: t) pr (oc_app ho hR) (by rw [List.length_append]; omega)
      have sz : (ps.flatten.map D.int).length + (rest.map D.int).length ≤ sizeLine := szl (by rw [List.length_map, List.length_map]; omega)
      obtain ⟨d, o2, d0, d1, s2, e2⟩ := draw_k t s1 (m := 3) (by omega) (by omega)
      obtain ⟨Q, hQ⟩ : ∃ Q : Int, Q = (((ps.flatten ++ rest).length : Nat) : Int) - (r'.length : Int) := ⟨_, rfl⟩
      obtain ⟨M, hM⟩ : ∃ M : Int, (if 0 < Q - (ps.flatten.length : Int) then Q - (ps.flatten.length : Int) else 0) = M := ⟨_, rfl⟩
      have M0 : 0 ≤ M := by rw [← hM]; split <;> omega
      have ct : cutD (rest.map D.int) none (some M) = (rest.take M.toNat).map D.int := by rw [cutD_to M0, List.map_take]
      have lt : ((rest.take M.toNat).map D.int).length + 2 ≤ sizeLine := szl (by simp; omega)
      obtain ⟨v1, v2⟩ := row (x := rest.take M.toNat ++ [31, 64 + d]) (by simp; omega)
      refine ⟨rowD (rest.take M.toNat ++ [31, 64 + d]), o2, v1, v2, s2, fin s2 ?_⟩
      rw [start, go_nx n0]
      rw [← hQ, List.map_append] at pp
      simp only [rowD]
      rw [List.map_append]
      have em : [(31 : Int), 64 + d].map D.int = [.int 31, .int (64 + d)] := rfl
      rw [em]
      generalize ps.flatten.map D.int = A at pp lA sz ⊢
      generalize (rest.take M.toNat).map D.int = T at ct lt ⊢
      generalize rest.map D.int = R at pp ct sz ⊢
      generalize rs.map rowD = RS at pp
      generalize (if e = true then Q + 1 else -1 : Int) = Z at pp
      refine go_rt ?_
      have s6 : (sSet 6 (eB opSub (eB opIx (eCall m__law_parsed [(eB opAddF (eV 3) (eV 4))]) (eC (.int 1))) (eN opLen [(eV 3)]))) [some (.ref 0), some (.ref (f + 1)), some (.ref (si + 1)), some (.fls A), some (.fls R), some (.int 1), none] (o1 :: t) = .nx [some (.ref 0), some (.ref (f + 1)), some (.ref (si + 1)), some (.fls A), some (.fls R), some (.int 1), some (.int (Q - (ps.flatten.length : Int)))] (o1 :: t) := by
        simp [sz, pp, ix3, lA]
      rw [h1]
      have rt : (sRet (eB opAdd (eN opTupleOf [(eSlF (eV 4) none (some (eN opMax [(eC (.int 0)), (eV 6)])))]) (eTup [(eC (.int 31)), (eB opAdd (eC (.int 64)) (eCall m__law_draw [(eV 0), (eC (.int 3))]))]))) [some (.ref 0), some (.ref (f + 1)), some (.ref (si + 1)), some (.fls A), some (.fls R), some (.int 1), some (.int (Q - (ps.flatten.length : Int)))] (o1 :: t) = .rt (.tup (T ++ [.int 31, .int (64 + d)])) (o2 :: t) := by
        generalize Q - (ps.flatten.length : Int) = q at hM ⊢
        have mx : eN opMax [(eC (.int 0)), (eV 6)] [some (.ref 0), some (.ref (f + 1)), some (.ref (si + 1)), some (.fls A), some (.fls R), some (.int 1), some (.int q)] (o1 :: t) = .ok (.int M) (o1 :: t) := by
          rw [← hM]
          simp
        generalize eN opMax [(eC (.int 0)), (eV 6)] = F at mx ⊢
        simp [mx, ct, e2, lt]
      rw [go_ifT (h' := o1 :: t) (by simp), go_nx s6]
      exact rt
    · have n1 : (sIf (tBl (eB opEq (eV 5) (eC (.int 1)))) (sSeq (sSet 6 (eB opSub (eB opIx (eCall m__law_parsed [(eB opAddF (eV 3) (eV 4))]) (eC (.int 1))) (eN opLen [(eV 3)])))
          (sRet (eB opAdd (eN opTupleOf [(eSlF (eV 4) none (some (eN opMax [(eC (.int 0)), (eV 6)])))]) (eTup [(eC (.int 31)), (eB opAdd (eC (.int 64)) (eCall m__law_draw [(eV 0), (eC (.int 3))]))])))) sSkip) [some (.ref 0), some (.ref (f + 1)), some (.ref (si + 1)), some (.fls (ps.flatten.map D.int)), some (.fls (rest.map D.int)), some (.int w), none] (o1 :: t) = .nx [some (.ref 0), some (.ref (f + 1)), some (.ref (si + 1)), some (.fls (ps.flatten.map D.int)), some (.fls (rest.map D.int)), some (.int w), none] (o1 :: t) := by
        generalize ps.flatten.map D.int = A
        generalize sSeq _ _ = F
        simp [h1]
      by_cases h2 : w = 2
      · have ct : cutD (rest.map D.int) none (some 1) = (rest.take 1).map D.int := by rw [cutD_to (by omega), List.map_take]; rfl
        obtain ⟨v1, v2⟩ := row (x := rest.take 1) (by simp; omega)
        refine ⟨rowD (rest.take 1), o1, v1, v2, s1, fin s1 ?_⟩
        rw [start, go_nx n0, go_nx n1]
        refine go_rt ?_
        simp only [rowD]
        generalize ps.flatten.map D.int = A
        generalize (rest.take 1).map D.int = T at ct ⊢
        generalize rest.map D.int = R at ct ⊢
        simp [h2, ct]
      · obtain ⟨d, o2, d0, d1, s2, e2⟩ := draw_k t s1 (m := (rest.length : Int) + 1) (by omega) (by omega)
        have ct : cutD (rest.map D.int) none (some d) = (rest.take d.toNat).map D.int := by rw [cutD_to d0, List.map_take]
        obtain ⟨v1, v2⟩ := row (x := rest.take d.toNat) (by simp; omega)
        have ll : (((rest.map D.int).length : Nat) : Int) = (rest.length : Int) := by simp
        refine ⟨rowD (rest.take d.toNat), o2, v1, v2, s2, fin s2 ?_⟩
        rw [start, go_nx n0, go_nx n1]
        simp only [rowD]
        generalize ps.flatten.map D.int = A
        generalize (rest.take d.toNat).map D.int = T at ct ⊢
        generalize rest.map D.int = R at ct ll ⊢
        rw [go_nx (e' := [some (.ref 0), some (.ref (f + 1)), some (.ref (si + 1)), some (.fls A), some (.fls R), some (.int w), none]) (h' := o1 :: t) (by simp [h2])]
        simp [ll, e2, ct]
end Lk09
/-! k09: the stream, readers made, empty feeds -/
namespace Lk09
open PySem L2 PyProof.Rows Sm
open Lk07 (Oc num oc fb)
theorem str_loop {N R : List D} (hN : los 2 N = true) (hR : los 2 R = true) {o : O} : ∀ (rs : List (List Int)) (acc : List Int) (e4 : Option D), (∀ r ∈ rs, r.length ≤ 8000) → acc.length + 8002 * rs.length ≤ 1000000 → ∃ f4,
    forL (gtName 4) b_law_1 none (rs.map rowD) [some (.fls N), some (.ref 0), some (.fls R), some (.ref 1), e4, none, none, none, none, none, none, none] [o, .lst (acc.map D.int)] = .nx [some (.fls N), some (.ref 0), some (.fls R), some (.ref 1), f4, none, none, none, none, none, none, none] [o, .lst ((acc ++ pks rs).map D.int)]
  | [], acc, e4, _, _ => ⟨e4, by
    rw [show pks [] = [] from rfl, List.append_nil]
    exact forL_nil (gd := none) trivial⟩
  | x :: rs, acc, e4, hr, hl => by
    rw [List.length_cons] at hl
    have hx := hr x (by simp)
    have lx : (((x.map D.int).length : Nat) : Int) = (x.length : Int) := by simp
    have em : (acc ++ pk x).map D.int = acc.map D.int ++ ([.int ((x.length : Int) / 256), .int ((x.length : Int) % 256)] ++ x.map D.int) := by
      rw [List.map_append, pk, List.map_append]
      rfl
    have z1 : 2 + (x.map D.int).length ≤ sizeLine := szl (by simp; omega)
    have z2 : (acc.map D.int).length + (2 + (x.map D.int).length) ≤ sizeLine := szl (by simp; omega)
    have l1 := los_ints 2 acc
    have l2 := los_ints 2 x
    have t : b_law_1 [some (.fls N), some (.ref 0), some (.fls R), some (.ref 1), some (rowD x), none, none, none, none, none, none, none] [o, .lst (acc.map D.int)] = .nx [some (.fls N), some (.ref 0), some (.fls R), some (.ref 1), some (rowD x), none, none, none, none, none, none, none] [o, .lst ((acc ++ pk x).map D.int)] := by
      rw [em]
      simp only [rowD]
      generalize acc.map D.int = A at *
      generalize x.map D.int = X at *
      generalize hP : [D.int ((x.length : Int) / 256), D.int ((x.length : Int) % 256)] = P at *
      have lP : P.length = 2 := by rw [← hP]; rfl
      have loP : los 2 P = true := by rw [← hP]; rfl
      have run : sExpr (eMt opExtend (eV 3) [(eB opAdd (eLstF [(eB opFdiv (eN opLen [(eV 4)]) (eC (.int 256))), (eB opMod (eN opLen [(eV 4)]) (eC (.int 256)))]) (eN opListF [(eV 4)]))]) [some (.fls N), some (.ref 0), some (.fls R), some (.ref 1), some (.tup X), none, none, none, none, none, none, none] [o, .lst A] = .nx [some (.fls N), some (.ref 0), some (.fls R), some (.ref 1), some (.tup X), none, none, none, none, none, none, none] ([o] ++ [.lst (A ++ (P ++ X))] ++ [.lst (P ++ X)]) := by
        have z1' : P.length + X.length ≤ sizeLine := by rw [lP]; exact z1
        have z2' : A.length + (P ++ X).length ≤ sizeLine := by rw [List.length_append, lP]; exact z2
        have ad : opAdd (.fls P) (.fls X) [o, .lst A] = some (.ref 2, [o, .lst A, .lst (P ++ X)]) := by
          rw [opAdd_ff, if_pos z1']
          rfl
        rw [← hP] at ad
        have ex : opExtend (.ref 1) [.ref 2] [o, .lst A, .lst (P ++ X)] = some (.non, [o, .lst (A ++ (P ++ X)), .lst (P ++ X)]) := by
          rw [opExtend_rr]
          show (if A.length + (P ++ X).length ≤ sizeLine then some (D.non, ([o, O.lst A, O.lst (P ++ X)] : Hh).set 1 (.lst (A ++ (P ++ X)))) else none) = _
          rw [if_pos z2']
          rfl
        rw [hP] at ad
        have ev : eB opAdd (eLstF [(eB opFdiv (eN opLen [(eV 4)]) (eC (.int 256))), (eB opMod (eN opLen [(eV 4)]) (eC (.int 256)))]) (eN opListF [(eV 4)]) [some (.fls N), some (.ref 0), some (.fls R), some (.ref 1), some (.tup X), none, none, none, none, none, none, none] [o, .lst A] = .ok (.ref 2) [o, .lst A, .lst (P ++ X)] := by
          have e1 : eLstF [(eB opFdiv (eN opLen [(eV 4)]) (eC (.int 256))), (eB opMod (eN opLen [(eV 4)]) (eC (.int 256)))] [some (.fls N), some (.ref 0), some (.fls R), some (.ref 1), some (.tup X), none, none, none, none, none, none, none] [o, .lst A] = .ok (.fls P) [o, .lst A] := by
            rw [← hP]
            simp [lx]
          generalize eLstF [(eB opFdiv (eN opLen [(eV 4)]) (eC (.int 256))), (eB opMod (eN opLen [(eV 4)]) (eC (.int 256)))] = F at e1 ⊢
          simp only [eB_eq, e1]
          simp [-opAdd_ff, ad]
        generalize eB opAdd (eLstF [(eB opFdiv (eN opLen [(eV 4)]) (eC (.int 256))), (eB opMod (eN opLen [(eV 4)]) (eC (.int 256)))]) (eN opListF [(eV 4)]) = F at ev ⊢
        simp [ev, ex, -opExtend_rr]
      unfold b_law_1
      have tt := trS_top (h := [o]) (g := [.lst (P ++ X)]) (a := .lst A) (a' := .lst (A ++ (P ++ X))) (env := [some (.fls N), some (.ref 0), some (.fls R), some (.ref 1), some (.tup X), none, none, none, none, none, none, none]) (fun d hd => by
        simp only [List.mem_cons, List.not_mem_nil, or_false, Option.some.injEq] at hd
        rcases hd with z | z | z | z | z | z | z | z | z | z | z | z
        · subst z; rw [lo_fls]; exact hN
        · subst z; rfl
        · subst z; rw [lo_fls]; exact hR
        · subst z; rfl
        · subst z; rw [lo_tup]; exact l2
        all_goals cases z) (by show los _ _ = true; rw [los_app, los_app, show [o].length + 1 = 2 from rfl, l1, loP, l2]; rfl)
      rw [sTr_eq, run]
      exact tt
    obtain ⟨f4, ih⟩ := str_loop hN hR (o := o) rs (acc ++ pk x) (some (rowD x)) (fun r hm => hr r (by simp [hm])) (by simp [pk]; omega)
    refine ⟨f4, ?_⟩
    rw [List.map_cons, forL_nx (gd := none) (e1 := rfl) trivial t, ih]
    have : acc ++ pk x ++ pks rs = acc ++ pks (x :: rs) := by
      rw [List.append_assoc]
      rfl
    rw [this]
/-- a reader is made at the heap's end -/
theorem init_spec {h : Hh} : madeX h.length (m_StreamReader___init__ [.ref h.length] (h ++ [.ins 3 [none, none]])) = .ok (.ref h.length) (h ++ [.ins 3 [some (.ref (h.length + 1)), some (.ref (h.length + 2))], .lst [], .lst [.tup []]]) := by
  have main : b_StreamReader___init__ [some (.ref h.length)] (h ++ [.ins 3 [none, none]]) = .nx [some (.ref h.length)] (h ++ [.ins 3 [some (.ref (h.length + 1)), some (.ref (h.length + 2))], .lst [], .lst [.tup []]]) := by
    unfold b_StreamReader___init__
    have g1 : (h ++ [O.ins 3 [none, none], O.lst []])[h.length]? = some (.ins 3 [none, none]) := by simp
    have s1 : (h ++ [O.ins 3 [none, none], O.lst []]).set h.length (.ins 3 [some (.ref (h.length + 1)), none]) = h ++ [.ins 3 [some (.ref (h.length + 1)), none], .lst []] := by simp
    have g2 : (h ++ [O.ins 3 [some (.ref (h.length + 1)), none], O.lst [], O.lst [.tup []]])[h.length]? = some (.ins 3 [some (.ref (h.length + 1)), none]) := by simp
    have s2 : (h ++ [O.ins 3 [some (.ref (h.length + 1)), none], O.lst [], O.lst [.tup []]]).set h.length (.ins 3 [some (.ref (h.length + 1)), some (.ref (h.length + 2))]) = h ++ [.ins 3 [some (.ref (h.length + 1)), some (.ref (h.length + 2))], .lst [], .lst [.tup []]] := by simp
    rw [go_nx (e' := [some (.ref h.length)]) (h' := h ++ [.ins 3 [some (.ref (h.length + 1)), none], .lst []]) (by simp [g1, s1])]
    simp [g2, s2]
  show madeX h.length (trR (h ++ [.ins 3 [none, none]]) (fnEnd (b_StreamReader___init__ [some (.ref h.length)] (h ++ [.ins 3 [none, none]])))) = _
  rw [main]
  show madeX h.length (trR (h ++ [.ins 3 [none, none]]) (.ok .non (h ++ [.ins 3 [some (.ref (h.length + 1)), some (.ref (h.length + 2))], .lst [], .lst [.tup []]]))) = _
  have nk : ¬ Kq (h ++ [O.ins 3 [none, none]]).length (h ++ [O.ins 3 [none, none]]) ((h ++ [O.ins 3 [some (.ref (h.length + 1)), some (.ref (h.length + 2))], O.lst [], O.lst [.tup []]]).take (h ++ [O.ins 3 [none, none]]).length) := fun k => by
    have := k h.length (.ins 3 [some (.ref (h.length + 1)), some (.ref (h.length + 2))]) (by
      rw [List.getElem?_take, if_pos (by simp)]
      simp)
    rcases this with z | z
    · simp at z
    · simp [loO] at z
  unfold trR
  dsimp only
  rw [if_neg (fun z => nk z.2)]
  rfl
end Lk09
/-! k09: rounds -/
namespace Lk09
open PySem L2 PyProof.Rows Sm
open Lk07 (Oc num oc fb)
structure Wh (h : Hh) (st : List Int) (ps hs : List (List Int)) : Prop where
  str : h[1]? = some (.lst (st.map D.int))
  oth : Rd h 2 3 4 [[0, 0, 0]] [[], [0]]
  gd : Gd h 5 6 7 8 ps hs
  len : h.length = 9
theorem Rd.head {o o' : O} {t : Hh} {n p q : Nat} {ps hs : List (List Int)} (R : Rd (o :: t) (n + 1) (p + 1) (q + 1) ps hs) : Rd (o' :: t) (n + 1) (p + 1) (q + 1) ps hs :=
  ⟨by simpa using R.ins, by simpa using R.lp, by simpa using R.lq, R.pq, R.np, R.nq⟩
theorem Wh.head {o o' : O} {t : Hh} {st : List Int} {ps hs : List (List Int)} (W : Wh (o :: t) st ps hs) : Wh (o' :: t) st ps hs :=
  ⟨by simpa using W.str, Rd.head (n := 1) (p := 2) (q := 3) W.oth, ⟨Rd.head (n := 4) (p := 5) (q := 6) W.gd.rd, by simpa using W.gd.lf, W.gd.fn, W.gd.fp, W.gd.fq, W.gd.hist⟩, by simpa using W.len⟩
theorem Wh.step {h h' : Hh} {st : List Int} {ps hs ps' hs' : List (List Int)} (W : Wh h st ps hs) (G : Gd h' 5 6 7 8 ps' hs') (hl : h'.length = h.length) (k : ∀ i, i ≠ 6 → i ≠ 7 → i ≠ 8 → h'[i]? = h[i]?) : Wh h' st ps' hs' :=
  ⟨by rw [k 1 (by omega) (by omega) (by omega)]; exact W.str, ⟨by rw [k 2 (by omega) (by omega) (by omega)]; exact W.oth.ins, by rw [k 3 (by omega) (by omega) (by omega)]; exact W.oth.lp, by rw [k 4 (by omega) (by omega) (by omega)]; exact W.oth.lq, W.oth.pq, W.oth.np, W.oth.nq⟩, G, hl.trans W.len⟩
theorem head_of {h : Hh} {o : O} {t : Hh} (hl : h.length = (o :: t).length) (k : h[0]? = (o :: t)[0]?) : ∃ t', h = o :: t' := by
  cases h with
  | nil => simp at hl
  | cons a t' =>
    simp at k
    exact ⟨t', by rw [k]⟩
theorem rep_snoc (k : Nat) : List.replicate (k + 1) ([] : List Int) = List.replicate k [] ++ [[]] := List.replicate_succ'
theorem empty_turn {N R : D} {e4 e5 e8 e10 e11 : Option D} {st : List Int} {h : Hh} {k : Nat} {e9 : D} (W : Wh h st (List.replicate k []) (List.replicate (k + 1) [])) (hk : k < 200) : ∃ h', Wh h' st (List.replicate (k + 1) []) (List.replicate (k + 2) []) ∧ h'[0]? = h[0]? ∧
    b_law_2 [some N, some (.ref 0), some R, some (.ref 1), e4, e5, some (.ref 5), some (.ref 8), e8, some e9, e10, e11] h = .nx [some N, some (.ref 0), some R, some (.ref 1), e4, e5, some (.ref 5), some (.ref 8), e8, some e9, e10, e11] h' := by
  have G := W.gd
  have len := W.len
  have H' : Hist (List.replicate k [] ++ [[]]) (List.replicate k [] ++ [[]] ++ [[]]) := .snoc (by have := G.hist; rw [rep_snoc] at this; exact this) (fun _ z => by simp at z) .none
  have ss := same_tupD (ds := []) (n := 11) (fun _ z => by simp at z) (by simp)
  have em : (List.replicate k ([] : List Int) ++ [[]]).map rowD = (List.replicate k ([] : List Int)).map rowD ++ [.tup []] := by simp
  have lh : (List.replicate k ([] : List Int)).length = k := by simp
  have G5 := G.rd.ins
  have G6 := G.rd.lp
  have G7 := G.rd.lq
  have G8 := G.lf
  rw [rep_snoc] at G7
  rw [rep_snoc, show k + 2 = (k + 1) + 1 from rfl, rep_snoc, rep_snoc]
  generalize List.replicate k ([] : List Int) = P at *
  have R1 : Rd (h.set 8 (.lst ((P ++ [[]]).map rowD))) 5 6 7 P (P ++ [[]]) :=
    ⟨by rw [List.getElem?_set_ne (by omega)]; exact G5, by rw [List.getElem?_set_ne (by omega)]; exact G6, by rw [List.getElem?_set_ne (by omega)]; exact G7, by omega, by omega, by omega⟩
  have fr := feed_rows R1 (x := []) (rs := []) (r' := []) (fun _ z => by simp at z) (fun _ z => by simp at z) (by simp) (by simp) .none (by omega) (by omega)
  have fr : m_StreamReader_feed [.ref 5, .tup []] (h.set 8 (.lst ((P ++ [[]]).map rowD))) = .ok (.tup []) (((h.set 8 (.lst ((P ++ [[]]).map rowD))).set 6 (.lst ((P ++ [[]]).map rowD))).set 7 (.lst ((P ++ [[]] ++ [[]]).map rowD))) := fr
  refine ⟨((h.set 8 (.lst ((P ++ [[]]).map rowD))).set 6 (.lst ((P ++ [[]]).map rowD))).set 7 (.lst ((P ++ [[]] ++ [[]]).map rowD)), ⟨?_, ⟨?_, ?_, ?_, by omega, by omega, by omega⟩, ⟨⟨?_, ?_, ?_, by omega, by omega, by omega⟩, ?_, by omega, by omega, by omega, H'⟩, by simp [len]⟩, ?_, ?_⟩
  · rw [List.getElem?_set_ne (by omega), List.getElem?_set_ne (by omega), List.getElem?_set_ne (by omega)]; exact W.str
  · rw [List.getElem?_set_ne (by omega), List.getElem?_set_ne (by omega), List.getElem?_set_ne (by omega)]; exact W.oth.ins
  · rw [List.getElem?_set_ne (by omega), List.getElem?_set_ne (by omega), List.getElem?_set_ne (by omega)]; exact W.oth.lp
  · rw [List.getElem?_set_ne (by omega), List.getElem?_set_ne (by omega), List.getElem?_set_ne (by omega)]; exact W.oth.lq
  · rw [List.getElem?_set_ne (by omega), List.getElem?_set_ne (by omega), List.getElem?_set_ne (by omega)]; exact G5
  · rw [List.getElem?_set_ne (by omega), List.getElem?_set_self (by simp [len])]
  · rw [List.getElem?_set_self (by simp [len])]
  · rw [List.getElem?_set_ne (by omega), List.getElem?_set_ne (by omega), List.getElem?_set_self (by simp [len])]
  · rw [List.getElem?_set_ne (by omega), List.getElem?_set_ne (by omega), List.getElem?_set_ne (by omega)]
  · have sl : (P.map rowD).length < sizeLine := szlt (by simp; omega)
    have i5 := R1.ins
    generalize ((h.set 8 (.lst ((P ++ [[]]).map rowD))).set 6 (.lst ((P ++ [[]]).map rowD))).set 7 (.lst ((P ++ [[]] ++ [[]]).map rowD)) = h2 at fr ⊢
    rw [em] at fr i5
    generalize P.map rowD = F at *
    unfold b_law_2
    rw [go_nx (e' := [some N, some (.ref 0), some R, some (.ref 1), e4, e5, some (.ref 5), some (.ref 8), e8, some e9, e10, e11]) (h' := h.set 8 (.lst (F ++ [.tup []]))) (by simp [G8, sl])]
    generalize h.set 8 (.lst (F ++ [.tup []])) = h1 at fr i5 ⊢
    simp [i5, fr, ss]
theorem empty_loop {N R : D} {e4 e5 e8 e10 e11 : Option D} {st : List Int} : ∀ (xs : List D) (h : Hh) (k : Nat) (e9 : Option D), Wh h st (List.replicate k []) (List.replicate (k + 1) []) → k + xs.length ≤ 200 → ∃ h' f9, Wh h' st (List.replicate (k + xs.length) []) (List.replicate (k + xs.length + 1) []) ∧ h'[0]? = h[0]? ∧
    forL (gtName 9) b_law_2 none xs [some N, some (.ref 0), some R, some (.ref 1), e4, e5, some (.ref 5), some (.ref 8), e8, e9, e10, e11] h = .nx [some N, some (.ref 0), some R, some (.ref 1), e4, e5, some (.ref 5), some (.ref 8), e8, f9, e10, e11] h'
  | [], h, k, e9, W, _ => ⟨h, e9, W, rfl, forL_nil (gd := none) trivial⟩
  | x :: xs, h, k, e9, W, hk => by
    rw [List.length_cons] at hk
    obtain ⟨h1, W1, k1, t⟩ := empty_turn (N := N) (R := R) (e4 := e4) (e5 := e5) (e8 := e8) (e10 := e10) (e11 := e11) (e9 := x) W (by omega)
    obtain ⟨h2, f9, W2, k2, lp⟩ := empty_loop (N := N) (R := R) (e4 := e4) (e5 := e5) (e8 := e8) (e10 := e10) (e11 := e11) xs h1 (k + 1) (some x) W1 (by omega)
    refine ⟨h2, f9, ?_, k2.trans k1, (forL_nx (gd := none) trivial rfl t).trans lp⟩
    have e : k + (x :: xs).length = k + 1 + xs.length := by simp; omega
    rw [e]
    exact W2
/-- one of the twelve deeds -/
theorem round {N R : D} {e4 e5 e8 e9 e10 e11 : Option D} {st : List Int} {o : O} {t : Hh} {ps hs : List (List Int)} (s : SrO o) (W : Wh (o :: t) st ps hs) (hst : Oc st) (hsl : st.length ≤ 9400) (b : ps.flatten.length ≤ 120000) (h200 : ps.length ≤ 200) :
    ∃ o' t' ps' hs' f10 f11, SrO o' ∧ Wh (o' :: t') st ps' hs' ∧ ps'.flatten.length ≤ ps.flatten.length + 10000 ∧ ps'.length ≤ 200 ∧
    b_law_3 [some N, some (.ref 0), some R, some (.ref 1), e4, e5, some (.ref 5), some (.ref 8), e8, e9, e10, e11] (o :: t) = .nx [some N, some (.ref 0), some R, some (.ref 1), e4, e5, some (.ref 5), some (.ref 8), e8, e9, f10, f11] (o' :: t') := by
  obtain ⟨w, o1, w0, w1, s1, e1⟩ := draw_k t s (m := 5) (by omega) (by omega)
  have W1 : Wh (o1 :: t) st ps hs := W.head
  -- the deed
  have deed : ∃ o2 t2 ps' hs', SrO o2 ∧ Wh (o2 :: t2) st ps' hs' ∧ ps'.flatten.length ≤ ps.flatten.length + 10000 ∧ ps'.length ≤ 200 ∧
      (sIf (tBl (eB opEq (eCall m__law_draw [(eV 1), (eC (.int 5))]) (eC (.int 4)))) (sSet 11 (eCall m__law_is_undone [(eV 6), (eV 7)])) (sSet 11 (eCall m__law_is_fed [(eV 6), (eV 7), (eCall m__law_piece [(eV 1), (eV 7), (eV 3)])]))) [some N, some (.ref 0), some R, some (.ref 1), e4, e5, some (.ref 5), some (.ref 8), e8, e9, e10, e11] (o :: t) = .nx [some N, some (.ref 0), some R, some (.ref 1), e4, e5, some (.ref 5), some (.ref 8), e8, e9, e10, some (.bl true)] (o2 :: t2) := by
    by_cases h4 : w = 4
    · obtain ⟨h', ps', hs', ev, G', hl, k, b', c'⟩ := undone_spec W1.gd h200
      obtain ⟨t2, rfl⟩ := head_of hl (k 0 (by omega) (by omega) (by omega))
      refine ⟨o1, t2, ps', hs', s1, W1.step G' hl k, by omega, c', ?_⟩
      rw [go_ifT (h' := o1 :: t) (by simp [e1, h4])]
      simp [ev]
    · obtain ⟨hs0, r, rs, _, pr, ho⟩ := W1.gd.hist.last
      have lf7 : t[7]? = some (.lst (ps.map rowD)) := by simpa using W1.gd.lf
      have ls0 : t[0]? = some (.lst (st.map D.int)) := by simpa using W1.str
      obtain ⟨v, o2, hv, vl, s2, pe⟩ := piece_k t s1 lf7 ls0 ho hst (by omega) hsl
      have pe : m__law_piece [.ref 0, .ref 8, .ref 1] (o1 :: t) = .ok v (o2 :: t) := pe
      have W2 : Wh (o2 :: t) st ps hs := W1.head
      obtain ⟨h', ps', hs', ev, G', hl, k, b', c'⟩ := fed_spec W2.gd hv (by omega) vl h200
      obtain ⟨t2, rfl⟩ := head_of hl (k 0 (by omega) (by omega) (by omega))
      refine ⟨o2, t2, ps', hs', s2, W2.step G' hl k, by omega, c', ?_⟩
      rw [go_ifF (h' := o1 :: t) (by simp [e1, h4])]
      simp [pe, ev]
  obtain ⟨o2, t2, ps', hs', s2, W2, b2, c2, dd⟩ := deed
  obtain ⟨hs0, r, rs, eh, pr, ho⟩ := W2.gd.hist.last
  have pl := pr.len
  have jn := joined_spec W2.gd.lf (by omega)
  have pp := parsed_spec (h := o2 :: t2) pr ho (by omega)
  rw [if_neg (by simp)] at pp
  have R2 := W2.gd.rd
  have Rw := R2
  rw [eh] at Rw
  have wt := waiting_spec Rw
  have lg := log_spec R2
  have i5 := R2.ins
  have i8 := W2.gd.lf
  have si := same_int (r.length : Int) 10 (o2 :: t2)
  have sr := same_rows (rs := ps') (fun y hy => by
    have : y.length ≤ ps'.flatten.length := by
      obtain ⟨a, c, rfl⟩ := List.append_of_mem hy
      rw [List.flatten_append, List.flatten_cons, List.length_append, List.length_append]
      omega
    omega) (by omega) (o2 :: t2)
  have ll : (((ps'.flatten.map D.int).length : Nat) : Int) = (ps'.flatten.length : Int) := by rw [List.length_map]
  have er : (ps'.flatten.length : Int) - ((ps'.flatten.length : Int) - (r.length : Int)) = (r.length : Int) := by omega
  refine ⟨o2, t2, ps', hs', some (.fls (ps'.flatten.map D.int)), some (.bl true), s2, W2, b2, c2, ?_⟩
  generalize ps'.flatten.map D.int = A at jn pp ll ⊢
  generalize ps'.map rowD = P at jn lg i8 sr
  generalize rs.map rowD = RS at pp
  generalize hL : (ps'.flatten.length : Int) = L at *
  generalize hH : o2 :: t2 = H at *
  unfold b_law_3
  rw [go_nx dd]
  rw [go_nx (e' := [some N, some (.ref 0), some R, some (.ref 1), e4, e5, some (.ref 5), some (.ref 8), e8, e9, some (.fls A), some (.bl true)]) (h' := H) (by simp [jn])]
  rw [go_nx (e' := [some N, some (.ref 0), some R, some (.ref 1), e4, e5, some (.ref 5), some (.ref 8), e8, e9, some (.fls A), some (.bl true)]) (h' := H) (by simp [i5, wt, pp, ll, ix3, er, si])]
  simp [i5, i8, lg, sr]
theorem rounds {N R : D} {e4 e5 e9 : Option D} {st : List Int} (hst : Oc st) (hsl : st.length ≤ 9400) : ∀ (xs : List D) (o : O) (t : Hh) (ps hs : List (List Int)) (e8 e10 e11 : Option D), SrO o → Wh (o :: t) st ps hs → ps.flatten.length + 10000 * xs.length ≤ 120000 → ps.length ≤ 200 →
    ∃ o' t' ps' hs' f8 f10 f11, SrO o' ∧ Wh (o' :: t') st ps' hs' ∧ forL (gtName 8) b_law_3 none xs [some N, some (.ref 0), some R, some (.ref 1), e4, e5, some (.ref 5), some (.ref 8), e8, e9, e10, e11] (o :: t) = .nx [some N, some (.ref 0), some R, some (.ref 1), e4, e5, some (.ref 5), some (.ref 8), f8, e9, f10, f11] (o' :: t')
  | [], o, t, ps, hs, e8, e10, e11, s, W, _, _ => ⟨o, t, ps, hs, e8, e10, e11, s, W, forL_nil (gd := none) trivial⟩
  | x :: xs, o, t, ps, hs, e8, e10, e11, s, W, b, c => by
    rw [List.length_cons] at b
    obtain ⟨o1, t1, ps1, hs1, f10, f11, s1, W1, b1, c1, tn⟩ := round (N := N) (R := R) (e4 := e4) (e5 := e5) (e8 := some x) (e9 := e9) (e10 := e10) (e11 := e11) s W hst hsl (by omega) c
    obtain ⟨o2, t2, ps2, hs2, f8, g10, g11, s2, W2, lp⟩ := rounds (N := N) (R := R) (e4 := e4) (e5 := e5) (e9 := e9) hst hsl xs o1 t1 ps1 hs1 (some x) f10 f11 s1 W1 (by omega) c1
    exact ⟨o2, t2, ps2, hs2, f8, g10, g11, s2, W2, (forL_nx (gd := none) trivial rfl tn).trans lp⟩
end Lk09
/-! k09: the law -/
namespace Lk09
open PySem L2 PyProof.Rows Sm
open Lk07 (Oc num oc fb)
def L1 : List D := [rowD [0, 0, 0]]
def L2 : List D := [rowD [], rowD [0]]
def s12 (N R : D) (e4 e5 e6 e7 e8 e9 e10 e11 : Option D) : Ev := [some N, some (.ref 0), some R, some (.ref 1), e4, e5, e6, e7, e8, e9, e10, e11]
theorem main : ∀ ns : List Int, ns.length ≤ 63 → ∃ h', m_law [.fls (ns.map D.int)] [] = .ok (.bl true) h' := by
  intro ns hns
  have s0 := SrO.start ns hns
  obtain ⟨rs, o1, hr, lr, fl, s1, e1⟩ := rows_k s0
  have lN : los 2 (ns.map D.int) = true := los_ints _ _
  have lR : los 2 (rs.map rowD) = true := los_rows _ _
  obtain ⟨f4, lp⟩ := str_loop lN lR (o := o1) rs [] none (fun r hm => (hr r hm).2) (by simp; omega)
  rw [List.map_nil, List.nil_append] at lp
  have pg := pack_good (h := [o1, .lst ((pks rs).map D.int)]) hr (by omega)
  have pl := pks_len rs
  have po := pks_oc hr
  have sm := same_row (os := pks rs) (by omega) 9 [o1, .lst ((pks rs).map D.int)]
  obtain ⟨o2, s2, e2⟩ := packed_k [.lst ((pks rs).map D.int)] s1 hr lr
  -- the other reader
  have mk1 : madeX 2 (m_StreamReader___init__ [.ref 2] [o2, .lst ((pks rs).map D.int), .ins 3 [none, none]]) = .ok (.ref 2) [o2, .lst ((pks rs).map D.int), .ins 3 [some (.ref 3), some (.ref 4)], .lst [], .lst [.tup []]] := init_spec (h := [o2, .lst ((pks rs).map D.int)])
  have R1 : Rd [o2, .lst ((pks rs).map D.int), .ins 3 [some (.ref 3), some (.ref 4)], .lst [], .lst [.tup []]] 2 3 4 [] ([] ++ [[]]) := ⟨rfl, rfl, rfl, by omega, by omega, by omega⟩
  have z3 : Oc [0, 0, 0] := fun a ha => by
    simp at ha
    omega
  have par3 : Par ([] ++ [0, 0, 0]) [[]] [0] false := Par.row (a := 0) (b := 0) (x := []) (t := [0]) (by omega) (by simp) .one
  have fd : m_StreamReader_feed [.ref 2, .tup [.int 0, .int 0, .int 0]] [o2, .lst ((pks rs).map D.int), .ins 3 [some (.ref 3), some (.ref 4)], .lst [], .lst [.tup []]] = .ok (.tup [.tup []]) [o2, .lst ((pks rs).map D.int), .ins 3 [some (.ref 3), some (.ref 4)], .lst L1, .lst L2] :=
    feed_rows R1 (fun _ z => by simp at z) z3 (by simp) (by simp) par3 (by simp) (by simp)
  have sm2 : ∀ H, m__law_same 12 [.tup [.tup []], .tup [.tup []]] H = .ok (.bl true) H := fun H => same_rows (rs := [[]]) (fun y hy => by simp at hy; subst hy; simp) (by simp) H
  -- the reader
  have mk2 : madeX 5 (m_StreamReader___init__ [.ref 5] [o2, .lst ((pks rs).map D.int), .ins 3 [some (.ref 3), some (.ref 4)], .lst L1, .lst L2, .ins 3 [none, none]]) = .ok (.ref 5) [o2, .lst ((pks rs).map D.int), .ins 3 [some (.ref 3), some (.ref 4)], .lst L1, .lst L2, .ins 3 [some (.ref 6), some (.ref 7)], .lst [], .lst [.tup []]] := init_spec (h := [o2, .lst ((pks rs).map D.int), .ins 3 [some (.ref 3), some (.ref 4)], .lst L1, .lst L2])
  have W0 : ∀ o : O, Wh [o, .lst ((pks rs).map D.int), .ins 3 [some (.ref 3), some (.ref 4)], .lst L1, .lst L2, .ins 3 [some (.ref 6), some (.ref 7)], .lst [], .lst [.tup []], .lst []] (pks rs) [] [[]] := fun o =>
    ⟨rfl, ⟨rfl, rfl, rfl, by omega, by omega, by omega⟩, ⟨⟨rfl, rfl, rfl, by omega, by omega, by omega⟩, rfl, by omega, by omega, by omega, .nil⟩, rfl⟩
  obtain ⟨w, o3, w0, w1, s3, e3⟩ := draw_k [.lst ((pks rs).map D.int), .ins 3 [some (.ref 3), some (.ref 4)], .lst L1, .lst L2, .ins 3 [some (.ref 6), some (.ref 7)], .lst [], .lst [.tup []], .lst []] s2 (m := 8) (by omega) (by omega)
  -- empty pieces
  have empt : ∃ o4 t4 ps hs f9, SrO o4 ∧ Wh (o4 :: t4) (pks rs) ps hs ∧ ps.flatten.length = 0 ∧ ps.length ≤ 200 ∧
      (sIf (tBl (eB opEq (eCall m__law_draw [(eV 1), (eC (.int 8))]) (eC (.int 7)))) (sFor (mRng1 (eB opAdd (eC (.int 190)) (eCall m__law_draw [(eV 1), (eC (.int 11))]))) (gtName 9) b_law_2) sSkip)
        [some (.fls (ns.map D.int)), some (.ref 0), some (.fls (rs.map rowD)), some (.ref 1), f4, some (.ref 2), some (.ref 5), some (.ref 8), none, none, none, none] [o2, .lst ((pks rs).map D.int), .ins 3 [some (.ref 3), some (.ref 4)], .lst L1, .lst L2, .ins 3 [some (.ref 6), some (.ref 7)], .lst [], .lst [.tup []], .lst []] =
        .nx [some (.fls (ns.map D.int)), some (.ref 0), some (.fls (rs.map rowD)), some (.ref 1), f4, some (.ref 2), some (.ref 5), some (.ref 8), none, f9, none, none] (o4 :: t4) := by
    generalize hT : ([.lst ((pks rs).map D.int), .ins 3 [some (.ref 3), some (.ref 4)], .lst L1, .lst L2, .ins 3 [some (.ref 6), some (.ref 7)], .lst [], .lst [.tup []], .lst []] : Hh) = T at e3 W0 ⊢
    generalize ns.map D.int = N
    generalize rs.map rowD = R
    by_cases h7 : w = 7
    · obtain ⟨u, o4, u0, u1, s4, e4⟩ := draw_k T s3 (m := 11) (by omega) (by omega)
      have hr : Sm.inR (190 + u) = true := inR_ok (by omega) (by omega)
      have rl : (rngD 0 (190 + u).toNat).length ≤ 200 := by simp [rngD]; omega
      obtain ⟨h', f9, W', k0, lp2⟩ := empty_loop (N := .fls N) (R := .fls R) (e4 := f4) (e5 := some (.ref 2)) (e8 := none) (e10 := none) (e11 := none) (rngD 0 (190 + u).toNat) (o4 :: T) 0 none (W0 o4) (by omega)
      obtain ⟨t', rfl⟩ := head_of (W'.len.trans (W0 o4).len.symm) k0
      refine ⟨o4, t', _, _, f9, s4, W', by simp, by simp; simpa [rngD] using rl, ?_⟩
      rw [go_ifT (h' := o3 :: T) (by simp [e3, h7])]
      generalize b_law_2 = B at lp2 ⊢
      simp [e4, hr]
      exact lp2
    · refine ⟨o3, T, [], [[]], none, s3, W0 o3, rfl, by simp, ?_⟩
      rw [go_ifF (h' := o3 :: T) (by simp [e3, h7])]
      rfl
  obtain ⟨o4, t4, ps, hs, f9, s4, W4, pz, p2, em⟩ := empt
  obtain ⟨o5, t5, ps5, hs5, f8, f10, f11, s5, W5, rd⟩ := rounds (N := .fls (ns.map D.int)) (R := .fls (rs.map rowD)) (e4 := f4) (e5 := some (.ref 2)) (e9 := f9) po (by omega) (rngD 0 12) o4 t4 ps hs none none none s4 W4 (by simp [rngD, pz]) p2
  have Wo : Rd (o5 :: t5) 2 3 4 [[0, 0, 0]] ([[]] ++ [[0]]) := W5.oth
  have wt : m_StreamReader_waiting [.ref 2] (o5 :: t5) = .ok (.int 1) (o5 :: t5) := waiting_spec Wo
  have lg : m_StreamReader_log [.ref 2] (o5 :: t5) = .ok (.tup [.tup [.int 0, .int 0, .int 0]]) (o5 :: t5) := log_spec Wo
  have i2 := Wo.ins
  have sa := same_int 1 10 (o5 :: t5)
  have sb : m__law_same 12 [.tup [.tup [.int 0, .int 0, .int 0]], .tup [.tup [.int 0, .int 0, .int 0]]] (o5 :: t5) = .ok (.bl true) (o5 :: t5) := same_rows (rs := [[0, 0, 0]]) (fun y hy => by simp at hy; subst hy; simp) (by simp) _
  have fin : b_law [some (.fls (ns.map D.int)), none, none, none, none, none, none, none, none, none, none, none] [] = .rt (.bl true) (o5 :: t5) := by
    unfold b_law
    simp only [rowD] at *
    generalize hT : t5 = T5 at *
    generalize hS : (pks rs).map D.int = S at *
    generalize hN : ns.map D.int = N at *
    generalize hR : (rs.map fun os => D.tup (os.map D.int)) = R at *
    rw [go_nx (e' := [some (.fls N), some (.ref 0), none, none, none, none, none, none, none, none, none, none]) (h' := [.lst [.fls N, .int 0, .int 0, .int 1]]) (by simp)]
    rw [go_nx (e' := [some (.fls N), some (.ref 0), some (.fls R), none, none, none, none, none, none, none, none, none]) (h' := [o1]) (by simp [e1])]
    rw [go_nx (e' := [some (.fls N), some (.ref 0), some (.fls R), some (.ref 1), none, none, none, none, none, none, none, none]) (h' := [o1, .lst []]) (by simp)]
    rw [go_nx (e' := [some (.fls N), some (.ref 0), some (.fls R), some (.ref 1), f4, none, none, none, none, none, none, none]) (h' := [o1, .lst S]) (by
      generalize b_law_1 = B at lp ⊢
      simp [lp])]
    rw [go_nx (e' := [some (.fls N), some (.ref 0), some (.fls R), some (.ref 1), f4, none, none, none, none, none, none, none]) (h' := [o2, .lst S]) (by simp [pg, sm, e2])]
    rw [go_nx (e' := [some (.fls N), some (.ref 0), some (.fls R), some (.ref 1), f4, some (.ref 2), none, none, none, none, none, none]) (h' := [o2, .lst S, .ins 3 [some (.ref 3), some (.ref 4)], .lst [], .lst [.tup []]]) (by simp [mk1])]
    rw [go_nx (e' := [some (.fls N), some (.ref 0), some (.fls R), some (.ref 1), f4, some (.ref 2), none, none, none, none, none, none]) (h' := [o2, .lst S, .ins 3 [some (.ref 3), some (.ref 4)], .lst L1, .lst L2]) (by simp [fd, sm2])]
    rw [go_nx (e' := [some (.fls N), some (.ref 0), some (.fls R), some (.ref 1), f4, some (.ref 2), some (.ref 5), none, none, none, none, none]) (h' := [o2, .lst S, .ins 3 [some (.ref 3), some (.ref 4)], .lst L1, .lst L2, .ins 3 [some (.ref 6), some (.ref 7)], .lst [], .lst [.tup []]]) (by simp [mk2])]
    rw [go_nx (e' := [some (.fls N), some (.ref 0), some (.fls R), some (.ref 1), f4, some (.ref 2), some (.ref 5), some (.ref 8), none, none, none, none]) (h' := [o2, .lst S, .ins 3 [some (.ref 3), some (.ref 4)], .lst L1, .lst L2, .ins 3 [some (.ref 6), some (.ref 7)], .lst [], .lst [.tup []], .lst []]) (by simp)]
    rw [go_nx em]
    rw [go_nx (e' := [some (.fls N), some (.ref 0), some (.fls R), some (.ref 1), f4, some (.ref 2), some (.ref 5), some (.ref 8), f8, f9, f10, f11]) (h' := o5 :: T5) (by
      generalize b_law_3 = B at rd ⊢
      have r12 : Sm.inR 12 = true := rfl
      simp [r12]
      exact rd)]
    generalize o5 :: T5 = H at *
    simp [i2, wt, sa, lg, sb]
  refine ⟨[], ?_⟩
  show trR [] (fnEnd (b_law [some (.fls (ns.map D.int)), none, none, none, none, none, none, none, none, none, none, none] [])) = _
  rw [fin]
  have := trR_app (d := .bl true) (h := []) (g := o5 :: t5)
  rw [List.nil_append] at this
  show trR [] (.ok (.bl true) (o5 :: t5)) = _
  rw [this]
  exact if_pos rfl
end Lk09
namespace Lk09
open PySem L2 PyProof.Rows Sm
open NdefX
abbrev si_BadOctets : Stmt := mth (top 2) 0
abbrev nf_BadOctets (cc cda : Addr) : NF := ⟨"__init__", "BadOctets.__init__", defArgs si_BadOctets, defBody si_BadOctets, defScope si_BadOctets, [("__class__", cc)], cda⟩
theorem err_mk_BadOctets {l : PySem.W.OpenLaw} {w : World} {K : PySem.W.Frag} {h : Heap} {mg : Str → Option Value} {base : Heap} {G : Cl} (X : K.In h) (Gm : h.Ns mainGlobals mg)
  {C_BadOctets fI_BadOctets cc_BadOctets cda_BadOctets N_BadOctets : Addr} {nm_BadOctets q_BadOctets : Str} {bs_BadOctets bm_BadOctets : List Value} {sn_BadOctets : List Str} {sub_BadOctets : List Value} {ab_BadOctets : Bool} {col_BadOctets : Option Bool} {dd_BadOctets od2_BadOctets an2_BadOctets cld_BadOctets cdd_BadOctets : Option Addr} {m0_BadOctets m1_BadOctets m2_BadOctets m3_BadOctets m5_BadOctets : Option Value} {kV2_BadOctets doc2_BadOctets pm2_BadOctets ct2_BadOctets oc2_BadOctets cl_BadOctets ccl_BadOctets : Value} {osl_BadOctets csl_BadOctets ccs_BadOctets : Array (Option Value)} {vs_BadOctets : Array Value} {file_BadOctets : Str} {tf_BadOctets : Tok} {cdD_BadOctets : ClassData}
  (aC_BadOctets : PySem.W.nsIn K mainGlobals "BadOctets" = some (some (.ref C_BadOctets)))
  (xC_BadOctets : K.lookup C_BadOctets = some (PySem.excClassObj nm_BadOctets q_BadOctets C_BadOctets N_BadOctets bs_BadOctets bm_BadOctets true sn_BadOctets sub_BadOctets ab_BadOctets col_BadOctets dd_BadOctets m0_BadOctets m1_BadOctets m2_BadOctets m3_BadOctets m5_BadOctets "ValueError.__new__"))
  (sa_BadOctets : PySem.W.findIn K (.ref C_BadOctets) "__setattr__" = some (some (.builtin "object.__setattr__")))
  (eC_BadOctets : PySem.W.subIn K (.ref C_BadOctets) (.type "BaseException") = some true)
  (tC_BadOctets : PySem.W.typeIn K (.ref C_BadOctets) = some (.type "type"))
  (kC_BadOctets : PySem.W.keepIn K (.ref C_BadOctets) = true)
  (iC_BadOctets : PySem.W.findIn K (.ref C_BadOctets) "__init__" = some (some (.ref fI_BadOctets)))
  (tI_BadOctets : PySem.W.typeIn K (.ref fI_BadOctets) = some (.type "function"))
  (lI_BadOctets : K.lookup fI_BadOctets = some ⟨oc2_BadOctets, od2_BadOctets, .func (fdx (nf_BadOctets cc_BadOctets cda_BadOctets) .none kV2_BadOctets doc2_BadOctets pm2_BadOctets an2_BadOctets ct2_BadOctets), osl_BadOctets⟩)
  (cI_BadOctets : PySem.W.codeIn K (.ref cda_BadOctets) "BadOctets.__init__" = true)
  (cd_BadOctets : K.lookup cda_BadOctets = some ⟨ccl_BadOctets, cdd_BadOctets, .fields vs_BadOctets, ccs_BadOctets⟩)
  (ce_BadOctets : K.lookup cc_BadOctets = some ⟨cl_BadOctets, cld_BadOctets, .cell (some (.ref C_BadOctets)), csl_BadOctets⟩)
  (cs_BadOctets : PySem.W.clsIn K C_BadOctets = some cdD_BadOctets)
  (mr_BadOctets : PySem.W.mroIn K C_BadOctets (.ref C_BadOctets) = some true)
  (su_BadOctets : PySem.W.ks_superIn K C_BadOctets C_BadOctets "__init__" = some (some (.builtin "ValueError.__init__")))
  (va_BadOctets : PySem.W.subIn K (.ref C_BadOctets) (.type "ValueError") = some true)
  (ga_BadOctets : PySem.W.findIn K (.ref C_BadOctets) "__getattribute__" = some (some (.builtin "BaseException.__getattribute__")))
  (gg_BadOctets : PySem.W.findIn K (.ref C_BadOctets) "__getattr__" = some none)
  (hd_BadOctets : PySem.W.hasDictIn K C_BadOctets = true)
  (rC_BadOctets : PySem.HandSPX.refsVE bm_BadOctets = true)
  (hv_BadOctets : vs_BadOctets[2]? = some (.str file_BadOctets tf_BadOctets))
  (hf_BadOctets : ((l.prog.main.file : Str) == file_BadOctets) = true)
  (n_BadOctets_place : PySem.W.findIn K (.ref C_BadOctets) "place" = some none)
  (n_BadOctets_why : PySem.W.findIn K (.ref C_BadOctets) "why" = some none)
  (sup_ : PySem.W.nsIn K mainGlobals "super" = some none)
  (thi_ : PySem.W.nsIn K PySem.cStatics "thirdparty.any" = some none)
  (htop_ : (l.prog.main.scope.names.lookup ("super" : Str)).isSome = false)
  (hG : G.at_ 0 = C_BadOctets) (hN : G.nm 0 = (["place", "why"] : List Str)) : ErrOk l.prog w K mg base G 1 "BadOctets" 0 := by
  have ox : OexC K C_BadOctets := ⟨⟨nm_BadOctets, q_BadOctets, N_BadOctets, bs_BadOctets, bm_BadOctets, sn_BadOctets, sub_BadOctets, ab_BadOctets, col_BadOctets, dd_BadOctets, m0_BadOctets, m1_BadOctets, m2_BadOctets, m3_BadOctets, m5_BadOctets, xC_BadOctets, rC_BadOctets⟩, sa_BadOctets, eC_BadOctets, tC_BadOctets, kC_BadOctets⟩
  subst hG
  refine ⟨fI_BadOctets, fdx (nf_BadOctets cc_BadOctets cda_BadOctets) .none kV2_BadOctets doc2_BadOctets pm2_BadOctets an2_BadOctets ct2_BadOctets, ["self", "place", "why"], PySem.W.mg_of X Gm aC_BadOctets, ox, iC_BadOctets, tI_BadOctets, ?_, ?_, by rw [hN]; decide, by rw [hN]; decide⟩
  · rw [hN]
    exact init_ok (F := nf_BadOctets cc_BadOctets cda_BadOctets) (fis := [("place", 1), ("why", 2)]) ⟨ox, mr_BadOctets, su_BadOctets, va_BadOctets⟩ lI_BadOctets cI_BadOctets (show NScope ["self", "place", "why", "__class__"] ["self", "place", "why"] ["__class__"] (defScope si_BadOctets) from nscope_by (by decide +kernel)) rfl rfl ⟨_, rfl, rfl⟩ rfl (show (defScope si_BadOctets).names.lookup ("super" : Str) = some .globalImplicit from by decide +kernel) ⟨_, _, _, _, cd_BadOctets, rfl, hv_BadOctets, hf_BadOctets⟩ htop_ ⟨_, _, _, ce_BadOctets⟩ ⟨_, cs_BadOctets⟩ (PySem.W.mg_none_of X Gm sup_) thi_
      (fun L => rfl) rfl (by simp) (by decide) (fun k p e => by
        match k, e with
        | 0, e => cases e; rfl
        | 1, e => cases e; rfl
        | k + 2, e => simp at e) (fun p hp => by simp at hp; rcases hp with rfl | rfl <;> assumption)
      (fun A outer s H E => (pss_cons (ps_ost (pe_var (i := 0) rfl (Or.inl rfl)) (pe_var (i := 1) rfl (Or.inl rfl))) (pss_cons (ps_ost (pe_var (i := 0) rfl (Or.inl rfl)) (pe_var (i := 2) rfl (Or.inl rfl))) pss_nil)))
  · exact fun s us _ hl => match us, hl with | [_, _, _], _ => .of_eq rfl
abbrev si_TooMany : Stmt := mth (top 4) 0
abbrev nf_TooMany (cc cda : Addr) : NF := ⟨"__init__", "TooMany.__init__", defArgs si_TooMany, defBody si_TooMany, defScope si_TooMany, [("__class__", cc)], cda⟩
theorem err_mk_TooMany {l : PySem.W.OpenLaw} {w : World} {K : PySem.W.Frag} {h : Heap} {mg : Str → Option Value} {base : Heap} {G : Cl} (X : K.In h) (Gm : h.Ns mainGlobals mg)
  {C_TooMany fI_TooMany cc_TooMany cda_TooMany N_TooMany : Addr} {nm_TooMany q_TooMany : Str} {bs_TooMany bm_TooMany : List Value} {sn_TooMany : List Str} {sub_TooMany : List Value} {ab_TooMany : Bool} {col_TooMany : Option Bool} {dd_TooMany od2_TooMany an2_TooMany cld_TooMany cdd_TooMany : Option Addr} {m0_TooMany m1_TooMany m2_TooMany m3_TooMany m5_TooMany : Option Value} {kV2_TooMany doc2_TooMany pm2_TooMany ct2_TooMany oc2_TooMany cl_TooMany ccl_TooMany : Value} {osl_TooMany csl_TooMany ccs_TooMany : Array (Option Value)} {vs_TooMany : Array Value} {file_TooMany : Str} {tf_TooMany : Tok} {cdD_TooMany : ClassData}
  (aC_TooMany : PySem.W.nsIn K mainGlobals "TooMany" = some (some (.ref C_TooMany)))
  (xC_TooMany : K.lookup C_TooMany = some (PySem.excClassObj nm_TooMany q_TooMany C_TooMany N_TooMany bs_TooMany bm_TooMany true sn_TooMany sub_TooMany ab_TooMany col_TooMany dd_TooMany m0_TooMany m1_TooMany m2_TooMany m3_TooMany m5_TooMany "ValueError.__new__"))
  (sa_TooMany : PySem.W.findIn K (.ref C_TooMany) "__setattr__" = some (some (.builtin "object.__setattr__")))
  (eC_TooMany : PySem.W.subIn K (.ref C_TooMany) (.type "BaseException") = some true)
  (tC_TooMany : PySem.W.typeIn K (.ref C_TooMany) = some (.type "type"))
  (kC_TooMany : PySem.W.keepIn K (.ref C_TooMany) = true)
  (iC_TooMany : PySem.W.findIn K (.ref C_TooMany) "__init__" = some (some (.ref fI_TooMany)))
  (tI_TooMany : PySem.W.typeIn K (.ref fI_TooMany) = some (.type "function"))
  (lI_TooMany : K.lookup fI_TooMany = some ⟨oc2_TooMany, od2_TooMany, .func (fdx (nf_TooMany cc_TooMany cda_TooMany) .none kV2_TooMany doc2_TooMany pm2_TooMany an2_TooMany ct2_TooMany), osl_TooMany⟩)
  (cI_TooMany : PySem.W.codeIn K (.ref cda_TooMany) "TooMany.__init__" = true)
  (cd_TooMany : K.lookup cda_TooMany = some ⟨ccl_TooMany, cdd_TooMany, .fields vs_TooMany, ccs_TooMany⟩)
  (ce_TooMany : K.lookup cc_TooMany = some ⟨cl_TooMany, cld_TooMany, .cell (some (.ref C_TooMany)), csl_TooMany⟩)
  (cs_TooMany : PySem.W.clsIn K C_TooMany = some cdD_TooMany)
  (mr_TooMany : PySem.W.mroIn K C_TooMany (.ref C_TooMany) = some true)
  (su_TooMany : PySem.W.ks_superIn K C_TooMany C_TooMany "__init__" = some (some (.builtin "ValueError.__init__")))
  (va_TooMany : PySem.W.subIn K (.ref C_TooMany) (.type "ValueError") = some true)
  (ga_TooMany : PySem.W.findIn K (.ref C_TooMany) "__getattribute__" = some (some (.builtin "BaseException.__getattribute__")))
  (gg_TooMany : PySem.W.findIn K (.ref C_TooMany) "__getattr__" = some none)
  (hd_TooMany : PySem.W.hasDictIn K C_TooMany = true)
  (rC_TooMany : PySem.HandSPX.refsVE bm_TooMany = true)
  (hv_TooMany : vs_TooMany[2]? = some (.str file_TooMany tf_TooMany))
  (hf_TooMany : ((l.prog.main.file : Str) == file_TooMany) = true)
  (n_TooMany_what : PySem.W.findIn K (.ref C_TooMany) "what" = some none)
  (n_TooMany_count : PySem.W.findIn K (.ref C_TooMany) "count" = some none)
  (sup_ : PySem.W.nsIn K mainGlobals "super" = some none)
  (thi_ : PySem.W.nsIn K PySem.cStatics "thirdparty.any" = some none)
  (htop_ : (l.prog.main.scope.names.lookup ("super" : Str)).isSome = false)
  (hG : G.at_ 1 = C_TooMany) (hN : G.nm 1 = (["what", "count"] : List Str)) : ErrOk l.prog w K mg base G 1 "TooMany" 1 := by
  have ox : OexC K C_TooMany := ⟨⟨nm_TooMany, q_TooMany, N_TooMany, bs_TooMany, bm_TooMany, sn_TooMany, sub_TooMany, ab_TooMany, col_TooMany, dd_TooMany, m0_TooMany, m1_TooMany, m2_TooMany, m3_TooMany, m5_TooMany, xC_TooMany, rC_TooMany⟩, sa_TooMany, eC_TooMany, tC_TooMany, kC_TooMany⟩
  subst hG
  refine ⟨fI_TooMany, fdx (nf_TooMany cc_TooMany cda_TooMany) .none kV2_TooMany doc2_TooMany pm2_TooMany an2_TooMany ct2_TooMany, ["self", "what", "count"], PySem.W.mg_of X Gm aC_TooMany, ox, iC_TooMany, tI_TooMany, ?_, ?_, by rw [hN]; decide, by rw [hN]; decide⟩
  · rw [hN]
    exact init_ok (F := nf_TooMany cc_TooMany cda_TooMany) (fis := [("what", 1), ("count", 2)]) ⟨ox, mr_TooMany, su_TooMany, va_TooMany⟩ lI_TooMany cI_TooMany (show NScope ["self", "what", "count", "__class__"] ["self", "what", "count"] ["__class__"] (defScope si_TooMany) from nscope_by (by decide +kernel)) rfl rfl ⟨_, rfl, rfl⟩ rfl (show (defScope si_TooMany).names.lookup ("super" : Str) = some .globalImplicit from by decide +kernel) ⟨_, _, _, _, cd_TooMany, rfl, hv_TooMany, hf_TooMany⟩ htop_ ⟨_, _, _, ce_TooMany⟩ ⟨_, cs_TooMany⟩ (PySem.W.mg_none_of X Gm sup_) thi_
      (fun L => rfl) rfl (by simp) (by decide) (fun k p e => by
        match k, e with
        | 0, e => cases e; rfl
        | 1, e => cases e; rfl
        | k + 2, e => simp at e) (fun p hp => by simp at hp; rcases hp with rfl | rfl <;> assumption)
      (fun A outer s H E => (pss_cons (ps_ost (pe_var (i := 0) rfl (Or.inl rfl)) (pe_var (i := 1) rfl (Or.inl rfl))) (pss_cons (ps_ost (pe_var (i := 0) rfl (Or.inl rfl)) (pe_var (i := 2) rfl (Or.inl rfl))) pss_nil)))
  · exact fun s us _ hl => match us, hl with | [_, _, _], _ => .of_eq rfl
abbrev si_BadDeed : Stmt := mth (top 3) 0
abbrev nf_BadDeed (cc cda : Addr) : NF := ⟨"__init__", "BadDeed.__init__", defArgs si_BadDeed, defBody si_BadDeed, defScope si_BadDeed, [("__class__", cc)], cda⟩
theorem err_mk_BadDeed {l : PySem.W.OpenLaw} {w : World} {K : PySem.W.Frag} {h : Heap} {mg : Str → Option Value} {base : Heap} {G : Cl} (X : K.In h) (Gm : h.Ns mainGlobals mg)
  {C_BadDeed fI_BadDeed cc_BadDeed cda_BadDeed N_BadDeed : Addr} {nm_BadDeed q_BadDeed : Str} {bs_BadDeed bm_BadDeed : List Value} {sn_BadDeed : List Str} {sub_BadDeed : List Value} {ab_BadDeed : Bool} {col_BadDeed : Option Bool} {dd_BadDeed od2_BadDeed an2_BadDeed cld_BadDeed cdd_BadDeed : Option Addr} {m0_BadDeed m1_BadDeed m2_BadDeed m3_BadDeed m5_BadDeed : Option Value} {kV2_BadDeed doc2_BadDeed pm2_BadDeed ct2_BadDeed oc2_BadDeed cl_BadDeed ccl_BadDeed : Value} {osl_BadDeed csl_BadDeed ccs_BadDeed : Array (Option Value)} {vs_BadDeed : Array Value} {file_BadDeed : Str} {tf_BadDeed : Tok} {cdD_BadDeed : ClassData}
  (aC_BadDeed : PySem.W.nsIn K mainGlobals "BadDeed" = some (some (.ref C_BadDeed)))
  (xC_BadDeed : K.lookup C_BadDeed = some (PySem.excClassObj nm_BadDeed q_BadDeed C_BadDeed N_BadDeed bs_BadDeed bm_BadDeed true sn_BadDeed sub_BadDeed ab_BadDeed col_BadDeed dd_BadDeed m0_BadDeed m1_BadDeed m2_BadDeed m3_BadDeed m5_BadDeed "ValueError.__new__"))
  (sa_BadDeed : PySem.W.findIn K (.ref C_BadDeed) "__setattr__" = some (some (.builtin "object.__setattr__")))
  (eC_BadDeed : PySem.W.subIn K (.ref C_BadDeed) (.type "BaseException") = some true)
  (tC_BadDeed : PySem.W.typeIn K (.ref C_BadDeed) = some (.type "type"))
  (kC_BadDeed : PySem.W.keepIn K (.ref C_BadDeed) = true)
  (iC_BadDeed : PySem.W.findIn K (.ref C_BadDeed) "__init__" = some (some (.ref fI_BadDeed)))
  (tI_BadDeed : PySem.W.typeIn K (.ref fI_BadDeed) = some (.type "function"))
  (lI_BadDeed : K.lookup fI_BadDeed = some ⟨oc2_BadDeed, od2_BadDeed, .func (fdx (nf_BadDeed cc_BadDeed cda_BadDeed) .none kV2_BadDeed doc2_BadDeed pm2_BadDeed an2_BadDeed ct2_BadDeed), osl_BadDeed⟩)
  (cI_BadDeed : PySem.W.codeIn K (.ref cda_BadDeed) "BadDeed.__init__" = true)
  (cd_BadDeed : K.lookup cda_BadDeed = some ⟨ccl_BadDeed, cdd_BadDeed, .fields vs_BadDeed, ccs_BadDeed⟩)
  (ce_BadDeed : K.lookup cc_BadDeed = some ⟨cl_BadDeed, cld_BadDeed, .cell (some (.ref C_BadDeed)), csl_BadDeed⟩)
  (cs_BadDeed : PySem.W.clsIn K C_BadDeed = some cdD_BadDeed)
  (mr_BadDeed : PySem.W.mroIn K C_BadDeed (.ref C_BadDeed) = some true)
  (su_BadDeed : PySem.W.ks_superIn K C_BadDeed C_BadDeed "__init__" = some (some (.builtin "ValueError.__init__")))
  (va_BadDeed : PySem.W.subIn K (.ref C_BadDeed) (.type "ValueError") = some true)
  (ga_BadDeed : PySem.W.findIn K (.ref C_BadDeed) "__getattribute__" = some (some (.builtin "BaseException.__getattribute__")))
  (gg_BadDeed : PySem.W.findIn K (.ref C_BadDeed) "__getattr__" = some none)
  (hd_BadDeed : PySem.W.hasDictIn K C_BadDeed = true)
  (rC_BadDeed : PySem.HandSPX.refsVE bm_BadDeed = true)
  (hv_BadDeed : vs_BadDeed[2]? = some (.str file_BadDeed tf_BadDeed))
  (hf_BadDeed : ((l.prog.main.file : Str) == file_BadDeed) = true)
  (n_BadDeed_why : PySem.W.findIn K (.ref C_BadDeed) "why" = some none)
  (sup_ : PySem.W.nsIn K mainGlobals "super" = some none)
  (thi_ : PySem.W.nsIn K PySem.cStatics "thirdparty.any" = some none)
  (htop_ : (l.prog.main.scope.names.lookup ("super" : Str)).isSome = false)
  (hG : G.at_ 2 = C_BadDeed) (hN : G.nm 2 = (["why"] : List Str)) : ErrOk l.prog w K mg base G 1 "BadDeed" 2 := by
  have ox : OexC K C_BadDeed := ⟨⟨nm_BadDeed, q_BadDeed, N_BadDeed, bs_BadDeed, bm_BadDeed, sn_BadDeed, sub_BadDeed, ab_BadDeed, col_BadDeed, dd_BadDeed, m0_BadDeed, m1_BadDeed, m2_BadDeed, m3_BadDeed, m5_BadDeed, xC_BadDeed, rC_BadDeed⟩, sa_BadDeed, eC_BadDeed, tC_BadDeed, kC_BadDeed⟩
  subst hG
  refine ⟨fI_BadDeed, fdx (nf_BadDeed cc_BadDeed cda_BadDeed) .none kV2_BadDeed doc2_BadDeed pm2_BadDeed an2_BadDeed ct2_BadDeed, ["self", "why"], PySem.W.mg_of X Gm aC_BadDeed, ox, iC_BadDeed, tI_BadDeed, ?_, ?_, by rw [hN]; decide, by rw [hN]; decide⟩
  · rw [hN]
    exact init_ok (F := nf_BadDeed cc_BadDeed cda_BadDeed) (fis := [("why", 1)]) ⟨ox, mr_BadDeed, su_BadDeed, va_BadDeed⟩ lI_BadDeed cI_BadDeed (show NScope ["self", "why", "__class__"] ["self", "why"] ["__class__"] (defScope si_BadDeed) from nscope_by (by decide +kernel)) rfl rfl ⟨_, rfl, rfl⟩ rfl (show (defScope si_BadDeed).names.lookup ("super" : Str) = some .globalImplicit from by decide +kernel) ⟨_, _, _, _, cd_BadDeed, rfl, hv_BadDeed, hf_BadDeed⟩ htop_ ⟨_, _, _, ce_BadDeed⟩ ⟨_, cs_BadDeed⟩ (PySem.W.mg_none_of X Gm sup_) thi_
      (fun L => rfl) rfl (by simp) (by decide) (fun k p e => by
        match k, e with
        | 0, e => cases e; rfl
        | k + 1, e => simp at e) (fun p hp => by simp at hp; subst hp; assumption)
      (fun A outer s H E => (pss_cons (ps_ost (pe_var (i := 0) rfl (Or.inl rfl)) (pe_var (i := 1) rfl (Or.inl rfl))) pss_nil))
  · exact fun s us _ hl => match us, hl with | [_, _], _ => .of_eq rfl
theorem all_mk {l : PySem.W.OpenLaw} {w : World} {K : PySem.W.Frag} {h : Heap} {mg : Str → Option Value} {fa : Addr} (X : K.In h) (G : h.Ns mainGlobals mg) (hfa : mg "law" = some (.ref fa))
    {f_is_integer f_is_between f_check_octets f_from_number f_pack_stream f__law_draw f__law_pick f__law_same f__law_joined f__law_octet_row f__law_rows f__law_octet_fault f__law_wrong_row f__law_is_packed f__law_parsed f__law_piece f__law_due f_StreamReader_feed f__law_is_fed f_StreamReader_undo f__law_is_undone f_StreamReader___init__ f_StreamReader_waiting f_StreamReader_log f_law : Addr} {od_is_integer an_is_integer od_is_between an_is_between od_check_octets an_check_octets od_from_number an_from_number od_pack_stream an_pack_stream od__law_draw an__law_draw od__law_pick an__law_pick od__law_same an__law_same od__law_joined an__law_joined od__law_octet_row an__law_octet_row od__law_rows an__law_rows od__law_octet_fault an__law_octet_fault od__law_wrong_row an__law_wrong_row od__law_is_packed an__law_is_packed od__law_parsed an__law_parsed od__law_piece an__law_piece od__law_due an__law_due od_StreamReader_feed an_StreamReader_feed od__law_is_fed an__law_is_fed od_StreamReader_undo an_StreamReader_undo od__law_is_undone an__law_is_undone od_StreamReader___init__ an_StreamReader___init__ od_StreamReader_waiting an_StreamReader_waiting od_StreamReader_log an_StreamReader_log od_law an_law : Option Addr} {sl_is_integer sl_is_between sl_check_octets sl_from_number sl_pack_stream sl__law_draw sl__law_pick sl__law_same sl__law_joined sl__law_octet_row sl__law_rows sl__law_octet_fault sl__law_wrong_row sl__law_is_packed sl__law_parsed sl__law_piece sl__law_due sl_StreamReader_feed sl__law_is_fed sl_StreamReader_undo sl__law_is_undone sl_StreamReader___init__ sl_StreamReader_waiting sl_StreamReader_log sl_law : Array (Option Value)} {oc_is_integer kV_is_integer dc_is_integer pm_is_integer cd_is_integer ct_is_integer oc_is_between kV_is_between dc_is_between pm_is_between cd_is_between ct_is_between oc_check_octets kV_check_octets dc_check_octets pm_check_octets cd_check_octets ct_check_octets oc_from_number kV_from_number dc_from_number pm_from_number cd_from_number ct_from_number oc_pack_stream kV_pack_stream dc_pack_stream pm_pack_stream cd_pack_stream ct_pack_stream oc__law_draw kV__law_draw dc__law_draw pm__law_draw cd__law_draw ct__law_draw oc__law_pick kV__law_pick dc__law_pick pm__law_pick cd__law_pick ct__law_pick oc__law_same kV__law_same dc__law_same pm__law_same cd__law_same ct__law_same oc__law_joined kV__law_joined dc__law_joined pm__law_joined cd__law_joined ct__law_joined oc__law_octet_row kV__law_octet_row dc__law_octet_row pm__law_octet_row cd__law_octet_row ct__law_octet_row oc__law_rows kV__law_rows dc__law_rows pm__law_rows cd__law_rows ct__law_rows oc__law_octet_fault kV__law_octet_fault dc__law_octet_fault pm__law_octet_fault cd__law_octet_fault ct__law_octet_fault oc__law_wrong_row kV__law_wrong_row dc__law_wrong_row pm__law_wrong_row cd__law_wrong_row ct__law_wrong_row oc__law_is_packed kV__law_is_packed dc__law_is_packed pm__law_is_packed cd__law_is_packed ct__law_is_packed oc__law_parsed kV__law_parsed dc__law_parsed pm__law_parsed cd__law_parsed ct__law_parsed oc__law_piece kV__law_piece dc__law_piece pm__law_piece cd__law_piece ct__law_piece oc__law_due kV__law_due dc__law_due pm__law_due cd__law_due ct__law_due oc_StreamReader_feed kV_StreamReader_feed dc_StreamReader_feed pm_StreamReader_feed cd_StreamReader_feed ct_StreamReader_feed oc__law_is_fed kV__law_is_fed dc__law_is_fed pm__law_is_fed cd__law_is_fed ct__law_is_fed oc_StreamReader_undo kV_StreamReader_undo dc_StreamReader_undo pm_StreamReader_undo cd_StreamReader_undo ct_StreamReader_undo oc__law_is_undone kV__law_is_undone dc__law_is_undone pm__law_is_undone cd__law_is_undone ct__law_is_undone oc_StreamReader___init__ kV_StreamReader___init__ dc_StreamReader___init__ pm_StreamReader___init__ cd_StreamReader___init__ ct_StreamReader___init__ oc_StreamReader_waiting kV_StreamReader_waiting dc_StreamReader_waiting pm_StreamReader_waiting cd_StreamReader_waiting ct_StreamReader_waiting oc_StreamReader_log kV_StreamReader_log dc_StreamReader_log pm_StreamReader_log cd_StreamReader_log ct_StreamReader_log oc_law kV_law dc_law pm_law cd_law ct_law : Value} {u_MOST_DEEDS u_MOST_OCTETS : Tok}
    {C_StreamReader : Addr}
    {C_BadOctets fI_BadOctets cc_BadOctets cda_BadOctets N_BadOctets : Addr} {nm_BadOctets q_BadOctets : Str} {bs_BadOctets bm_BadOctets : List Value} {sn_BadOctets : List Str} {sub_BadOctets : List Value} {ab_BadOctets : Bool} {col_BadOctets : Option Bool} {dd_BadOctets od2_BadOctets an2_BadOctets cld_BadOctets cdd_BadOctets : Option Addr} {m0_BadOctets m1_BadOctets m2_BadOctets m3_BadOctets m5_BadOctets : Option Value} {kV2_BadOctets doc2_BadOctets pm2_BadOctets ct2_BadOctets oc2_BadOctets cl_BadOctets ccl_BadOctets : Value} {osl_BadOctets csl_BadOctets ccs_BadOctets : Array (Option Value)} {vs_BadOctets : Array Value} {file_BadOctets : Str} {tf_BadOctets : Tok} {cdD_BadOctets : ClassData}
    {C_TooMany fI_TooMany cc_TooMany cda_TooMany N_TooMany : Addr} {nm_TooMany q_TooMany : Str} {bs_TooMany bm_TooMany : List Value} {sn_TooMany : List Str} {sub_TooMany : List Value} {ab_TooMany : Bool} {col_TooMany : Option Bool} {dd_TooMany od2_TooMany an2_TooMany cld_TooMany cdd_TooMany : Option Addr} {m0_TooMany m1_TooMany m2_TooMany m3_TooMany m5_TooMany : Option Value} {kV2_TooMany doc2_TooMany pm2_TooMany ct2_TooMany oc2_TooMany cl_TooMany ccl_TooMany : Value} {osl_TooMany csl_TooMany ccs_TooMany : Array (Option Value)} {vs_TooMany : Array Value} {file_TooMany : Str} {tf_TooMany : Tok} {cdD_TooMany : ClassData}
    {C_BadDeed fI_BadDeed cc_BadDeed cda_BadDeed N_BadDeed : Addr} {nm_BadDeed q_BadDeed : Str} {bs_BadDeed bm_BadDeed : List Value} {sn_BadDeed : List Str} {sub_BadDeed : List Value} {ab_BadDeed : Bool} {col_BadDeed : Option Bool} {dd_BadDeed od2_BadDeed an2_BadDeed cld_BadDeed cdd_BadDeed : Option Addr} {m0_BadDeed m1_BadDeed m2_BadDeed m3_BadDeed m5_BadDeed : Option Value} {kV2_BadDeed doc2_BadDeed pm2_BadDeed ct2_BadDeed oc2_BadDeed cl_BadDeed ccl_BadDeed : Value} {osl_BadDeed csl_BadDeed ccs_BadDeed : Array (Option Value)} {vs_BadDeed : Array Value} {file_BadDeed : Str} {tf_BadDeed : Tok} {cdD_BadDeed : ClassData}
    (aC_StreamReader : PySem.W.nsIn K mainGlobals "StreamReader" = some (some (.ref C_StreamReader))) (pg_StreamReader : PySem.W.plainGet K C_StreamReader Str.empty = true) (hd_StreamReader : PySem.W.hasDictIn K C_StreamReader = true) (po_StreamReader : PySem.W.plainOver K C_StreamReader = true) (sa_StreamReader : PySem.W.findIn K (.ref C_StreamReader) "__setattr__" = some (some (.builtin "object.__setattr__"))) (mk_StreamReader : PySem.W.makesIn K C_StreamReader = true) (kC_StreamReader : PySem.W.keepIn K (.ref C_StreamReader) = true)
    (n_StreamReader__pieces : PySem.W.findIn K (.ref C_StreamReader) "_pieces" = some none) (n_StreamReader__held : PySem.W.findIn K (.ref C_StreamReader) "_held" = some none)
    (a_is_integer : PySem.W.nsIn K mainGlobals "is_integer" = some (some (.ref f_is_integer))) (l_is_integer : K.lookup f_is_integer = some ⟨oc_is_integer, od_is_integer, .func (PySem.W.fnOf "is_integer" "is_integer" (defArgs s_is_integer) (defBody s_is_integer) (defScope s_is_integer) .none kV_is_integer dc_is_integer pm_is_integer an_is_integer cd_is_integer ct_is_integer), sl_is_integer⟩) (c_is_integer : PySem.W.codeIn K cd_is_integer "is_integer" = true) (k_is_integer : PySem.W.keepIn K (.ref f_is_integer) = true)
    (a_is_between : PySem.W.nsIn K mainGlobals "is_between" = some (some (.ref f_is_between))) (l_is_between : K.lookup f_is_between = some ⟨oc_is_between, od_is_between, .func (PySem.W.fnOf "is_between" "is_between" (defArgs s_is_between) (defBody s_is_between) (defScope s_is_between) .none kV_is_between dc_is_between pm_is_between an_is_between cd_is_between ct_is_between), sl_is_between⟩) (c_is_between : PySem.W.codeIn K cd_is_between "is_between" = true) (k_is_between : PySem.W.keepIn K (.ref f_is_between) = true)
    (a_check_octets : PySem.W.nsIn K mainGlobals "check_octets" = some (some (.ref f_check_octets))) (l_check_octets : K.lookup f_check_octets = some ⟨oc_check_octets, od_check_octets, .func (PySem.W.fnOf "check_octets" "check_octets" (defArgs s_check_octets) (defBody s_check_octets) (defScope s_check_octets) .none kV_check_octets dc_check_octets pm_check_octets an_check_octets cd_check_octets ct_check_octets), sl_check_octets⟩) (c_check_octets : PySem.W.codeIn K cd_check_octets "check_octets" = true) (k_check_octets : PySem.W.keepIn K (.ref f_check_octets) = true)
    (a_from_number : PySem.W.nsIn K mainGlobals "from_number" = some (some (.ref f_from_number))) (l_from_number : K.lookup f_from_number = some ⟨oc_from_number, od_from_number, .func (PySem.W.fnOf "from_number" "from_number" (defArgs s_from_number) (defBody s_from_number) (defScope s_from_number) .none kV_from_number dc_from_number pm_from_number an_from_number cd_from_number ct_from_number), sl_from_number⟩) (c_from_number : PySem.W.codeIn K cd_from_number "from_number" = true) (k_from_number : PySem.W.keepIn K (.ref f_from_number) = true)
    (a_pack_stream : PySem.W.nsIn K mainGlobals "pack_stream" = some (some (.ref f_pack_stream))) (l_pack_stream : K.lookup f_pack_stream = some ⟨oc_pack_stream, od_pack_stream, .func (PySem.W.fnOf "pack_stream" "pack_stream" (defArgs s_pack_stream) (defBody s_pack_stream) (defScope s_pack_stream) .none kV_pack_stream dc_pack_stream pm_pack_stream an_pack_stream cd_pack_stream ct_pack_stream), sl_pack_stream⟩) (c_pack_stream : PySem.W.codeIn K cd_pack_stream "pack_stream" = true) (k_pack_stream : PySem.W.keepIn K (.ref f_pack_stream) = true)
    (a__law_draw : PySem.W.nsIn K mainGlobals "_law_draw" = some (some (.ref f__law_draw))) (l__law_draw : K.lookup f__law_draw = some ⟨oc__law_draw, od__law_draw, .func (PySem.W.fnOf "_law_draw" "_law_draw" (defArgs s__law_draw) (defBody s__law_draw) (defScope s__law_draw) .none kV__law_draw dc__law_draw pm__law_draw an__law_draw cd__law_draw ct__law_draw), sl__law_draw⟩) (c__law_draw : PySem.W.codeIn K cd__law_draw "_law_draw" = true) (k__law_draw : PySem.W.keepIn K (.ref f__law_draw) = true)
    (a__law_pick : PySem.W.nsIn K mainGlobals "_law_pick" = some (some (.ref f__law_pick))) (l__law_pick : K.lookup f__law_pick = some ⟨oc__law_pick, od__law_pick, .func (PySem.W.fnOf "_law_pick" "_law_pick" (defArgs s__law_pick) (defBody s__law_pick) (defScope s__law_pick) .none kV__law_pick dc__law_pick pm__law_pick an__law_pick cd__law_pick ct__law_pick), sl__law_pick⟩) (c__law_pick : PySem.W.codeIn K cd__law_pick "_law_pick" = true) (k__law_pick : PySem.W.keepIn K (.ref f__law_pick) = true)
    (a__law_same : PySem.W.nsIn K mainGlobals "_law_same" = some (some (.ref f__law_same))) (l__law_same : K.lookup f__law_same = some ⟨oc__law_same, od__law_same, .func (PySem.W.fnOf "_law_same" "_law_same" (defArgs s__law_same) (defBody s__law_same) (defScope s__law_same) .none kV__law_same dc__law_same pm__law_same an__law_same cd__law_same ct__law_same), sl__law_same⟩) (c__law_same : PySem.W.codeIn K cd__law_same "_law_same" = true) (k__law_same : PySem.W.keepIn K (.ref f__law_same) = true)
    (a__law_joined : PySem.W.nsIn K mainGlobals "_law_joined" = some (some (.ref f__law_joined))) (l__law_joined : K.lookup f__law_joined = some ⟨oc__law_joined, od__law_joined, .func (PySem.W.fnOf "_law_joined" "_law_joined" (defArgs s__law_joined) (defBody s__law_joined) (defScope s__law_joined) .none kV__law_joined dc__law_joined pm__law_joined an__law_joined cd__law_joined ct__law_joined), sl__law_joined⟩) (c__law_joined : PySem.W.codeIn K cd__law_joined "_law_joined" = true) (k__law_joined : PySem.W.keepIn K (.ref f__law_joined) = true)
    (a__law_octet_row : PySem.W.nsIn K mainGlobals "_law_octet_row" = some (some (.ref f__law_octet_row))) (l__law_octet_row : K.lookup f__law_octet_row = some ⟨oc__law_octet_row, od__law_octet_row, .func (PySem.W.fnOf "_law_octet_row" "_law_octet_row" (defArgs s__law_octet_row) (defBody s__law_octet_row) (defScope s__law_octet_row) .none kV__law_octet_row dc__law_octet_row pm__law_octet_row an__law_octet_row cd__law_octet_row ct__law_octet_row), sl__law_octet_row⟩) (c__law_octet_row : PySem.W.codeIn K cd__law_octet_row "_law_octet_row" = true) (k__law_octet_row : PySem.W.keepIn K (.ref f__law_octet_row) = true)
    (a__law_rows : PySem.W.nsIn K mainGlobals "_law_rows" = some (some (.ref f__law_rows))) (l__law_rows : K.lookup f__law_rows = some ⟨oc__law_rows, od__law_rows, .func (PySem.W.fnOf "_law_rows" "_law_rows" (defArgs s__law_rows) (defBody s__law_rows) (defScope s__law_rows) .none kV__law_rows dc__law_rows pm__law_rows an__law_rows cd__law_rows ct__law_rows), sl__law_rows⟩) (c__law_rows : PySem.W.codeIn K cd__law_rows "_law_rows" = true) (k__law_rows : PySem.W.keepIn K (.ref f__law_rows) = true)
    (a__law_octet_fault : PySem.W.nsIn K mainGlobals "_law_octet_fault" = some (some (.ref f__law_octet_fault))) (l__law_octet_fault : K.lookup f__law_octet_fault = some ⟨oc__law_octet_fault, od__law_octet_fault, .func (PySem.W.fnOf "_law_octet_fault" "_law_octet_fault" (defArgs s__law_octet_fault) (defBody s__law_octet_fault) (defScope s__law_octet_fault) .none kV__law_octet_fault dc__law_octet_fault pm__law_octet_fault an__law_octet_fault cd__law_octet_fault ct__law_octet_fault), sl__law_octet_fault⟩) (c__law_octet_fault : PySem.W.codeIn K cd__law_octet_fault "_law_octet_fault" = true) (k__law_octet_fault : PySem.W.keepIn K (.ref f__law_octet_fault) = true)
    (a__law_wrong_row : PySem.W.nsIn K mainGlobals "_law_wrong_row" = some (some (.ref f__law_wrong_row))) (l__law_wrong_row : K.lookup f__law_wrong_row = some ⟨oc__law_wrong_row, od__law_wrong_row, .func (PySem.W.fnOf "_law_wrong_row" "_law_wrong_row" (defArgs s__law_wrong_row) (defBody s__law_wrong_row) (defScope s__law_wrong_row) .none kV__law_wrong_row dc__law_wrong_row pm__law_wrong_row an__law_wrong_row cd__law_wrong_row ct__law_wrong_row), sl__law_wrong_row⟩) (c__law_wrong_row : PySem.W.codeIn K cd__law_wrong_row "_law_wrong_row" = true) (k__law_wrong_row : PySem.W.keepIn K (.ref f__law_wrong_row) = true)
    (a__law_is_packed : PySem.W.nsIn K mainGlobals "_law_is_packed" = some (some (.ref f__law_is_packed))) (l__law_is_packed : K.lookup f__law_is_packed = some ⟨oc__law_is_packed, od__law_is_packed, .func (PySem.W.fnOf "_law_is_packed" "_law_is_packed" (defArgs s__law_is_packed) (defBody s__law_is_packed) (defScope s__law_is_packed) .none kV__law_is_packed dc__law_is_packed pm__law_is_packed an__law_is_packed cd__law_is_packed ct__law_is_packed), sl__law_is_packed⟩) (c__law_is_packed : PySem.W.codeIn K cd__law_is_packed "_law_is_packed" = true) (k__law_is_packed : PySem.W.keepIn K (.ref f__law_is_packed) = true)
    (a__law_parsed : PySem.W.nsIn K mainGlobals "_law_parsed" = some (some (.ref f__law_parsed))) (l__law_parsed : K.lookup f__law_parsed = some ⟨oc__law_parsed, od__law_parsed, .func (PySem.W.fnOf "_law_parsed" "_law_parsed" (defArgs s__law_parsed) (defBody s__law_parsed) (defScope s__law_parsed) .none kV__law_parsed dc__law_parsed pm__law_parsed an__law_parsed cd__law_parsed ct__law_parsed), sl__law_parsed⟩) (c__law_parsed : PySem.W.codeIn K cd__law_parsed "_law_parsed" = true) (k__law_parsed : PySem.W.keepIn K (.ref f__law_parsed) = true)
    (a__law_piece : PySem.W.nsIn K mainGlobals "_law_piece" = some (some (.ref f__law_piece))) (l__law_piece : K.lookup f__law_piece = some ⟨oc__law_piece, od__law_piece, .func (PySem.W.fnOf "_law_piece" "_law_piece" (defArgs s__law_piece) (defBody s__law_piece) (defScope s__law_piece) .none kV__law_piece dc__law_piece pm__law_piece an__law_piece cd__law_piece ct__law_piece), sl__law_piece⟩) (c__law_piece : PySem.W.codeIn K cd__law_piece "_law_piece" = true) (k__law_piece : PySem.W.keepIn K (.ref f__law_piece) = true)
    (a__law_due : PySem.W.nsIn K mainGlobals "_law_due" = some (some (.ref f__law_due))) (l__law_due : K.lookup f__law_due = some ⟨oc__law_due, od__law_due, .func (PySem.W.fnOf "_law_due" "_law_due" (defArgs s__law_due) (defBody s__law_due) (defScope s__law_due) .none kV__law_due dc__law_due pm__law_due an__law_due cd__law_due ct__law_due), sl__law_due⟩) (c__law_due : PySem.W.codeIn K cd__law_due "_law_due" = true) (k__law_due : PySem.W.keepIn K (.ref f__law_due) = true)
    (a_StreamReader_feed : PySem.W.findIn K (.ref C_StreamReader) "feed" = some (some (.ref f_StreamReader_feed))) (fn_StreamReader_feed : PySem.W.isFn K (.ref f_StreamReader_feed) = true) (l_StreamReader_feed : K.lookup f_StreamReader_feed = some ⟨oc_StreamReader_feed, od_StreamReader_feed, .func (PySem.W.fnOf "feed" "StreamReader.feed" (defArgs s_StreamReader_feed) (defBody s_StreamReader_feed) (defScope s_StreamReader_feed) .none kV_StreamReader_feed dc_StreamReader_feed pm_StreamReader_feed an_StreamReader_feed cd_StreamReader_feed ct_StreamReader_feed), sl_StreamReader_feed⟩) (c_StreamReader_feed : PySem.W.codeIn K cd_StreamReader_feed "StreamReader.feed" = true) (k_StreamReader_feed : PySem.W.keepIn K (.ref f_StreamReader_feed) = true)
    (a__law_is_fed : PySem.W.nsIn K mainGlobals "_law_is_fed" = some (some (.ref f__law_is_fed))) (l__law_is_fed : K.lookup f__law_is_fed = some ⟨oc__law_is_fed, od__law_is_fed, .func (PySem.W.fnOf "_law_is_fed" "_law_is_fed" (defArgs s__law_is_fed) (defBody s__law_is_fed) (defScope s__law_is_fed) .none kV__law_is_fed dc__law_is_fed pm__law_is_fed an__law_is_fed cd__law_is_fed ct__law_is_fed), sl__law_is_fed⟩) (c__law_is_fed : PySem.W.codeIn K cd__law_is_fed "_law_is_fed" = true) (k__law_is_fed : PySem.W.keepIn K (.ref f__law_is_fed) = true)
    (a_StreamReader_undo : PySem.W.findIn K (.ref C_StreamReader) "undo" = some (some (.ref f_StreamReader_undo))) (fn_StreamReader_undo : PySem.W.isFn K (.ref f_StreamReader_undo) = true) (l_StreamReader_undo : K.lookup f_StreamReader_undo = some ⟨oc_StreamReader_undo, od_StreamReader_undo, .func (PySem.W.fnOf "undo" "StreamReader.undo" (defArgs s_StreamReader_undo) (defBody s_StreamReader_undo) (defScope s_StreamReader_undo) .none kV_StreamReader_undo dc_StreamReader_undo pm_StreamReader_undo an_StreamReader_undo cd_StreamReader_undo ct_StreamReader_undo), sl_StreamReader_undo⟩) (c_StreamReader_undo : PySem.W.codeIn K cd_StreamReader_undo "StreamReader.undo" = true) (k_StreamReader_undo : PySem.W.keepIn K (.ref f_StreamReader_undo) = true)
    (a__law_is_undone : PySem.W.nsIn K mainGlobals "_law_is_undone" = some (some (.ref f__law_is_undone))) (l__law_is_undone : K.lookup f__law_is_undone = some ⟨oc__law_is_undone, od__law_is_undone, .func (PySem.W.fnOf "_law_is_undone" "_law_is_undone" (defArgs s__law_is_undone) (defBody s__law_is_undone) (defScope s__law_is_undone) .none kV__law_is_undone dc__law_is_undone pm__law_is_undone an__law_is_undone cd__law_is_undone ct__law_is_undone), sl__law_is_undone⟩) (c__law_is_undone : PySem.W.codeIn K cd__law_is_undone "_law_is_undone" = true) (k__law_is_undone : PySem.W.keepIn K (.ref f__law_is_undone) = true)
    (a_StreamReader___init__ : PySem.W.findIn K (.ref C_StreamReader) "__init__" = some (some (.ref f_StreamReader___init__))) (fn_StreamReader___init__ : PySem.W.isFn K (.ref f_StreamReader___init__) = true) (l_StreamReader___init__ : K.lookup f_StreamReader___init__ = some ⟨oc_StreamReader___init__, od_StreamReader___init__, .func (PySem.W.fnOf "__init__" "StreamReader.__init__" (defArgs s_StreamReader___init__) (defBody s_StreamReader___init__) (defScope s_StreamReader___init__) .none kV_StreamReader___init__ dc_StreamReader___init__ pm_StreamReader___init__ an_StreamReader___init__ cd_StreamReader___init__ ct_StreamReader___init__), sl_StreamReader___init__⟩) (c_StreamReader___init__ : PySem.W.codeIn K cd_StreamReader___init__ "StreamReader.__init__" = true) (k_StreamReader___init__ : PySem.W.keepIn K (.ref f_StreamReader___init__) = true)
    (a_StreamReader_waiting : PySem.W.findIn K (.ref C_StreamReader) "waiting" = some (some (.ref f_StreamReader_waiting))) (fn_StreamReader_waiting : PySem.W.isFn K (.ref f_StreamReader_waiting) = true) (l_StreamReader_waiting : K.lookup f_StreamReader_waiting = some ⟨oc_StreamReader_waiting, od_StreamReader_waiting, .func (PySem.W.fnOf "waiting" "StreamReader.waiting" (defArgs s_StreamReader_waiting) (defBody s_StreamReader_waiting) (defScope s_StreamReader_waiting) .none kV_StreamReader_waiting dc_StreamReader_waiting pm_StreamReader_waiting an_StreamReader_waiting cd_StreamReader_waiting ct_StreamReader_waiting), sl_StreamReader_waiting⟩) (c_StreamReader_waiting : PySem.W.codeIn K cd_StreamReader_waiting "StreamReader.waiting" = true) (k_StreamReader_waiting : PySem.W.keepIn K (.ref f_StreamReader_waiting) = true)
    (a_StreamReader_log : PySem.W.findIn K (.ref C_StreamReader) "log" = some (some (.ref f_StreamReader_log))) (fn_StreamReader_log : PySem.W.isFn K (.ref f_StreamReader_log) = true) (l_StreamReader_log : K.lookup f_StreamReader_log = some ⟨oc_StreamReader_log, od_StreamReader_log, .func (PySem.W.fnOf "log" "StreamReader.log" (defArgs s_StreamReader_log) (defBody s_StreamReader_log) (defScope s_StreamReader_log) .none kV_StreamReader_log dc_StreamReader_log pm_StreamReader_log an_StreamReader_log cd_StreamReader_log ct_StreamReader_log), sl_StreamReader_log⟩) (c_StreamReader_log : PySem.W.codeIn K cd_StreamReader_log "StreamReader.log" = true) (k_StreamReader_log : PySem.W.keepIn K (.ref f_StreamReader_log) = true)
    (a_law : PySem.W.nsIn K mainGlobals "law" = some (some (.ref f_law))) (l_law : K.lookup f_law = some ⟨oc_law, od_law, .func (PySem.W.fnOf "law" "law" (defArgs s_law) (defBody s_law) (defScope s_law) .none kV_law dc_law pm_law an_law cd_law ct_law), sl_law⟩) (c_law : PySem.W.codeIn K cd_law "law" = true) (k_law : PySem.W.keepIn K (.ref f_law) = true)
    (z_abs : PySem.W.nsIn K mainGlobals "abs" = some none)
    (z_all : PySem.W.nsIn K mainGlobals "all" = some none)
    (z_bool : PySem.W.nsIn K mainGlobals "bool" = some none)
    (z_int : PySem.W.nsIn K mainGlobals "int" = some none)
    (z_isinstance : PySem.W.nsIn K mainGlobals "isinstance" = some none)
    (z_len : PySem.W.nsIn K mainGlobals "len" = some none)
    (z_list : PySem.W.nsIn K mainGlobals "list" = some none)
    (z_max : PySem.W.nsIn K mainGlobals "max" = some none)
    (z_range : PySem.W.nsIn K mainGlobals "range" = some none)
    (z_str : PySem.W.nsIn K mainGlobals "str" = some none)
    (z_tuple : PySem.W.nsIn K mainGlobals "tuple" = some none)
    (g_MOST_DEEDS : PySem.W.nsIn K mainGlobals "MOST_DEEDS" = some (some (.int 200 u_MOST_DEEDS)))
    (g_MOST_OCTETS : PySem.W.nsIn K mainGlobals "MOST_OCTETS" = some (some (.int 8000 u_MOST_OCTETS)))
    (aC_BadOctets : PySem.W.nsIn K mainGlobals "BadOctets" = some (some (.ref C_BadOctets)))
    (xC_BadOctets : K.lookup C_BadOctets = some (PySem.excClassObj nm_BadOctets q_BadOctets C_BadOctets N_BadOctets bs_BadOctets bm_BadOctets true sn_BadOctets sub_BadOctets ab_BadOctets col_BadOctets dd_BadOctets m0_BadOctets m1_BadOctets m2_BadOctets m3_BadOctets m5_BadOctets "ValueError.__new__"))
    (sa_BadOctets : PySem.W.findIn K (.ref C_BadOctets) "__setattr__" = some (some (.builtin "object.__setattr__")))
    (eC_BadOctets : PySem.W.subIn K (.ref C_BadOctets) (.type "BaseException") = some true)
    (tC_BadOctets : PySem.W.typeIn K (.ref C_BadOctets) = some (.type "type"))
    (kC_BadOctets : PySem.W.keepIn K (.ref C_BadOctets) = true)
    (iC_BadOctets : PySem.W.findIn K (.ref C_BadOctets) "__init__" = some (some (.ref fI_BadOctets)))
    (tI_BadOctets : PySem.W.typeIn K (.ref fI_BadOctets) = some (.type "function"))
    (lI_BadOctets : K.lookup fI_BadOctets = some ⟨oc2_BadOctets, od2_BadOctets, .func (fdx (nf_BadOctets cc_BadOctets cda_BadOctets) .none kV2_BadOctets doc2_BadOctets pm2_BadOctets an2_BadOctets ct2_BadOctets), osl_BadOctets⟩)
    (cI_BadOctets : PySem.W.codeIn K (.ref cda_BadOctets) "BadOctets.__init__" = true)
    (cd_BadOctets : K.lookup cda_BadOctets = some ⟨ccl_BadOctets, cdd_BadOctets, .fields vs_BadOctets, ccs_BadOctets⟩)
    (ce_BadOctets : K.lookup cc_BadOctets = some ⟨cl_BadOctets, cld_BadOctets, .cell (some (.ref C_BadOctets)), csl_BadOctets⟩)
    (cs_BadOctets : PySem.W.clsIn K C_BadOctets = some cdD_BadOctets)
    (mr_BadOctets : PySem.W.mroIn K C_BadOctets (.ref C_BadOctets) = some true)
    (su_BadOctets : PySem.W.ks_superIn K C_BadOctets C_BadOctets "__init__" = some (some (.builtin "ValueError.__init__")))
    (va_BadOctets : PySem.W.subIn K (.ref C_BadOctets) (.type "ValueError") = some true)
    (ga_BadOctets : PySem.W.findIn K (.ref C_BadOctets) "__getattribute__" = some (some (.builtin "BaseException.__getattribute__")))
    (gg_BadOctets : PySem.W.findIn K (.ref C_BadOctets) "__getattr__" = some none)
    (hd_BadOctets : PySem.W.hasDictIn K C_BadOctets = true)
    (rC_BadOctets : PySem.HandSPX.refsVE bm_BadOctets = true)
    (hv_BadOctets : vs_BadOctets[2]? = some (.str file_BadOctets tf_BadOctets))
    (hf_BadOctets : ((l.prog.main.file : Str) == file_BadOctets) = true)
    (n_BadOctets_place : PySem.W.findIn K (.ref C_BadOctets) "place" = some none)
    (n_BadOctets_why : PySem.W.findIn K (.ref C_BadOctets) "why" = some none)
    (aC_TooMany : PySem.W.nsIn K mainGlobals "TooMany" = some (some (.ref C_TooMany)))
    (xC_TooMany : K.lookup C_TooMany = some (PySem.excClassObj nm_TooMany q_TooMany C_TooMany N_TooMany bs_TooMany bm_TooMany true sn_TooMany sub_TooMany ab_TooMany col_TooMany dd_TooMany m0_TooMany m1_TooMany m2_TooMany m3_TooMany m5_TooMany "ValueError.__new__"))
    (sa_TooMany : PySem.W.findIn K (.ref C_TooMany) "__setattr__" = some (some (.builtin "object.__setattr__")))
    (eC_TooMany : PySem.W.subIn K (.ref C_TooMany) (.type "BaseException") = some true)
    (tC_TooMany : PySem.W.typeIn K (.ref C_TooMany) = some (.type "type"))
    (kC_TooMany : PySem.W.keepIn K (.ref C_TooMany) = true)
    (iC_TooMany : PySem.W.findIn K (.ref C_TooMany) "__init__" = some (some (.ref fI_TooMany)))
    (tI_TooMany : PySem.W.typeIn K (.ref fI_TooMany) = some (.type "function"))
    (lI_TooMany : K.lookup fI_TooMany = some ⟨oc2_TooMany, od2_TooMany, .func (fdx (nf_TooMany cc_TooMany cda_TooMany) .none kV2_TooMany doc2_TooMany pm2_TooMany an2_TooMany ct2_TooMany), osl_TooMany⟩)
    (cI_TooMany : PySem.W.codeIn K (.ref cda_TooMany) "TooMany.__init__" = true)
    (cd_TooMany : K.lookup cda_TooMany = some ⟨ccl_TooMany, cdd_TooMany, .fields vs_TooMany, ccs_TooMany⟩)
    (ce_TooMany : K.lookup cc_TooMany = some ⟨cl_TooMany, cld_TooMany, .cell (some (.ref C_TooMany)), csl_TooMany⟩)
    (cs_TooMany : PySem.W.clsIn K C_TooMany = some cdD_TooMany)
    (mr_TooMany : PySem.W.mroIn K C_TooMany (.ref C_TooMany) = some true)
    (su_TooMany : PySem.W.ks_superIn K C_TooMany C_TooMany "__init__" = some (some (.builtin "ValueError.__init__")))
    (va_TooMany : PySem.W.subIn K (.ref C_TooMany) (.type "ValueError") = some true)
    (ga_TooMany : PySem.W.findIn K (.ref C_TooMany) "__getattribute__" = some (some (.builtin "BaseException.__getattribute__")))
    (gg_TooMany : PySem.W.findIn K (.ref C_TooMany) "__getattr__" = some none)
    (hd_TooMany : PySem.W.hasDictIn K C_TooMany = true)
    (rC_TooMany : PySem.HandSPX.refsVE bm_TooMany = true)
    (hv_TooMany : vs_TooMany[2]? = some (.str file_TooMany tf_TooMany))
    (hf_TooMany : ((l.prog.main.file : Str) == file_TooMany) = true)
    (n_TooMany_what : PySem.W.findIn K (.ref C_TooMany) "what" = some none)
    (n_TooMany_count : PySem.W.findIn K (.ref C_TooMany) "count" = some none)
    (aC_BadDeed : PySem.W.nsIn K mainGlobals "BadDeed" = some (some (.ref C_BadDeed)))
    (xC_BadDeed : K.lookup C_BadDeed = some (PySem.excClassObj nm_BadDeed q_BadDeed C_BadDeed N_BadDeed bs_BadDeed bm_BadDeed true sn_BadDeed sub_BadDeed ab_BadDeed col_BadDeed dd_BadDeed m0_BadDeed m1_BadDeed m2_BadDeed m3_BadDeed m5_BadDeed "ValueError.__new__"))
    (sa_BadDeed : PySem.W.findIn K (.ref C_BadDeed) "__setattr__" = some (some (.builtin "object.__setattr__")))
    (eC_BadDeed : PySem.W.subIn K (.ref C_BadDeed) (.type "BaseException") = some true)
    (tC_BadDeed : PySem.W.typeIn K (.ref C_BadDeed) = some (.type "type"))
    (kC_BadDeed : PySem.W.keepIn K (.ref C_BadDeed) = true)
    (iC_BadDeed : PySem.W.findIn K (.ref C_BadDeed) "__init__" = some (some (.ref fI_BadDeed)))
    (tI_BadDeed : PySem.W.typeIn K (.ref fI_BadDeed) = some (.type "function"))
    (lI_BadDeed : K.lookup fI_BadDeed = some ⟨oc2_BadDeed, od2_BadDeed, .func (fdx (nf_BadDeed cc_BadDeed cda_BadDeed) .none kV2_BadDeed doc2_BadDeed pm2_BadDeed an2_BadDeed ct2_BadDeed), osl_BadDeed⟩)
    (cI_BadDeed : PySem.W.codeIn K (.ref cda_BadDeed) "BadDeed.__init__" = true)
    (cd_BadDeed : K.lookup cda_BadDeed = some ⟨ccl_BadDeed, cdd_BadDeed, .fields vs_BadDeed, ccs_BadDeed⟩)
    (ce_BadDeed : K.lookup cc_BadDeed = some ⟨cl_BadDeed, cld_BadDeed, .cell (some (.ref C_BadDeed)), csl_BadDeed⟩)
    (cs_BadDeed : PySem.W.clsIn K C_BadDeed = some cdD_BadDeed)
    (mr_BadDeed : PySem.W.mroIn K C_BadDeed (.ref C_BadDeed) = some true)
    (su_BadDeed : PySem.W.ks_superIn K C_BadDeed C_BadDeed "__init__" = some (some (.builtin "ValueError.__init__")))
    (va_BadDeed : PySem.W.subIn K (.ref C_BadDeed) (.type "ValueError") = some true)
    (ga_BadDeed : PySem.W.findIn K (.ref C_BadDeed) "__getattribute__" = some (some (.builtin "BaseException.__getattribute__")))
    (gg_BadDeed : PySem.W.findIn K (.ref C_BadDeed) "__getattr__" = some none)
    (hd_BadDeed : PySem.W.hasDictIn K C_BadDeed = true)
    (rC_BadDeed : PySem.HandSPX.refsVE bm_BadDeed = true)
    (hv_BadDeed : vs_BadDeed[2]? = some (.str file_BadDeed tf_BadDeed))
    (hf_BadDeed : ((l.prog.main.file : Str) == file_BadDeed) = true)
    (n_BadDeed_why : PySem.W.findIn K (.ref C_BadDeed) "why" = some none)
    (sup_ : PySem.W.nsIn K mainGlobals "super" = some none)
    (thi_ : PySem.W.nsIn K PySem.cStatics "thirdparty.any" = some none)
    (htop_ : (l.prog.main.scope.names.lookup ("super" : Str)).isSome = false)
    (sb_BadOctets_BadOctets : PySem.W.subIn K (.ref C_BadOctets) (.ref C_BadOctets) = some true)
    (sb_BadOctets_TooMany : PySem.W.subIn K (.ref C_TooMany) (.ref C_BadOctets) = some false)
    (sb_BadOctets_BadDeed : PySem.W.subIn K (.ref C_BadDeed) (.ref C_BadOctets) = some false)
    (sb_TooMany_BadOctets : PySem.W.subIn K (.ref C_BadOctets) (.ref C_TooMany) = some false)
    (sb_TooMany_TooMany : PySem.W.subIn K (.ref C_TooMany) (.ref C_TooMany) = some true)
    (sb_TooMany_BadDeed : PySem.W.subIn K (.ref C_BadDeed) (.ref C_TooMany) = some false)
    (sb_BadDeed_BadOctets : PySem.W.subIn K (.ref C_BadOctets) (.ref C_BadDeed) = some false)
    (sb_BadDeed_TooMany : PySem.W.subIn K (.ref C_TooMany) (.ref C_BadDeed) = some false)
    (sb_BadDeed_BadDeed : PySem.W.subIn K (.ref C_BadDeed) (.ref C_BadDeed) = some true) :
    ∃ (G : Cl) (fd : FuncData), (∀ (s : Shared) (v : Value), BindsTo s fd ⟨[v], []⟩ [("script", v)]) ∧ ∀ base : Heap, K.In base → base.Ns mainGlobals mg → FnOk l.prog w K mg base (L2N.CX l.prog w) 15 fa fd ["script"] (spM K G 1 m_law) := by
  have e := hfa.symm.trans (PySem.W.mg_of X G a_law)
  cases e
  have T : Tx K mg := ⟨PySem.W.mg_none_of X G z_abs, PySem.W.mg_none_of X G z_all, PySem.W.mg_none_of X G z_bool, PySem.W.mg_none_of X G z_int, PySem.W.mg_none_of X G z_isinstance, PySem.W.mg_none_of X G z_len, PySem.W.mg_none_of X G z_list, PySem.W.mg_none_of X G z_max, PySem.W.mg_none_of X G z_range, PySem.W.mg_none_of X G z_str, PySem.W.mg_none_of X G z_tuple, ⟨_, PySem.W.mg_of X G g_MOST_DEEDS⟩, ⟨_, PySem.W.mg_of X G g_MOST_OCTETS⟩⟩
  have F_is_integer := fun_mk (st := s_is_integer) l_is_integer c_is_integer k_is_integer
  have b_is_integer := F_is_integer.binds (ps := ["value"]) fun _ _ _ _ _ _ us hl => match us, hl with | [_], _ => rfl
  have F_is_between := fun_mk (st := s_is_between) l_is_between c_is_between k_is_between
  have b_is_between := F_is_between.binds (ps := ["value", "low", "high"]) fun _ _ _ _ _ _ us hl => match us, hl with | [_, _, _], _ => rfl
  have F_check_octets := fun_mk (st := s_check_octets) l_check_octets c_check_octets k_check_octets
  have b_check_octets := F_check_octets.binds (ps := ["value"]) fun _ _ _ _ _ _ us hl => match us, hl with | [_], _ => rfl
  have F_from_number := fun_mk (st := s_from_number) l_from_number c_from_number k_from_number
  have b_from_number := F_from_number.binds (ps := ["number", "size"]) fun _ _ _ _ _ _ us hl => match us, hl with | [_, _], _ => rfl
  have F_pack_stream := fun_mk (st := s_pack_stream) l_pack_stream c_pack_stream k_pack_stream
  have b_pack_stream := F_pack_stream.binds (ps := ["rows"]) fun _ _ _ _ _ _ us hl => match us, hl with | [_], _ => rfl
  have F__law_draw := fun_mk (st := s__law_draw) l__law_draw c__law_draw k__law_draw
  have b__law_draw := F__law_draw.binds (ps := ["src", "most"]) fun _ _ _ _ _ _ us hl => match us, hl with | [_, _], _ => rfl
  have F__law_pick := fun_mk (st := s__law_pick) l__law_pick c__law_pick k__law_pick
  have b__law_pick := F__law_pick.binds (ps := ["src", "some"]) fun _ _ _ _ _ _ us hl => match us, hl with | [_, _], _ => rfl
  have F__law_same := fun_mk (st := s__law_same) l__law_same c__law_same k__law_same
  have b__law_same := F__law_same.binds (ps := ["told", "due"]) fun _ _ _ _ _ _ us hl => match us, hl with | [_, _], _ => rfl
  have F__law_joined := fun_mk (st := s__law_joined) l__law_joined c__law_joined k__law_joined
  have b__law_joined := F__law_joined.binds (ps := ["pieces"]) fun _ _ _ _ _ _ us hl => match us, hl with | [_], _ => rfl
  have F__law_octet_row := fun_mk (st := s__law_octet_row) l__law_octet_row c__law_octet_row k__law_octet_row
  have b__law_octet_row := F__law_octet_row.binds (ps := ["src", "size"]) fun _ _ _ _ _ _ us hl => match us, hl with | [_, _], _ => rfl
  have F__law_rows := fun_mk (st := s__law_rows) l__law_rows c__law_rows k__law_rows
  have b__law_rows := F__law_rows.binds (ps := ["src"]) fun _ _ _ _ _ _ us hl => match us, hl with | [_], _ => rfl
  have F__law_octet_fault := fun_mk (st := s__law_octet_fault) l__law_octet_fault c__law_octet_fault k__law_octet_fault
  have b__law_octet_fault := F__law_octet_fault.binds (ps := ["row"]) fun _ _ _ _ _ _ us hl => match us, hl with | [_], _ => rfl
  have F__law_wrong_row := fun_mk (st := s__law_wrong_row) l__law_wrong_row c__law_wrong_row k__law_wrong_row
  have b__law_wrong_row := F__law_wrong_row.binds (ps := ["src", "long"]) fun _ _ _ _ _ _ us hl => match us, hl with | [_, _], _ => rfl
  have F__law_is_packed := fun_mk (st := s__law_is_packed) l__law_is_packed c__law_is_packed k__law_is_packed
  have b__law_is_packed := F__law_is_packed.binds (ps := ["src", "rows"]) fun _ _ _ _ _ _ us hl => match us, hl with | [_, _], _ => rfl
  have F__law_parsed := fun_mk (st := s__law_parsed) l__law_parsed c__law_parsed k__law_parsed
  have b__law_parsed := F__law_parsed.binds (ps := ["octets"]) fun _ _ _ _ _ _ us hl => match us, hl with | [_], _ => rfl
  have F__law_piece := fun_mk (st := s__law_piece) l__law_piece c__law_piece k__law_piece
  have b__law_piece := F__law_piece.binds (ps := ["src", "fed", "stream"]) fun _ _ _ _ _ _ us hl => match us, hl with | [_, _, _], _ => rfl
  have F__law_due := fun_mk (st := s__law_due) l__law_due c__law_due k__law_due
  have b__law_due := F__law_due.binds (ps := ["fed", "piece"]) fun _ _ _ _ _ _ us hl => match us, hl with | [_, _], _ => rfl
  have F_StreamReader_feed := fun_mk (st := s_StreamReader_feed) l_StreamReader_feed c_StreamReader_feed k_StreamReader_feed
  have b_StreamReader_feed := F_StreamReader_feed.binds (ps := ["self", "octets"]) fun _ _ _ _ _ _ us hl => match us, hl with | [_, _], _ => rfl
  have F__law_is_fed := fun_mk (st := s__law_is_fed) l__law_is_fed c__law_is_fed k__law_is_fed
  have b__law_is_fed := F__law_is_fed.binds (ps := ["reader", "fed", "piece"]) fun _ _ _ _ _ _ us hl => match us, hl with | [_, _, _], _ => rfl
  have F_StreamReader_undo := fun_mk (st := s_StreamReader_undo) l_StreamReader_undo c_StreamReader_undo k_StreamReader_undo
  have b_StreamReader_undo := F_StreamReader_undo.binds (ps := ["self"]) fun _ _ _ _ _ _ us hl => match us, hl with | [_], _ => rfl
  have F__law_is_undone := fun_mk (st := s__law_is_undone) l__law_is_undone c__law_is_undone k__law_is_undone
  have b__law_is_undone := F__law_is_undone.binds (ps := ["reader", "fed"]) fun _ _ _ _ _ _ us hl => match us, hl with | [_, _], _ => rfl
  have F_StreamReader___init__ := fun_mk (st := s_StreamReader___init__) l_StreamReader___init__ c_StreamReader___init__ k_StreamReader___init__
  have b_StreamReader___init__ := F_StreamReader___init__.binds (ps := ["self"]) fun _ _ _ _ _ _ us hl => match us, hl with | [_], _ => rfl
  have F_StreamReader_waiting := fun_mk (st := s_StreamReader_waiting) l_StreamReader_waiting c_StreamReader_waiting k_StreamReader_waiting
  have b_StreamReader_waiting := F_StreamReader_waiting.binds (ps := ["self"]) fun _ _ _ _ _ _ us hl => match us, hl with | [_], _ => rfl
  have F_StreamReader_log := fun_mk (st := s_StreamReader_log) l_StreamReader_log c_StreamReader_log k_StreamReader_log
  have b_StreamReader_log := F_StreamReader_log.binds (ps := ["self"]) fun _ _ _ _ _ _ us hl => match us, hl with | [_], _ => rfl
  have F_law := fun_mk (st := s_law) l_law c_law k_law
  have b_law := F_law.binds (ps := ["script"]) fun _ _ _ _ _ _ us hl => match us, hl with | [_], _ => rfl
  refine ⟨(⟨fun c => match c with | 0 => C_BadOctets | 1 => C_TooMany | 2 => C_BadDeed | 3 => C_StreamReader | _ => 0, fun c => match c with | 0 => ["place", "why"] | 1 => ["what", "count"] | 2 => ["why"] | 3 => ["_pieces", "_held"] | _ => []⟩ : Cl), PySem.W.fnOf "law" "law" (defArgs s_law) (defBody s_law) (defScope s_law) .none kV_law dc_law pm_law an_law cd_law ct_law, fun s v => .of_eq rfl, fun base _ _ => ?_⟩
  have Z : Errs l.prog w K mg base (⟨fun c => match c with | 0 => C_BadOctets | 1 => C_TooMany | 2 => C_BadDeed | 3 => C_StreamReader | _ => 0, fun c => match c with | 0 => ["place", "why"] | 1 => ["what", "count"] | 2 => ["why"] | 3 => ["_pieces", "_held"] | _ => []⟩ : Cl) := ⟨PySem.W.mg_of X G aC_BadOctets, err_mk_BadOctets X G aC_BadOctets xC_BadOctets sa_BadOctets eC_BadOctets tC_BadOctets kC_BadOctets iC_BadOctets tI_BadOctets lI_BadOctets cI_BadOctets cd_BadOctets ce_BadOctets cs_BadOctets mr_BadOctets su_BadOctets va_BadOctets ga_BadOctets gg_BadOctets hd_BadOctets rC_BadOctets hv_BadOctets hf_BadOctets n_BadOctets_place n_BadOctets_why sup_ thi_ htop_ rfl rfl, rfl, ⟨ga_BadOctets, gg_BadOctets, eC_BadOctets, hd_BadOctets⟩, n_BadOctets_place, n_BadOctets_why, PySem.W.mg_of X G aC_TooMany, err_mk_TooMany X G aC_TooMany xC_TooMany sa_TooMany eC_TooMany tC_TooMany kC_TooMany iC_TooMany tI_TooMany lI_TooMany cI_TooMany cd_TooMany ce_TooMany cs_TooMany mr_TooMany su_TooMany va_TooMany ga_TooMany gg_TooMany hd_TooMany rC_TooMany hv_TooMany hf_TooMany n_TooMany_what n_TooMany_count sup_ thi_ htop_ rfl rfl, rfl, ⟨ga_TooMany, gg_TooMany, eC_TooMany, hd_TooMany⟩, n_TooMany_what, n_TooMany_count, PySem.W.mg_of X G aC_BadDeed, err_mk_BadDeed X G aC_BadDeed xC_BadDeed sa_BadDeed eC_BadDeed tC_BadDeed kC_BadDeed iC_BadDeed tI_BadDeed lI_BadDeed cI_BadDeed cd_BadDeed ce_BadDeed cs_BadDeed mr_BadDeed su_BadDeed va_BadDeed ga_BadDeed gg_BadDeed hd_BadDeed rC_BadDeed hv_BadDeed hf_BadDeed n_BadDeed_why sup_ thi_ htop_ rfl rfl, rfl, ⟨ga_BadDeed, gg_BadDeed, eC_BadDeed, hd_BadDeed⟩, n_BadDeed_why, ⟨⟨pg_StreamReader, hd_StreamReader, po_StreamReader, sa_StreamReader⟩, (List.forall_mem_cons.2 ⟨n_StreamReader__pieces, (List.forall_mem_cons.2 ⟨n_StreamReader__held, (by intro f hf; cases hf)⟩)⟩), (show (["_pieces", "_held"] : List Str).Nodup by decide +kernel), (show (["_pieces", "_held"] : List Str).length < 900 by decide +kernel)⟩, rfl, fun c c2 b h => by
    unfold mtab at h
    split at h
    · rename_i hlt
      obtain ⟨h1, h2⟩ := hlt
      have hc : c = 0 ∨ c = 1 ∨ c = 2 := by omega
      have hc2 : c2 = 0 ∨ c2 = 1 ∨ c2 = 2 := by omega
      rcases hc with rfl | rfl | rfl <;> rcases hc2 with rfl | rfl | rfl
      · simp at h; subst h; exact exm_mk eC_BadOctets cs_BadOctets tC_BadOctets sb_BadOctets_BadOctets
      · simp at h; subst h; exact exm_mk eC_BadOctets cs_BadOctets tC_BadOctets sb_BadOctets_TooMany
      · simp at h; subst h; exact exm_mk eC_BadOctets cs_BadOctets tC_BadOctets sb_BadOctets_BadDeed
      · simp at h; subst h; exact exm_mk eC_TooMany cs_TooMany tC_TooMany sb_TooMany_BadOctets
      · simp at h; subst h; exact exm_mk eC_TooMany cs_TooMany tC_TooMany sb_TooMany_TooMany
      · simp at h; subst h; exact exm_mk eC_TooMany cs_TooMany tC_TooMany sb_TooMany_BadDeed
      · simp at h; subst h; exact exm_mk eC_BadDeed cs_BadDeed tC_BadDeed sb_BadDeed_BadOctets
      · simp at h; subst h; exact exm_mk eC_BadDeed cs_BadDeed tC_BadDeed sb_BadDeed_TooMany
      · simp at h; subst h; exact exm_mk eC_BadDeed cs_BadDeed tC_BadDeed sb_BadDeed_BadDeed
    · cases h⟩
  have O_is_integer : Ok l.prog w K mg base (⟨fun c => match c with | 0 => C_BadOctets | 1 => C_TooMany | 2 => C_BadDeed | 3 => C_StreamReader | _ => 0, fun c => match c with | 0 => ["place", "why"] | 1 => ["what", "count"] | 2 => ["why"] | 3 => ["_pieces", "_held"] | _ => []⟩ : Cl) 1 "is_integer" ["value"] m_is_integer := ⟨_, _, PySem.W.mg_of X G a_is_integer, F_is_integer.kp, b_is_integer, d_is_integer F_is_integer T Z ⟩
  have O_is_between : Ok l.prog w K mg base (⟨fun c => match c with | 0 => C_BadOctets | 1 => C_TooMany | 2 => C_BadDeed | 3 => C_StreamReader | _ => 0, fun c => match c with | 0 => ["place", "why"] | 1 => ["what", "count"] | 2 => ["why"] | 3 => ["_pieces", "_held"] | _ => []⟩ : Cl) 2 "is_between" ["value", "low", "high"] m_is_between := ⟨_, _, PySem.W.mg_of X G a_is_between, F_is_between.kp, b_is_between, d_is_between F_is_between T Z O_is_integer⟩
  have O_check_octets : Ok l.prog w K mg base (⟨fun c => match c with | 0 => C_BadOctets | 1 => C_TooMany | 2 => C_BadDeed | 3 => C_StreamReader | _ => 0, fun c => match c with | 0 => ["place", "why"] | 1 => ["what", "count"] | 2 => ["why"] | 3 => ["_pieces", "_held"] | _ => []⟩ : Cl) 3 "check_octets" ["value"] m_check_octets := ⟨_, _, PySem.W.mg_of X G a_check_octets, F_check_octets.kp, b_check_octets, d_check_octets F_check_octets T Z O_is_between⟩
  have O_from_number : Ok l.prog w K mg base (⟨fun c => match c with | 0 => C_BadOctets | 1 => C_TooMany | 2 => C_BadDeed | 3 => C_StreamReader | _ => 0, fun c => match c with | 0 => ["place", "why"] | 1 => ["what", "count"] | 2 => ["why"] | 3 => ["_pieces", "_held"] | _ => []⟩ : Cl) 1 "from_number" ["number", "size"] m_from_number := ⟨_, _, PySem.W.mg_of X G a_from_number, F_from_number.kp, b_from_number, d_from_number F_from_number T Z ⟩
  have O_pack_stream : Ok l.prog w K mg base (⟨fun c => match c with | 0 => C_BadOctets | 1 => C_TooMany | 2 => C_BadDeed | 3 => C_StreamReader | _ => 0, fun c => match c with | 0 => ["place", "why"] | 1 => ["what", "count"] | 2 => ["why"] | 3 => ["_pieces", "_held"] | _ => []⟩ : Cl) 4 "pack_stream" ["rows"] m_pack_stream := ⟨_, _, PySem.W.mg_of X G a_pack_stream, F_pack_stream.kp, b_pack_stream, d_pack_stream F_pack_stream T Z O_check_octets O_from_number⟩
  have O__law_draw : Ok l.prog w K mg base (⟨fun c => match c with | 0 => C_BadOctets | 1 => C_TooMany | 2 => C_BadDeed | 3 => C_StreamReader | _ => 0, fun c => match c with | 0 => ["place", "why"] | 1 => ["what", "count"] | 2 => ["why"] | 3 => ["_pieces", "_held"] | _ => []⟩ : Cl) 1 "_law_draw" ["src", "most"] m__law_draw := ⟨_, _, PySem.W.mg_of X G a__law_draw, F__law_draw.kp, b__law_draw, d__law_draw F__law_draw T Z ⟩
  have O__law_pick : Ok l.prog w K mg base (⟨fun c => match c with | 0 => C_BadOctets | 1 => C_TooMany | 2 => C_BadDeed | 3 => C_StreamReader | _ => 0, fun c => match c with | 0 => ["place", "why"] | 1 => ["what", "count"] | 2 => ["why"] | 3 => ["_pieces", "_held"] | _ => []⟩ : Cl) 2 "_law_pick" ["src", "some"] m__law_pick := ⟨_, _, PySem.W.mg_of X G a__law_pick, F__law_pick.kp, b__law_pick, d__law_pick F__law_pick T Z O__law_draw⟩
  have OH__law_same : OkH l.prog w K mg base (⟨fun c => match c with | 0 => C_BadOctets | 1 => C_TooMany | 2 => C_BadDeed | 3 => C_StreamReader | _ => 0, fun c => match c with | 0 => ["place", "why"] | 1 => ["what", "count"] | 2 => ["why"] | 3 => ["_pieces", "_held"] | _ => []⟩ : Cl) 13 "_law_same" ["told", "due"] (m__law_same 12) := ⟨_, _, PySem.W.mg_of X G a__law_same, F__law_same.kp, b__law_same, dH__law_same F__law_same T Z  (PySem.W.mg_of X G a__law_same) b__law_same 12⟩
  have O__law_same : Ok l.prog w K mg base (⟨fun c => match c with | 0 => C_BadOctets | 1 => C_TooMany | 2 => C_BadDeed | 3 => C_StreamReader | _ => 0, fun c => match c with | 0 => ["place", "why"] | 1 => ["what", "count"] | 2 => ["why"] | 3 => ["_pieces", "_held"] | _ => []⟩ : Cl) 13 "_law_same" ["told", "due"] (m__law_same 12) := ⟨_, _, PySem.W.mg_of X G a__law_same, F__law_same.kp, b__law_same, d__law_same F__law_same T Z  (PySem.W.mg_of X G a__law_same) b__law_same 12⟩
  have O__law_joined : Ok l.prog w K mg base (⟨fun c => match c with | 0 => C_BadOctets | 1 => C_TooMany | 2 => C_BadDeed | 3 => C_StreamReader | _ => 0, fun c => match c with | 0 => ["place", "why"] | 1 => ["what", "count"] | 2 => ["why"] | 3 => ["_pieces", "_held"] | _ => []⟩ : Cl) 1 "_law_joined" ["pieces"] m__law_joined := ⟨_, _, PySem.W.mg_of X G a__law_joined, F__law_joined.kp, b__law_joined, d__law_joined F__law_joined T Z ⟩
  have O__law_octet_row : Ok l.prog w K mg base (⟨fun c => match c with | 0 => C_BadOctets | 1 => C_TooMany | 2 => C_BadDeed | 3 => C_StreamReader | _ => 0, fun c => match c with | 0 => ["place", "why"] | 1 => ["what", "count"] | 2 => ["why"] | 3 => ["_pieces", "_held"] | _ => []⟩ : Cl) 2 "_law_octet_row" ["src", "size"] m__law_octet_row := ⟨_, _, PySem.W.mg_of X G a__law_octet_row, F__law_octet_row.kp, b__law_octet_row, d__law_octet_row F__law_octet_row T Z O__law_draw⟩
  have O__law_rows : Ok l.prog w K mg base (⟨fun c => match c with | 0 => C_BadOctets | 1 => C_TooMany | 2 => C_BadDeed | 3 => C_StreamReader | _ => 0, fun c => match c with | 0 => ["place", "why"] | 1 => ["what", "count"] | 2 => ["why"] | 3 => ["_pieces", "_held"] | _ => []⟩ : Cl) 3 "_law_rows" ["src"] m__law_rows := ⟨_, _, PySem.W.mg_of X G a__law_rows, F__law_rows.kp, b__law_rows, d__law_rows F__law_rows T Z O__law_draw O__law_octet_row⟩
  have O__law_octet_fault : Ok l.prog w K mg base (⟨fun c => match c with | 0 => C_BadOctets | 1 => C_TooMany | 2 => C_BadDeed | 3 => C_StreamReader | _ => 0, fun c => match c with | 0 => ["place", "why"] | 1 => ["what", "count"] | 2 => ["why"] | 3 => ["_pieces", "_held"] | _ => []⟩ : Cl) 1 "_law_octet_fault" ["row"] m__law_octet_fault := ⟨_, _, PySem.W.mg_of X G a__law_octet_fault, F__law_octet_fault.kp, b__law_octet_fault, d__law_octet_fault F__law_octet_fault T Z ⟩
  have O__law_wrong_row : Ok l.prog w K mg base (⟨fun c => match c with | 0 => C_BadOctets | 1 => C_TooMany | 2 => C_BadDeed | 3 => C_StreamReader | _ => 0, fun c => match c with | 0 => ["place", "why"] | 1 => ["what", "count"] | 2 => ["why"] | 3 => ["_pieces", "_held"] | _ => []⟩ : Cl) 3 "_law_wrong_row" ["src", "long"] m__law_wrong_row := ⟨_, _, PySem.W.mg_of X G a__law_wrong_row, F__law_wrong_row.kp, b__law_wrong_row, d__law_wrong_row F__law_wrong_row T Z O__law_draw O__law_pick O__law_octet_row⟩
  have O__law_is_packed : Ok l.prog w K mg base (⟨fun c => match c with | 0 => C_BadOctets | 1 => C_TooMany | 2 => C_BadDeed | 3 => C_StreamReader | _ => 0, fun c => match c with | 0 => ["place", "why"] | 1 => ["what", "count"] | 2 => ["why"] | 3 => ["_pieces", "_held"] | _ => []⟩ : Cl) 14 "_law_is_packed" ["src", "rows"] m__law_is_packed := ⟨_, _, PySem.W.mg_of X G a__law_is_packed, F__law_is_packed.kp, b__law_is_packed, d__law_is_packed F__law_is_packed T Z O_pack_stream O__law_draw O__law_pick O__law_octet_fault O__law_wrong_row OH__law_same⟩
  have O__law_parsed : Ok l.prog w K mg base (⟨fun c => match c with | 0 => C_BadOctets | 1 => C_TooMany | 2 => C_BadDeed | 3 => C_StreamReader | _ => 0, fun c => match c with | 0 => ["place", "why"] | 1 => ["what", "count"] | 2 => ["why"] | 3 => ["_pieces", "_held"] | _ => []⟩ : Cl) 1 "_law_parsed" ["octets"] m__law_parsed := ⟨_, _, PySem.W.mg_of X G a__law_parsed, F__law_parsed.kp, b__law_parsed, d__law_parsed F__law_parsed T Z ⟩
  have O__law_piece : Ok l.prog w K mg base (⟨fun c => match c with | 0 => C_BadOctets | 1 => C_TooMany | 2 => C_BadDeed | 3 => C_StreamReader | _ => 0, fun c => match c with | 0 => ["place", "why"] | 1 => ["what", "count"] | 2 => ["why"] | 3 => ["_pieces", "_held"] | _ => []⟩ : Cl) 4 "_law_piece" ["src", "fed", "stream"] m__law_piece := ⟨_, _, PySem.W.mg_of X G a__law_piece, F__law_piece.kp, b__law_piece, d__law_piece F__law_piece T Z O__law_draw O__law_joined O__law_wrong_row O__law_parsed⟩
  have O__law_due : Ok l.prog w K mg base (⟨fun c => match c with | 0 => C_BadOctets | 1 => C_TooMany | 2 => C_BadDeed | 3 => C_StreamReader | _ => 0, fun c => match c with | 0 => ["place", "why"] | 1 => ["what", "count"] | 2 => ["why"] | 3 => ["_pieces", "_held"] | _ => []⟩ : Cl) 2 "_law_due" ["fed", "piece"] m__law_due := ⟨_, _, PySem.W.mg_of X G a__law_due, F__law_due.kp, b__law_due, d__law_due F__law_due T Z O__law_joined O__law_octet_fault O__law_parsed⟩
  have O_StreamReader_feed : OkM l.prog w K mg base (⟨fun c => match c with | 0 => C_BadOctets | 1 => C_TooMany | 2 => C_BadDeed | 3 => C_StreamReader | _ => 0, fun c => match c with | 0 => ["place", "why"] | 1 => ["what", "count"] | 2 => ["why"] | 3 => ["_pieces", "_held"] | _ => []⟩ : Cl) 4 3 "feed" ["self", "octets"] m_StreamReader_feed := ⟨_, _, ⟨a_StreamReader_feed, fn_StreamReader_feed, k_StreamReader_feed⟩, b_StreamReader_feed, (show ("feed" : Str) ∉ (["_pieces", "_held"] : List Str) by decide +kernel), d_StreamReader_feed F_StreamReader_feed T Z O_check_octets⟩
  have O__law_is_fed : Ok l.prog w K mg base (⟨fun c => match c with | 0 => C_BadOctets | 1 => C_TooMany | 2 => C_BadDeed | 3 => C_StreamReader | _ => 0, fun c => match c with | 0 => ["place", "why"] | 1 => ["what", "count"] | 2 => ["why"] | 3 => ["_pieces", "_held"] | _ => []⟩ : Cl) 14 "_law_is_fed" ["reader", "fed", "piece"] m__law_is_fed := ⟨_, _, PySem.W.mg_of X G a__law_is_fed, F__law_is_fed.kp, b__law_is_fed, d__law_is_fed F__law_is_fed T Z O_StreamReader_feed O__law_same O__law_due OH__law_same⟩
  have O_StreamReader_undo : OkM l.prog w K mg base (⟨fun c => match c with | 0 => C_BadOctets | 1 => C_TooMany | 2 => C_BadDeed | 3 => C_StreamReader | _ => 0, fun c => match c with | 0 => ["place", "why"] | 1 => ["what", "count"] | 2 => ["why"] | 3 => ["_pieces", "_held"] | _ => []⟩ : Cl) 3 3 "undo" ["self"] m_StreamReader_undo := ⟨_, _, ⟨a_StreamReader_undo, fn_StreamReader_undo, k_StreamReader_undo⟩, b_StreamReader_undo, (show ("undo" : Str) ∉ (["_pieces", "_held"] : List Str) by decide +kernel), d_StreamReader_undo F_StreamReader_undo T Z ⟩
  have O__law_is_undone : Ok l.prog w K mg base (⟨fun c => match c with | 0 => C_BadOctets | 1 => C_TooMany | 2 => C_BadDeed | 3 => C_StreamReader | _ => 0, fun c => match c with | 0 => ["place", "why"] | 1 => ["what", "count"] | 2 => ["why"] | 3 => ["_pieces", "_held"] | _ => []⟩ : Cl) 14 "_law_is_undone" ["reader", "fed"] m__law_is_undone := ⟨_, _, PySem.W.mg_of X G a__law_is_undone, F__law_is_undone.kp, b__law_is_undone, d__law_is_undone F__law_is_undone T Z O_StreamReader_undo OH__law_same⟩
  have O_StreamReader___init__ : OkC l.prog w K mg base (⟨fun c => match c with | 0 => C_BadOctets | 1 => C_TooMany | 2 => C_BadDeed | 3 => C_StreamReader | _ => 0, fun c => match c with | 0 => ["place", "why"] | 1 => ["what", "count"] | 2 => ["why"] | 3 => ["_pieces", "_held"] | _ => []⟩ : Cl) 1 3 "StreamReader" ["self"] m_StreamReader___init__ := ⟨_, _, PySem.W.mg_of X G aC_StreamReader, ⟨mk_StreamReader, a_StreamReader___init__, fn_StreamReader___init__, kC_StreamReader⟩, b_StreamReader___init__, d_StreamReader___init__ F_StreamReader___init__ T Z ⟩
  have O_StreamReader_waiting : OkM l.prog w K mg base (⟨fun c => match c with | 0 => C_BadOctets | 1 => C_TooMany | 2 => C_BadDeed | 3 => C_StreamReader | _ => 0, fun c => match c with | 0 => ["place", "why"] | 1 => ["what", "count"] | 2 => ["why"] | 3 => ["_pieces", "_held"] | _ => []⟩ : Cl) 1 3 "waiting" ["self"] m_StreamReader_waiting := ⟨_, _, ⟨a_StreamReader_waiting, fn_StreamReader_waiting, k_StreamReader_waiting⟩, b_StreamReader_waiting, (show ("waiting" : Str) ∉ (["_pieces", "_held"] : List Str) by decide +kernel), d_StreamReader_waiting F_StreamReader_waiting T Z ⟩
  have O_StreamReader_log : OkM l.prog w K mg base (⟨fun c => match c with | 0 => C_BadOctets | 1 => C_TooMany | 2 => C_BadDeed | 3 => C_StreamReader | _ => 0, fun c => match c with | 0 => ["place", "why"] | 1 => ["what", "count"] | 2 => ["why"] | 3 => ["_pieces", "_held"] | _ => []⟩ : Cl) 1 3 "log" ["self"] m_StreamReader_log := ⟨_, _, ⟨a_StreamReader_log, fn_StreamReader_log, k_StreamReader_log⟩, b_StreamReader_log, (show ("log" : Str) ∉ (["_pieces", "_held"] : List Str) by decide +kernel), d_StreamReader_log F_StreamReader_log T Z ⟩
  exact d_law (P := l.prog) (w := w) (base := base) F_law T Z O_pack_stream O_StreamReader___init__ O_StreamReader_feed O_StreamReader_waiting O_StreamReader_log O__law_draw O__law_same O__law_joined O__law_rows O__law_is_packed O__law_parsed O__law_piece O__law_is_fed O__law_is_undone
end Lk09
open PySem PySem.W PyProof.Rows
set_option maxRecDepth 100000 in
set_option maxHeartbeats 0 in
theorem PySem.Challenge.cw_surely_k09_streams_cut_anywhere_holds : PySem.Challenge.rw_surely_k09_streams_cut_anywhere.Holds := by
  w_on; o_law; k_head; (case hw => w_witness2)
  k_fill
  refine Sm.walk_lawG (l := PySem.Challenge.rw_surely_k09_streams_cut_anywhere) (f := Lk09.m_law) (k := 15) rfl rfl (by exact ⟨rfl, by decide, by decide⟩) (fun w h Y => PySem.W.kIn_of Y) Lk09.main ?F
  case F =>
    intro w mg fa h KX G hmg
    refine' Lk09.all_mk KX G hmg ?aC_StreamReader ?pg_StreamReader ?hd_StreamReader ?po_StreamReader ?sa_StreamReader ?mk_StreamReader ?kC_StreamReader ?n_StreamReader__pieces ?n_StreamReader__held ?a_is_integer ?l_is_integer ?c_is_integer ?k_is_integer ?a_is_between ?l_is_between ?c_is_between ?k_is_between ?a_check_octets ?l_check_octets ?c_check_octets ?k_check_octets ?a_from_number ?l_from_number ?c_from_number ?k_from_number ?a_pack_stream ?l_pack_stream ?c_pack_stream ?k_pack_stream ?a__law_draw ?l__law_draw ?c__law_draw ?k__law_draw ?a__law_pick ?l__law_pick ?c__law_pick ?k__law_pick ?a__law_same ?l__law_same ?c__law_same ?k__law_same ?a__law_joined ?l__law_joined ?c__law_joined ?k__law_joined ?a__law_octet_row ?l__law_octet_row ?c__law_octet_row ?k__law_octet_row ?a__law_rows ?l__law_rows ?c__law_rows ?k__law_rows ?a__law_octet_fault ?l__law_octet_fault ?c__law_octet_fault ?k__law_octet_fault ?a__law_wrong_row ?l__law_wrong_row ?c__law_wrong_row ?k__law_wrong_row ?a__law_is_packed ?l__law_is_packed ?c__law_is_packed ?k__law_is_packed ?a__law_parsed ?l__law_parsed ?c__law_parsed ?k__law_parsed ?a__law_piece ?l__law_piece ?c__law_piece ?k__law_piece ?a__law_due ?l__law_due ?c__law_due ?k__law_due ?a_StreamReader_feed ?fn_StreamReader_feed ?l_StreamReader_feed ?c_StreamReader_feed ?k_StreamReader_feed ?a__law_is_fed ?l__law_is_fed ?c__law_is_fed ?k__law_is_fed ?a_StreamReader_undo ?fn_StreamReader_undo ?l_StreamReader_undo ?c_StreamReader_undo ?k_StreamReader_undo ?a__law_is_undone ?l__law_is_undone ?c__law_is_undone ?k__law_is_undone ?a_StreamReader___init__ ?fn_StreamReader___init__ ?l_StreamReader___init__ ?c_StreamReader___init__ ?k_StreamReader___init__ ?a_StreamReader_waiting ?fn_StreamReader_waiting ?l_StreamReader_waiting ?c_StreamReader_waiting ?k_StreamReader_waiting ?a_StreamReader_log ?fn_StreamReader_log ?l_StreamReader_log ?c_StreamReader_log ?k_StreamReader_log ?a_law ?l_law ?c_law ?k_law ?z_abs ?z_all ?z_bool ?z_int ?z_isinstance ?z_len ?z_list ?z_max ?z_range ?z_str ?z_tuple ?g_MOST_DEEDS ?g_MOST_OCTETS ?aC_BadOctets ?xC_BadOctets ?sa_BadOctets ?eC_BadOctets ?tC_BadOctets ?kC_BadOctets ?iC_BadOctets ?tI_BadOctets ?lI_BadOctets ?cI_BadOctets ?cd_BadOctets ?ce_BadOctets ?cs_BadOctets ?mr_BadOctets ?su_BadOctets ?va_BadOctets ?ga_BadOctets ?gg_BadOctets ?hd_BadOctets ?rC_BadOctets ?hv_BadOctets ?hf_BadOctets ?n_BadOctets_place ?n_BadOctets_why ?aC_TooMany ?xC_TooMany ?sa_TooMany ?eC_TooMany ?tC_TooMany ?kC_TooMany ?iC_TooMany ?tI_TooMany ?lI_TooMany ?cI_TooMany ?cd_TooMany ?ce_TooMany ?cs_TooMany ?mr_TooMany ?su_TooMany ?va_TooMany ?ga_TooMany ?gg_TooMany ?hd_TooMany ?rC_TooMany ?hv_TooMany ?hf_TooMany ?n_TooMany_what ?n_TooMany_count ?aC_BadDeed ?xC_BadDeed ?sa_BadDeed ?eC_BadDeed ?tC_BadDeed ?kC_BadDeed ?iC_BadDeed ?tI_BadDeed ?lI_BadDeed ?cI_BadDeed ?cd_BadDeed ?ce_BadDeed ?cs_BadDeed ?mr_BadDeed ?su_BadDeed ?va_BadDeed ?ga_BadDeed ?gg_BadDeed ?hd_BadDeed ?rC_BadDeed ?hv_BadDeed ?hf_BadDeed ?n_BadDeed_why ?sup_ ?thi_ ?htop_ ?sb_BadOctets_BadOctets ?sb_BadOctets_TooMany ?sb_BadOctets_BadDeed ?sb_TooMany_BadOctets ?sb_TooMany_TooMany ?sb_TooMany_BadDeed ?sb_BadDeed_BadOctets ?sb_BadDeed_TooMany ?sb_BadDeed_BadDeed
    (case aC_StreamReader => first | k_is | ks_is); (case pg_StreamReader => first | k_is | ks_is); (case hd_StreamReader => first | k_is | ks_is); (case po_StreamReader => first | k_is | ks_is); (case sa_StreamReader => first | k_is | ks_is); (case mk_StreamReader => first | k_is | ks_is); (case kC_StreamReader => first | k_is | ks_is); (case n_StreamReader__pieces => first | k_is | ks_is); (case n_StreamReader__held => first | k_is | ks_is); (case a_is_integer => first | k_is | ks_is); (case l_is_integer => first | k_is | ks_is); (case c_is_integer => first | k_is | ks_is); (case k_is_integer => first | k_is | ks_is); (case a_is_between => first | k_is | ks_is); (case l_is_between => first | k_is | ks_is); (case c_is_between => first | k_is | ks_is); (case k_is_between => first | k_is | ks_is); (case a_check_octets => first | k_is | ks_is); (case l_check_octets => first | k_is | ks_is); (case c_check_octets => first | k_is | ks_is); (case k_check_octets => first | k_is | ks_is); (case a_from_number => first | k_is | ks_is); (case l_from_number => first | k_is | ks_is); (case c_from_number => first | k_is | ks_is); (case k_from_number => first | k_is | ks_is); (case a_pack_stream => first | k_is | ks_is); (case l_pack_stream => first | k_is | ks_is); (case c_pack_stream => first | k_is | ks_is); (case k_pack_stream => first | k_is | ks_is); (case a__law_draw => first | k_is | ks_is); (case l__law_draw => first | k_is | ks_is); (case c__law_draw => first | k_is | ks_is); (case k__law_draw => first | k_is | ks_is); (case a__law_pick => first | k_is | ks_is); (case l__law_pick => first | k_is | ks_is); (case c__law_pick => first | k_is | ks_is); (case k__law_pick => first | k_is | ks_is); (case a__law_same => first | k_is | ks_is); (case l__law_same => first | k_is | ks_is); (case c__law_same => first | k_is | ks_is); (case k__law_same => first | k_is | ks_is); (case a__law_joined => first | k_is | ks_is); (case l__law_joined => first | k_is | ks_is); (case c__law_joined => first | k_is | ks_is); (case k__law_joined => first | k_is | ks_is); (case a__law_octet_row => first | k_is | ks_is); (case l__law_octet_row => first | k_is | ks_is); (case c__law_octet_row => first | k_is | ks_is); (case k__law_octet_row => first | k_is | ks_is); (case a__law_rows => first | k_is | ks_is); (case l__law_rows => first | k_is | ks_is); (case c__law_rows => first | k_is | ks_is); (case k__law_rows => first | k_is | ks_is); (case a__law_octet_fault => first | k_is | ks_is); (case l__law_octet_fault => first | k_is | ks_is); (case c__law_octet_fault => first | k_is | ks_is); (case k__law_octet_fault => first | k_is | ks_is); (case a__law_wrong_row => first | k_is | ks_is); (case l__law_wrong_row => first | k_is | ks_is); (case c__law_wrong_row => first | k_is | ks_is); (case k__law_wrong_row => first | k_is | ks_is); (case a__law_is_packed => first | k_is | ks_is); (case l__law_is_packed => first | k_is | ks_is); (case c__law_is_packed => first | k_is | ks_is); (case k__law_is_packed => first | k_is | ks_is); (case a__law_parsed => first | k_is | ks_is); (case l__law_parsed => first | k_is | ks_is); (case c__law_parsed => first | k_is | ks_is); (case k__law_parsed => first | k_is | ks_is); (case a__law_piece => first | k_is | ks_is); (case l__law_piece => first | k_is | ks_is); (case c__law_piece => first | k_is | ks_is); (case k__law_piece => first | k_is | ks_is); (case a__law_due => first | k_is | ks_is); (case l__law_due => first | k_is | ks_is); (case c__law_due => first | k_is | ks_is); (case k__law_due => first | k_is | ks_is); (case a_StreamReader_feed => first | k_is | ks_is); (case fn_StreamReader_feed => first | k_is | ks_is); (case l_StreamReader_feed => first | k_is | ks_is); (case c_StreamReader_feed => first | k_is | ks_is); (case k_StreamReader_feed => first | k_is | ks_is); (case a__law_is_fed => first | k_is | ks_is); (case l__law_is_fed => first | k_is | ks_is); (case c__law_is_fed => first | k_is | ks_is); (case k__law_is_fed => first | k_is | ks_is); (case a_StreamReader_undo => first | k_is | ks_is); (case fn_StreamReader_undo => first | k_is | ks_is); (case l_StreamReader_undo => first | k_is | ks_is); (case c_StreamReader_undo => first | k_is | ks_is); (case k_StreamReader_undo => first | k_is | ks_is); (case a__law_is_undone => first | k_is | ks_is); (case l__law_is_undone => first | k_is | ks_is); (case c__law_is_undone => first | k_is | ks_is); (case k__law_is_undone => first | k_is | ks_is); (case a_StreamReader___init__ => first | k_is | ks_is); (case fn_StreamReader___init__ => first | k_is | ks_is); (case l_StreamReader___init__ => first | k_is | ks_is); (case c_StreamReader___init__ => first | k_is | ks_is); (case k_StreamReader___init__ => first | k_is | ks_is); (case a_StreamReader_waiting => first | k_is | ks_is); (case fn_StreamReader_waiting => first | k_is | ks_is); (case l_StreamReader_waiting => first | k_is | ks_is); (case c_StreamReader_waiting => first | k_is | ks_is); (case k_StreamReader_waiting => first | k_is | ks_is); (case a_StreamReader_log => first | k_is | ks_is); (case fn_StreamReader_log => first | k_is | ks_is); (case l_StreamReader_log => first | k_is | ks_is); (case c_StreamReader_log => first | k_is | ks_is); (case k_StreamReader_log => first | k_is | ks_is); (case a_law => first | k_is | ks_is); (case l_law => first | k_is | ks_is); (case c_law => first | k_is | ks_is); (case k_law => first | k_is | ks_is); (case z_abs => first | k_is | ks_is); (case z_all => first | k_is | ks_is); (case z_bool => first | k_is | ks_is); (case z_int => first | k_is | ks_is); (case z_isinstance => first | k_is | ks_is); (case z_len => first | k_is | ks_is); (case z_list => first | k_is | ks_is); (case z_max => first | k_is | ks_is); (case z_range => first | k_is | ks_is); (case z_str => first | k_is | ks_is); (case z_tuple => first | k_is | ks_is); (case g_MOST_DEEDS => first | k_is | ks_is); (case g_MOST_OCTETS => first | k_is | ks_is); (case aC_BadOctets => first | k_is | ks_is); (case xC_BadOctets => first | k_is | ks_is); (case sa_BadOctets => first | k_is | ks_is); (case eC_BadOctets => first | k_is | ks_is); (case tC_BadOctets => first | k_is | ks_is); (case kC_BadOctets => first | k_is | ks_is); (case iC_BadOctets => first | k_is | ks_is); (case tI_BadOctets => first | k_is | ks_is); (case lI_BadOctets => first | k_is | ks_is); (case cI_BadOctets => first | k_is | ks_is); (case cd_BadOctets => first | k_is | ks_is); (case ce_BadOctets => first | k_is | ks_is); (case cs_BadOctets => first | k_is | ks_is); (case mr_BadOctets => first | k_is | ks_is); (case su_BadOctets => first | k_is | ks_is); (case va_BadOctets => first | k_is | ks_is); (case ga_BadOctets => first | k_is | ks_is); (case gg_BadOctets => first | k_is | ks_is); (case hd_BadOctets => first | k_is | ks_is); (case n_BadOctets_place => first | k_is | ks_is); (case n_BadOctets_why => first | k_is | ks_is); (case aC_TooMany => first | k_is | ks_is); (case xC_TooMany => first | k_is | ks_is); (case sa_TooMany => first | k_is | ks_is); (case eC_TooMany => first | k_is | ks_is); (case tC_TooMany => first | k_is | ks_is); (case kC_TooMany => first | k_is | ks_is); (case iC_TooMany => first | k_is | ks_is); (case tI_TooMany => first | k_is | ks_is); (case lI_TooMany => first | k_is | ks_is); (case cI_TooMany => first | k_is | ks_is); (case cd_TooMany => first | k_is | ks_is); (case ce_TooMany => first | k_is | ks_is); (case cs_TooMany => first | k_is | ks_is); (case mr_TooMany => first | k_is | ks_is); (case su_TooMany => first | k_is | ks_is); (case va_TooMany => first | k_is | ks_is); (case ga_TooMany => first | k_is | ks_is); (case gg_TooMany => first | k_is | ks_is); (case hd_TooMany => first | k_is | ks_is); (case n_TooMany_what => first | k_is | ks_is); (case n_TooMany_count => first | k_is | ks_is); (case aC_BadDeed => first | k_is | ks_is); (case xC_BadDeed => first | k_is | ks_is); (case sa_BadDeed => first | k_is | ks_is); (case eC_BadDeed => first | k_is | ks_is); (case tC_BadDeed => first | k_is | ks_is); (case kC_BadDeed => first | k_is | ks_is); (case iC_BadDeed => first | k_is | ks_is); (case tI_BadDeed => first | k_is | ks_is); (case lI_BadDeed => first | k_is | ks_is); (case cI_BadDeed => first | k_is | ks_is); (case cd_BadDeed => first | k_is | ks_is); (case ce_BadDeed => first | k_is | ks_is); (case cs_BadDeed => first | k_is | ks_is); (case mr_BadDeed => first | k_is | ks_is); (case su_BadDeed => first | k_is | ks_is); (case va_BadDeed => first | k_is | ks_is); (case ga_BadDeed => first | k_is | ks_is); (case gg_BadDeed => first | k_is | ks_is); (case hd_BadDeed => first | k_is | ks_is); (case n_BadDeed_why => first | k_is | ks_is); (case sup_ => first | k_is | ks_is); (case thi_ => first | k_is | ks_is); (case htop_ => first | rfl | decide +kernel); (case sb_BadOctets_BadOctets => first | k_is | ks_is); (case sb_BadOctets_TooMany => first | k_is | ks_is); (case sb_BadOctets_BadDeed => first | k_is | ks_is); (case sb_TooMany_BadOctets => first | k_is | ks_is); (case sb_TooMany_TooMany => first | k_is | ks_is); (case sb_TooMany_BadDeed => first | k_is | ks_is); (case sb_BadDeed_BadOctets => first | k_is | ks_is); (case sb_BadDeed_TooMany => first | k_is | ks_is); (case sb_BadDeed_BadDeed => first | k_is | ks_is); (case rC_BadOctets => decide +kernel); (case hv_BadOctets => rfl); (case hf_BadOctets => first | rfl | decide +kernel); (case rC_TooMany => decide +kernel); (case hv_TooMany => rfl); (case hf_TooMany => first | rfl | decide +kernel); (case rC_BadDeed => decide +kernel); (case hv_BadDeed => rfl); (case hf_BadDeed => first | rfl | decide +kernel)
