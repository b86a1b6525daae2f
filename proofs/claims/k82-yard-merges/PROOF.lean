import PyProof.Rows.All
import Wide.All
import OpenK.AllK
import Wide.FinOn
import HandS.ForMost
import HandS.ForExc
import HandS.DeepEq
import HandS.DictComp
import HandS.Small
import HandS.IsInst
import HandS.ExcInit
import HandS.RaiseMore
import HandS.Flow
import HandS.Style
import PyProof.ReprRoads
import KE.DataEq
import HandS.RaiseOp
import HandS.Walk
import HandS.SortInts
import HandS.ExcField
import HandS.ExcIs
import PyProof.ReprBulk
import KE.KSortTupAny
import HandS.SortRule
import KE.KEqNest
import PyProof.NeKinds
import HandS.Set
import HandS.SetFor
import HandS.Strs
import HandS.CallSlots
import HandS.TupSets
import HandS.SetBool
import HandS.Exc
import KE.KDictSum
import HandS.Conv
import HandS.ExcCtx
import HandS.HotCalls
import HandS.ExcInitHot
import HandS.Iter
import KE.KDictList
import HandS.More
import HandS.ExcOwn
import HandS.TryOnly
import HandS.SuiteRaise
import HandS.Rev
import HandS.Zip
import HandS.SortKw
import KE.DatumOrd
import HandS.TryMany
import HandS.HeadHook3
import PySem.Challenge.RW_trundleyard_k82_yard_merges
set_option Elab.async false
set_option linter.all false
set_option maxRecDepth 100000
namespace TU
open PySem PySem.Spec PyProof.Rows L2

/-- data as trees -/
inductive Tr where
  | non | bl (b : Bool) | int (i : Int) | str (x : Str)
  | lst (xs : List Tr) | tup (xs : List Tr) | dic (kvs : List (Key × Tr))

-- v reads as the tree d in H; the addresses of its lists and dicts satisfy P
mutual
inductive T (K : PySem.W.Frag) (H : Hp) (P : Addr → Prop) : V → Tr → Prop
  | non : T K H P .non .non
  | bl (b : Bool) : T K H P (.bl b) (.bl b)
  | int (i : Int) : T K H P (.int i) (.int i)
  | str (x : Str) : T K H P (.str x) (.str x)
  | lst {a : Addr} {xs : List V} {ds : List Tr} : P a → SqL K H a xs → Ts K H P xs ds → T K H P (.ref a) (.lst ds)
  | tup {a : Addr} {xs : List V} {ds : List Tr} : SqT K H a xs → Ts K H P xs ds → T K H P (.ref a) (.tup ds)
  | dic {a : Addr} {kvs : List (Key × V)} {es : List (Key × Tr)} : P a → Rd H a (.dK kvs) → Tk K H P kvs es → T K H P (.ref a) (.dic es)
inductive Ts (K : PySem.W.Frag) (H : Hp) (P : Addr → Prop) : List V → List Tr → Prop
  | nil : Ts K H P [] []
  | cons {v : V} {vs : List V} {d : Tr} {ds : List Tr} : T K H P v d → Ts K H P vs ds → Ts K H P (v :: vs) (d :: ds)
inductive Tk (K : PySem.W.Frag) (H : Hp) (P : Addr → Prop) : List (Key × V) → List (Key × Tr) → Prop
  | nil : Tk K H P [] []
  | cons {k : Key} {v : V} {vs : List (Key × V)} {d : Tr} {ds : List (Key × Tr)} : T K H P v d → Tk K H P vs ds → Tk K H P ((k, v) :: vs) ((k, d) :: ds)
end

/-- what W does not hold is kept -/
def Keeps (W : Addr → Prop) (H H' : Hp) : Prop := ∀ a o, ¬ W a → H a = some o → H' a = some o
theorem Keeps.of_same {W : Addr → Prop} {H H' : Hp} (s : Same H H') : Keeps W H H' := fun a o _ e => s a o e
theorem Keeps.same {H H' : Hp} (s : Keeps (fun _ => False) H H') : Same H H' := fun a o e => s a o (fun z => z) e

section
variable {K : PySem.W.Frag} {H H' : Hp} {P P' W : Addr → Prop}
theorem sqT_keep (k : Keeps W H H') (nt : ∀ a xs, W a → ¬ Rd H a (.tup xs)) {a : Addr} {xs : List V} (h : SqT K H a xs) : SqT K H' a xs := by
  rcases h with h | h
  · have nw : ¬ W a := fun z => nt a xs z h
    rcases h with h | ⟨o, h⟩
    · exact .inl (.inl (k a _ nw h))
    · exact .inl (.inr ⟨o, k a _ nw h⟩)
  · exact .inr h
theorem sqL_keep (k : Keeps W H H') {a : Addr} {xs : List V} (nw : ¬ W a) (h : SqL K H a xs) : SqL K H' a xs := by
  rcases h with h | h
  · rcases h with h | ⟨o, h⟩
    · exact .inl (.inl (k a _ nw h))
    · exact .inl (.inr ⟨o, k a _ nw h⟩)
  · exact .inr h
theorem rd_keep (k : Keeps W H H') {a : Addr} {u : HO} (nw : ¬ W a) (h : Rd H a u) : Rd H' a u := by
  rcases h with h | ⟨o, h⟩
  · exact .inl (k a _ nw h)
  · exact .inr ⟨o, k a _ nw h⟩
mutual
theorem T.keep (k : Keeps W H H') (nt : ∀ a xs, W a → ¬ Rd H a (.tup xs)) (hp : ∀ a, P a → P' a ∧ ¬ W a) : ∀ {v : V} {d : Tr}, T K H P v d → T K H' P' v d
  | _, _, .non => .non
  | _, _, .bl b => .bl b
  | _, _, .int i => .int i
  | _, _, .str x => .str x
  | _, _, .lst p h t => .lst (hp _ p).1 (sqL_keep k (hp _ p).2 h) (Ts.keep k nt hp t)
  | _, _, .tup h t => .tup (sqT_keep k nt h) (Ts.keep k nt hp t)
  | _, _, .dic p h t => .dic (hp _ p).1 (rd_keep k (hp _ p).2 h) (Tk.keep k nt hp t)
theorem Ts.keep (k : Keeps W H H') (nt : ∀ a xs, W a → ¬ Rd H a (.tup xs)) (hp : ∀ a, P a → P' a ∧ ¬ W a) : ∀ {v : List V} {d : List Tr}, Ts K H P v d → Ts K H' P' v d
  | _, _, .nil => .nil
  | _, _, .cons h t => .cons (T.keep k nt hp h) (Ts.keep k nt hp t)
theorem Tk.keep (k : Keeps W H H') (nt : ∀ a xs, W a → ¬ Rd H a (.tup xs)) (hp : ∀ a, P a → P' a ∧ ¬ W a) : ∀ {v : List (Key × V)} {d : List (Key × Tr)}, Tk K H P v d → Tk K H' P' v d
  | _, _, .nil => .nil
  | _, _, .cons h t => .cons (T.keep k nt hp h) (Tk.keep k nt hp t)
end
theorem T.mono (s : Same H H') {v : V} {d : Tr} (h : T K H P v d) : T K H' P v d := h.keep (W := fun _ => False) (.of_same s) (fun _ _ z => z.elim) fun _ p => ⟨p, fun z => z⟩
theorem Ts.mono (s : Same H H') {v : List V} {d : List Tr} (h : Ts K H P v d) : Ts K H' P v d := h.keep (W := fun _ => False) (.of_same s) (fun _ _ z => z.elim) fun _ p => ⟨p, fun z => z⟩
theorem Tk.mono (s : Same H H') {v : List (Key × V)} {d : List (Key × Tr)} (h : Tk K H P v d) : Tk K H' P v d := h.keep (W := fun _ => False) (.of_same s) (fun _ _ z => z.elim) fun _ p => ⟨p, fun z => z⟩
theorem T.imp (hp : ∀ a, P a → P' a) {v : V} {d : Tr} (h : T K H P v d) : T K H P' v d := h.keep (W := fun _ => False) (.of_same (Same.refl H)) (fun _ _ z => z.elim) fun a p => ⟨hp a p, fun z => z⟩
theorem Ts.imp (hp : ∀ a, P a → P' a) {v : List V} {d : List Tr} (h : Ts K H P v d) : Ts K H P' v d := h.keep (W := fun _ => False) (.of_same (Same.refl H)) (fun _ _ z => z.elim) fun a p => ⟨hp a p, fun z => z⟩
theorem Tk.imp (hp : ∀ a, P a → P' a) {v : List (Key × V)} {d : List (Key × Tr)} (h : Tk K H P v d) : Tk K H P' v d := h.keep (W := fun _ => False) (.of_same (Same.refl H)) (fun _ _ z => z.elim) fun a p => ⟨hp a p, fun z => z⟩
/-- an object that is no tuple is changed -/
theorem nt_of {p : Addr} {o : HO} (h : H p = some o) (n : ∀ xs, o ≠ .tup xs) (n2 : ∀ u v, o ≠ .frz u v) : ∀ a xs, a = p → ¬ Rd H a (.tup xs) := by
  rintro a xs rfl (e | ⟨u, e⟩)
  · rw [h] at e
    exact n xs (Option.some.inj e)
  · rw [h] at e
    exact n2 _ _ (Option.some.inj e)
theorem keeps_upd {p : Addr} {o : HO} : Keeps (fun a => a = p) H (upd H p o) := fun a u n e => by
  rw [upd_ne n]
  exact e
theorem T.upd {p : Addr} {o o' : HO} (e : H p = some o) (n : ∀ xs, o ≠ .tup xs) (n2 : ∀ u v, o ≠ .frz u v) (hp : ∀ a, P a → a ≠ p) {v : V} {d : Tr} (h : T K H P v d) : T K (upd H p o') P v d :=
  h.keep keeps_upd (nt_of e n n2) fun a q => ⟨q, hp a q⟩
theorem Ts.upd {p : Addr} {o o' : HO} (e : H p = some o) (n : ∀ xs, o ≠ .tup xs) (n2 : ∀ u v, o ≠ .frz u v) (hp : ∀ a, P a → a ≠ p) {v : List V} {d : List Tr} (h : Ts K H P v d) : Ts K (upd H p o') P v d :=
  h.keep keeps_upd (nt_of e n n2) fun a q => ⟨q, hp a q⟩
theorem Tk.upd {p : Addr} {o o' : HO} (e : H p = some o) (n : ∀ xs, o ≠ .tup xs) (n2 : ∀ u v, o ≠ .frz u v) (hp : ∀ a, P a → a ≠ p) {v : List (Key × V)} {d : List (Key × Tr)} (h : Tk K H P v d) : Tk K (upd H p o') P v d :=
  h.keep keeps_upd (nt_of e n n2) fun a q => ⟨q, hp a q⟩
theorem same_new {p : Addr} {o : HO} (h : H p = none) : Same H (upd H p o) := fun b u e => by
  rw [upd_ne (ne_of_none e h)]
  exact e
theorem Ts.length : ∀ {v : List V} {d : List Tr}, Ts K H P v d → v.length = d.length
  | _, _, .nil => rfl
  | _, _, .cons _ t => congrArg Nat.succ (Ts.length t)
theorem Tk.length : ∀ {v : List (Key × V)} {d : List (Key × Tr)}, Tk K H P v d → v.length = d.length
  | _, _, .nil => rfl
  | _, _, .cons _ t => congrArg Nat.succ (Tk.length t)
theorem Tk.keys : ∀ {v : List (Key × V)} {d : List (Key × Tr)}, Tk K H P v d → v.map (·.1) = d.map (·.1)
  | _, _, .nil => rfl
  | _, _, .cons _ t => by
    rw [List.map_cons, List.map_cons, Tk.keys t]
theorem Ts.get : ∀ {vs : List V} {ds : List Tr} {i : Nat} {v : V}, Ts K H P vs ds → vs[i]? = some v → ∃ d, ds[i]? = some d ∧ T K H P v d
  | _, _, _, _, .nil, e => by simp at e
  | _, _, 0, _, .cons h _, e => by
    simp at e
    subst e
    exact ⟨_, rfl, h⟩
  | _, _, i + 1, v, .cons _ t, e => by
    obtain ⟨d, h1, h2⟩ := Ts.get (i := i) (v := v) t (by simpa using e)
    exact ⟨d, by simpa using h1, h2⟩
theorem Ts.get' : ∀ {vs : List V} {ds : List Tr} {i : Nat} {d : Tr}, Ts K H P vs ds → ds[i]? = some d → ∃ v, vs[i]? = some v ∧ T K H P v d
  | _, _, _, _, .nil, e => by simp at e
  | _, _, 0, _, .cons h _, e => by
    simp at e
    subst e
    exact ⟨_, rfl, h⟩
  | _, _, i + 1, d, .cons _ t, e => by
    obtain ⟨v, h1, h2⟩ := Ts.get' (i := i) (d := d) t (by simpa using e)
    exact ⟨v, by simpa using h1, h2⟩
theorem Ts.append : ∀ {v u : List V} {d e : List Tr}, Ts K H P v d → Ts K H P u e → Ts K H P (v ++ u) (d ++ e)
  | _, _, _, _, .nil, h => h
  | _, _, _, _, .cons h t, h' => .cons h (Ts.append t h')
theorem Ts.one {v : V} {d : Tr} (h : T K H P v d) : Ts K H P [v] [d] := .cons h .nil
theorem Tk.append : ∀ {v u : List (Key × V)} {d e : List (Key × Tr)}, Tk K H P v d → Tk K H P u e → Tk K H P (v ++ u) (d ++ e)
  | _, _, _, _, .nil, h => h
  | _, _, _, _, .cons h t, h' => .cons h (Tk.append t h')

/-! ### dicts as lists of pairs -/
def getD (kvs : List (Key × Tr)) (k : Key) : Option Tr := (kvs.find? fun kv => decide (kv.1 = k)).map (·.2)
def putD (kvs : List (Key × Tr)) (k : Key) (v : Tr) : List (Key × Tr) :=
  if (kvs.any fun kv => decide (kv.1 = k)) = true then kvs.map (fun kv => if kv.1 = k then (kv.1, v) else kv) else kvs ++ [(k, v)]
def delD (kvs : List (Key × Tr)) (k : Key) : List (Key × Tr) := kvs.filter fun kv => decide (kv.1 ≠ k)
theorem getD_cons (p : Key × Tr) (r : List (Key × Tr)) (k : Key) : getD (p :: r) k = if p.1 = k then some p.2 else getD r k := by
  by_cases e : p.1 = k
  · simp [getD, List.find?_cons, e]
  · simp [getD, List.find?_cons, e]
theorem Tk.get : ∀ {kvs : List (Key × V)} {es : List (Key × Tr)} (k : Key), Tk K H P kvs es → (valV kvs k = none ∧ getD es k = none) ∨ ∃ v d, valV kvs k = some v ∧ getD es k = some d ∧ T K H P v d
  | _, _, k, .nil => .inl ⟨rfl, rfl⟩
  | _, _, k, .cons (k := k0) h t => by
    by_cases e : k0 = k
    · refine .inr ⟨_, _, valV_pos e, ?_, h⟩
      rw [getD_cons, if_pos e]
    · rw [valV_neg (p := (k0, _)) e, getD_cons, if_neg e]
      exact Tk.get k t
theorem Tk.gets {kvs : List (Key × V)} {es : List (Key × Tr)} {k : Key} {d : Tr} (h : Tk K H P kvs es) (e : getD es k = some d) : ∃ v, valV kvs k = some v ∧ T K H P v d := by
  rcases h.get k with ⟨_, z⟩ | ⟨v, d', h1, h2, h3⟩
  · rw [z] at e
    cases e
  · rw [h2] at e
    cases e
    exact ⟨v, h1, h3⟩
theorem Tk.getn {kvs : List (Key × V)} {es : List (Key × Tr)} {k : Key} (h : Tk K H P kvs es) (e : getD es k = none) : valV kvs k = none := by
  rcases h.get k with ⟨z, _⟩ | ⟨v, d', h1, h2, h3⟩
  · exact z
  · rw [h2] at e
    cases e
theorem Tk.isSome {kvs : List (Key × V)} {es : List (Key × Tr)} {k : Key} (h : Tk K H P kvs es) : (valV kvs k).isSome = (getD es k).isSome := by
  rcases h.get k with ⟨z, z'⟩ | ⟨v, d', h1, h2, h3⟩
  · rw [z, z'] <;> rfl
  · rw [h1, h2] <;> rfl
theorem Tk.anyk : ∀ {kvs : List (Key × V)} {es : List (Key × Tr)} (k : Key), Tk K H P kvs es → (kvs.any fun kv => decide (kv.1 = k)) = (es.any fun kv => decide (kv.1 = k))
  | _, _, _, .nil => rfl
  | _, _, k, .cons _ t => by
    rw [List.any_cons, List.any_cons, Tk.anyk k t]
theorem Tk.mapput {k : Key} {v : V} {d : Tr} (hv : T K H P v d) : ∀ {kvs : List (Key × V)} {es : List (Key × Tr)}, Tk K H P kvs es → Tk K H P (kvs.map (fun kv => if kv.1 = k then (kv.1, v) else kv)) (es.map (fun kv => if kv.1 = k then (kv.1, d) else kv))
  | _, _, .nil => .nil
  | _, _, .cons (k := k0) h t => by
    rw [List.map_cons, List.map_cons]
    by_cases e : k0 = k
    · simp only [if_pos e]
      exact .cons hv (Tk.mapput hv t)
    · simp only [if_neg e]
      exact .cons h (Tk.mapput hv t)
theorem Tk.put {k : Key} {v : V} {d : Tr} {kvs : List (Key × V)} {es : List (Key × Tr)} (h : Tk K H P kvs es) (hv : T K H P v d) : Tk K H P (putK kvs k v) (putD es k d) := by
  unfold putK putD
  rw [h.anyk k]
  by_cases e : (es.any fun kv => decide (kv.1 = k)) = true
  · rw [if_pos e, if_pos e]
    exact h.mapput hv
  · rw [if_neg e, if_neg e]
    exact h.append (.cons hv .nil)
theorem Tk.del (k : Key) : ∀ {kvs : List (Key × V)} {es : List (Key × Tr)}, Tk K H P kvs es → Tk K H P (dropK kvs k) (delD es k)
  | _, _, .nil => .nil
  | _, _, .cons (k := k0) h t => by
    unfold dropK delD
    rw [List.filter_cons, List.filter_cons]
    by_cases e : k0 ≠ k
    · rw [if_pos (by simpa using e), if_pos (by simpa using e)]
      exact .cons h (Tk.del k t)
    · rw [if_neg (by simpa using e), if_neg (by simpa using e)]
      exact Tk.del k t
end
end TU

set_option Elab.async false
set_option linter.all false
set_option maxRecDepth 100000
namespace TU
open PySem PySem.Spec PyProof.Rows L2

/-! ### to the library's data -/
mutual
def py : Tr → PyData
  | .non => .none
  | .bl b => .bool b
  | .int i => .int i
  | .str x => .str x
  | .lst xs => .list (pys xs)
  | .tup xs => .tuple (pys xs)
  | .dic kvs => .dict (pyk kvs)
def pys : List Tr → List PyData
  | [] => []
  | x :: xs => py x :: pys xs
def pyk : List (Key × Tr) → List (PyData × PyData)
  | [] => []
  | p :: xs => ((match p.1 with | .inl i => .int i | .inr s => .str s), py p.2) :: pyk xs
end
mutual
/-- no dict within -/
def nod : Tr → Bool
  | .lst xs => nods xs
  | .tup xs => nods xs
  | .dic _ => false
  | _ => true
def nods : List Tr → Bool
  | [] => true
  | x :: xs => nod x && nods xs
end
mutual
/-- no list within -/
def nol : Tr → Bool
  | .lst _ => false
  | .tup xs => nols xs
  | .dic kvs => nolk kvs
  | _ => true
def nols : List Tr → Bool
  | [] => true
  | x :: xs => nol x && nols xs
def nolk : List (Key × Tr) → Bool
  | [] => true
  | p :: xs => nol p.2 && nolk xs
end
mutual
def dep : Tr → Nat
  | .lst xs => deps xs + 1
  | .tup xs => deps xs + 1
  | .dic kvs => depk kvs + 1
  | _ => 0
def deps : List Tr → Nat
  | [] => 0
  | x :: xs => max (dep x) (deps xs)
def depk : List (Key × Tr) → Nat
  | [] => 0
  | p :: xs => max (dep p.2) (depk xs)
end
mutual
theorem plain_py : ∀ d : Tr, nod d = true → (py d).plain = true
  | .non, _ => rfl
  | .bl _, _ => rfl
  | .int _, _ => rfl
  | .str _, _ => rfl
  | .lst xs, h => by
    have h' : nods xs = true := by simpa [nod] using h
    simp only [py, PyData.plain]
    exact plain_pys xs h'
  | .tup xs, h => by
    have h' : nods xs = true := by simpa [nod] using h
    simp only [py, PyData.plain]
    exact plain_pys xs h'
  | .dic _, h => by simp [nod] at h
theorem plain_pys : ∀ ds : List Tr, nods ds = true → PyData.plainAll (pys ds) = true
  | [], _ => rfl
  | x :: xs, h => by
    have h' : nod x = true ∧ nods xs = true := by simpa [nods] using h
    simp only [pys, PyData.plainAll, plain_py x h'.1, plain_pys xs h'.2, Bool.and_self]
end
mutual
theorem depth_py : ∀ d : Tr, (py d).depth = dep d
  | .non => rfl
  | .bl _ => rfl
  | .int _ => rfl
  | .str _ => rfl
  | .lst xs => by simp only [py, PyData.depth, dep, depth_pys xs]
  | .tup xs => by simp only [py, PyData.depth, dep, depth_pys xs]
  | .dic kvs => by simp only [py, PyData.depth, dep, depth_pyk kvs]
theorem depth_pys : ∀ ds : List Tr, PyData.depthAll (pys ds) = deps ds
  | [] => rfl
  | x :: xs => by simp only [pys, PyData.depthAll, deps, depth_py x, depth_pys xs]
theorem depth_pyk : ∀ ds : List (Key × Tr), PyData.depthKv (pyk ds) = depk ds
  | [] => rfl
  | (k, x) :: xs => by
    cases k <;> simp [pyk, PyData.depthKv, depk, depth_py x, depth_pyk xs, PyData.depth]
end

section
variable {X : Cx} {pins : List (Addr × Obj)} {σ : L2.St} {H : Hp} {s : Shared} {P : Addr → Prop}
theorem reads_keys {prog : Program} {w : World} {h : Heap} {es : List DictEntry} {kvs : List (Key × Value)} (r : Pairs (mixKind prog w) es kvs) : ∀ {ds : List (Key × Tr)}, kvs.map (·.1) = ds.map (·.1) →
    ReadsAll h (es.map (·.key)) ((pyk ds).map (·.1)) [] := by
  induction r with
  | nil =>
    intro ds hk
    cases ds with
    | nil => exact .nil
    | cons q ds => exact nomatch hk
  | @cons e p es kvs h1 h2 t ih =>
    intro ds hk
    cases ds with
    | nil => exact nomatch hk
    | cons q ds =>
      obtain ⟨k, d⟩ := q
      have hk' : p.1 = k ∧ kvs.map (·.1) = ds.map (·.1) := by simpa using hk
      have r1 : keyIs k e.key = true := by rw [← hk'.1]; exact h1
      have ih' := ih hk'.2
      simp only [List.map_cons, pyk]
      rcases keyIs_shape r1 with ⟨i, t, rfl, e2⟩ | ⟨x, t, rfl, e2⟩
      · rw [e2]
        exact ReadsAll.cons (as := []) (bs := []) (Reads.int i t) ih'
      · rw [e2]
        exact ReadsAll.cons (as := []) (bs := []) (Reads.str x t) ih'
theorem vals_of_pairs {prog : Program} {w : World} {es : List DictEntry} {kvs : List (Key × Value)} (r : Pairs (mixKind prog w) es kvs) : es.map (·.val) = kvs.map (·.2) := by
  induction r with
  | nil => rfl
  | cons h1 h2 t ih => rw [List.map_cons, List.map_cons, h2, ih]
theorem pyk_snd : ∀ ds : List (Key × Tr), (pyk ds).map (·.2) = pys (ds.map (·.2))
  | [] => rfl
  | p :: ds => by simp only [pyk, List.map_cons, pys, pyk_snd ds]
mutual
/-- a tree is read as the library's data; where no list lies within, sys.modules is none of its objects -/
theorem T.reads (I : Inv X pins σ H s) : ∀ (d : Tr) (v : V) (u : Value), T X.K H P v d → RelV v u → ∃ as, Reads s.heap u (py d) as ∧ (nol d = true → sysModules ∉ as)
  | .non, _, _, h, r => by
    cases h
    cases r
    exact ⟨_, Reads.none, fun _ h => nomatch h⟩
  | .bl b, _, _, h, r => by
    cases h
    cases r
    exact ⟨_, Reads.bool b, fun _ h => nomatch h⟩
  | .int i, _, _, h, r => by
    cases h
    obtain ⟨t, rfl⟩ := r
    exact ⟨_, Reads.int i t, fun _ h => nomatch h⟩
  | .str x, _, _, h, r => by
    cases h
    obtain ⟨t, rfl⟩ := r
    exact ⟨_, Reads.str x t, fun _ h => nomatch h⟩
  | .lst ds, _, _, h, r => by
    cases h with
    | lst p hs ha =>
      cases r
      obtain ⟨its, rv, ⟨o, n, ho, hc, _, hd⟩, _⟩ := I.list hs
      obtain ⟨as, hr, _⟩ := Ts.reads I ds _ its ha rv
      exact ⟨_, Reads.list ho hc hd hr, fun q => by simp [nol] at q⟩
  | .tup ds, _, _, h, r => by
    cases h with
    | tup hs ha =>
      cases r
      obtain ⟨its, rv, ⟨o, ho, hc, n, hd⟩, _⟩ := I.tuple hs
      obtain ⟨as, hr, hn⟩ := Ts.reads I ds _ its ha rv
      exact ⟨_, Reads.tuple ho hc hd hr, fun q => hn (by simpa [nol] using q)⟩
  | .dic ds, _, _, h, r => by
    cases h with
    | @dic a kvs _ p hs ha =>
      cases r
      obtain ⟨z, hd, vs, rel, o, es, ep, ho, hx, hdat, hk, hp, nd⟩ := dk_rd I.hok hs
      have hkeys : vs.map (·.1) = ds.map (·.1) := rel.keys.symm.trans ha.keys
      obtain ⟨bs, hr, hn⟩ := Tk.reads I ds kvs vs ha rel
      have e2 : es.toList.map (·.val) = vs.map (·.2) := vals_of_pairs hp
      rw [← e2, ← pyk_snd] at hr
      refine ⟨_, Reads.dict ho hx.1 hdat (reads_keys hp hkeys) hr, fun q => ?_⟩
      have q' : nolk ds = true := by simpa [nol] using q
      have hd' : a ≠ sysModules := by simpa using hd
      simp only [List.cons_append, List.nil_append, List.mem_cons, not_or]
      exact ⟨fun z => hd' z.symm, hn q'⟩
theorem Ts.reads (I : Inv X pins σ H s) : ∀ (ds : List Tr) (vs : List V) (us : List Value), Ts X.K H P vs ds → Vals vs us → ∃ as, ReadsAll s.heap us (pys ds) as ∧ (nols ds = true → sysModules ∉ as)
  | [], _, _, h, r => by
    cases h
    cases r
    exact ⟨_, ReadsAll.nil, fun _ h => nomatch h⟩
  | d :: ds, _, _, h, r => by
    cases h with
    | cons h1 h2 =>
      cases r with
      | cons r1 r2 =>
        obtain ⟨as, q1, n1⟩ := T.reads I d _ _ h1 r1
        obtain ⟨bs, q2, n2⟩ := Ts.reads I ds _ _ h2 r2
        refine ⟨_, ReadsAll.cons q1 q2, fun q => ?_⟩
        have q' : nol d = true ∧ nols ds = true := by simpa [nols] using q
        rw [List.mem_append, not_or]
        exact ⟨n1 q'.1, n2 q'.2⟩
theorem Tk.reads (I : Inv X pins σ H s) : ∀ (ds : List (Key × Tr)) (kvs : List (Key × V)) (vs : List (Key × Value)), Tk X.K H P kvs ds → KV kvs vs → ∃ as, ReadsAll s.heap (vs.map (·.2)) (pys (ds.map (·.2))) as ∧ (nolk ds = true → sysModules ∉ as)
  | [], _, _, h, r => by
    cases h
    cases r
    exact ⟨_, ReadsAll.nil, fun _ h => nomatch h⟩
  | d :: ds, _, _, h, r => by
    cases h with
    | cons h1 h2 =>
      cases r with
      | cons r1 r2 =>
        obtain ⟨as, q1, n1⟩ := T.reads I _ _ _ h1 r1.2
        obtain ⟨bs, q2, n2⟩ := Tk.reads I ds _ _ h2 r2
        refine ⟨_, ReadsAll.cons q1 q2, fun q => ?_⟩
        simp only [nolk, Bool.and_eq_true] at q
        rw [List.mem_append, not_or]
        exact ⟨n1 q.1, n2 q.2⟩
end
end

/-! ### operators of any kind -/
section
variable {X : Cx}
/-- a + b -/
def rAddU (K : PySem.W.Frag) : R2 := fun x y H Q => (∃ i j, x = .int i ∧ y = .int j ∧ Q (.int (i + j)) H) ∨ (∃ i j, x = .str i ∧ y = .str j ∧ i.length + j.length ≤ sizeLine ∧ Q (.str (i ++ j)) H) ∨ rCat x y H Q ∨ rCatT K x y H Q
theorem op_addU : OpR X (binaryOp .Add) (rAddU X.K) := op_add.or (op_add_str.or (op_cat.or op_catT))
theorem q_addI {K : PySem.W.Frag} {i j : Int} {H : Hp} {Q : VK} (q : Q (.int (i + j)) H) : rAddU K (.int i) (.int j) H Q := .inl ⟨i, j, rfl, rfl, q⟩
theorem q_addS {K : PySem.W.Frag} {i j : Str} {H : Hp} {Q : VK} (z : i.length + j.length ≤ sizeLine) (q : Q (.str (i ++ j)) H) : rAddU K (.str i) (.str j) H Q := .inr (.inl ⟨i, j, rfl, rfl, z, q⟩)
theorem q_addL {K : PySem.W.Frag} {a b : Addr} {xs ys : List V} {H : Hp} {Q : VK} (ha : H a = some (.lst xs)) (hb : H b = some (.lst ys)) (z : xs.length + ys.length ≤ sizeLine) (q : ∀ p, H p = none → Q (.ref p) (upd H p (.lst (xs ++ ys)))) :
    rAddU K (.ref a) (.ref b) H Q := .inr (.inr (.inl ⟨a, b, xs, ys, rfl, rfl, ha, hb, z, q⟩))
theorem q_addT {K : PySem.W.Frag} {a b : Addr} {xs ys : List V} {H : Hp} {Q : VK} (ha : SqT K H a xs) (hb : SqT K H b ys) (n1 : xs ≠ []) (n2 : ys ≠ []) (z : xs.length + ys.length ≤ sizeLine) (q : ∀ p, H p = none → Q (.ref p) (upd H p (.tup (xs ++ ys)))) :
    rAddU K (.ref a) (.ref b) H Q := .inr (.inr (.inr ⟨a, b, xs, ys, rfl, rfl, ha, hb, n1, z, fun e => absurd e n2, fun _ => q⟩))

/-- what == tells of two trees without dicts -/
def eqb (d e : Tr) : Bool := PyData.eqv (py d) (py e)
theorem eqb_refl {d : Tr} (h : nod d = true) : eqb d d = true := SeqAt.eqv_refl_plain _ (plain_py d h)
/-- a dict == another one: the values without dicts -/
def eqk (ks ls : List (Key × Tr)) : Bool := ks.length == ls.length && ks.all fun p => match getD ls p.1 with | some u => eqb p.2 u | none => false

/-- a == b: trees without dicts -/
def rEqT (K : PySem.W.Frag) (n : Nat) : R2 := fun x y H Q => ∃ P d e, T K H P x d ∧ T K H P y e ∧ nod d = true ∧ nod e = true ∧ dep d ≤ n ∧ Q (.bl (eqb d e)) H
def rNeT (K : PySem.W.Frag) (n : Nat) : R2 := fun x y H Q => ∃ P d e, T K H P x d ∧ T K H P y e ∧ nod d = true ∧ nod e = true ∧ dep d ≤ n ∧ Q (.bl (!eqb d e)) H
theorem op_eqT {n : Nat} (hu : X.A.units + n < cLine) : OpR X (compareOp .Eq) (rEqT X.K n) := by
  intro pins s σ H x y v u Q I rx ry h
  obtain ⟨P, d, e, hd, he, nd, ne, hn, q⟩ := h
  obtain ⟨as, r1, _⟩ := T.reads I d x v hd rx
  obtain ⟨bs, r2, _⟩ := T.reads I e y u he ry
  refine SeqAt.eq_plain r1 r2 (plain_py d nd) (plain_py e ne) ?_ ⟨.bl _, H, I, rfl, q⟩
  rw [depth_py, depth_py]
  have := Nat.min_le_left (dep d) (dep e)
  omega
theorem op_neT {n : Nat} (hu : X.A.units + n < cLine) : OpR X (compareOp .NotEq) (rNeT X.K n) := by
  intro pins s σ H x y v u Q I rx ry h
  obtain ⟨P, d, e, hd, he, nd, ne, hn, q⟩ := h
  obtain ⟨as, r1, _⟩ := T.reads I d x v hd rx
  obtain ⟨bs, r2, _⟩ := T.reads I e y u he ry
  refine SeqAt.ne_plain r1 r2 (plain_py d nd) (plain_py e ne) ?_ ⟨.bl _, H, I, rfl, q⟩
  rw [depth_py, depth_py]
  have := Nat.min_le_left (dep d) (dep e)
  omega

/-- the values that are met when two dicts are compared -/
theorem hits_of {pins : List (Addr × Obj)} {σ : L2.St} {H : Hp} {s : Shared} {P P' : Addr → Prop} {A : Around} {n : Nat} (I : Inv X pins σ H s) (hu : A.units + n < cLine) {ls : List (Key × Tr)} {vl : List (Key × V)} {vb : List (Key × Value)} (hl : Tk X.K H P' vl ls) (rb : KV vl vb) (nl : ∀ p ∈ ls, nod p.2 = true) :
    ∀ {ks : List (Key × Tr)} {vk : List (Key × V)} {va : List (Key × Value)}, Tk X.K H P vk ks → KV vk va → (∀ p ∈ ks, nod p.2 = true ∧ dep p.2 ≤ n) →
      ∃ b, PySem.W.KeqHits A s vb va b ∧ (b = ks.all fun p => match getD ls p.1 with | some u => eqb p.2 u | none => false)
  | [], _, _, h, r, _ => by
    cases h
    cases r
    exact ⟨true, .nil, rfl⟩
  | (k, d) :: ks, _, _, h, r, hn => by
    cases h with
    | @cons _ v vk _ _ h1 h2 =>
      cases r with
      | @cons _ q _ _ r1 r2 =>
        obtain ⟨e1, e2⟩ := r1
        obtain ⟨key, w'⟩ := q
        have e1' : k = key := e1
        subst e1'
        obtain ⟨b, hb, eb⟩ := hits_of I hu hl rb nl h2 r2 fun p hp => hn p (List.mem_cons_of_mem _ hp)
        have rr := rb.val k
        rcases hl.get k with ⟨z1, z2⟩ | ⟨u, e, z1, z2, z3⟩
        · rw [z1] at rr
          have e3 : valueAt vb k = none := by
            cases q : valueAt vb k with
            | none => rfl
            | some y =>
              rw [q] at rr
              exact (show False from rr).elim
          refine ⟨false, .miss e3, ?_⟩
          rw [List.all_cons]
          simp only [z2, Bool.false_and]
        · rw [z1] at rr
          obtain ⟨y, hy, ry⟩ := rr.some_of
          obtain ⟨as, q1, _⟩ := T.reads I d v w' h1 e2
          obtain ⟨bs, q2, _⟩ := T.reads I e u y z3 ry
          have ne : nod e = true := by
            have hm : ∃ p ∈ ls, p.1 = k ∧ p.2 = e := by
              unfold getD at z2
              cases q : ls.find? fun kv => decide (kv.1 = k) with
              | none =>
                rw [q] at z2
                cases z2
              | some p =>
                rw [q] at z2
                exact ⟨p, List.mem_of_find?_eq_some q, by simpa using List.find?_some q, Option.some.inj z2⟩
            obtain ⟨p, hp, _, hp2⟩ := hm
            rw [← hp2]
            exact nl p hp
          have hd := hn (k, d) List.mem_cons_self
          have EA : SeqAt.EqAt A s w' y (eqb d e) := SeqAt.eqAt_plain _ _ A s w' y _ _ q1 q2 (plain_py d hd.1) (plain_py e ne) (by
            rw [depth_py, depth_py]
            have h3 : dep d ≤ n := hd.2
            have := Nat.min_le_left (dep d) (dep e)
            omega)
          refine ⟨eqb d e && b, .hit hy EA hb, ?_⟩
          rw [List.all_cons]
          simp only [z2, eb]
def rEqK (neg : Bool) (K : PySem.W.Frag) (n : Nat) : R2 := fun x y H Q => ∃ P a b vk vl ks ls, x = .ref a ∧ y = .ref b ∧ Rd H a (.dK vk) ∧ Rd H b (.dK vl) ∧ Tk K H P vk ks ∧ Tk K H P vl ls ∧ (∀ p ∈ ks, nod p.2 = true ∧ dep p.2 ≤ n) ∧ (∀ p ∈ ls, nod p.2 = true) ∧ Q (.bl (if neg then !eqk ks ls else eqk ks ls)) H
theorem op_eqK {n : Nat} (hu : X.A.units + 1 + n < cLine) : OpR X (compareOp .Eq) (rEqK false X.K n) := by
  intro pins s σ H x y v u Q I rx ry h
  obtain ⟨P, a, b, vk, vl, ks, ls, rfl, rfl, ha, hb, ta, tb, na, nb, q⟩ := h
  cases (show v = Value.ref a from rx)
  cases (show u = Value.ref b from ry)
  obtain ⟨_, ya, va, ra, da⟩ := dk_rd I.hok ha
  obtain ⟨_, yb, vb, rb, db⟩ := dk_rd I.hok hb
  obtain ⟨r, hits, er⟩ := hits_of I (A := X.A.in1) hu tb rb nb ta ra na
  refine PySem.W.keq_eq (knd := mixKind X.prog X.w) ya yb da db (by omega) (fun _ => hits) ⟨.bl _, H, I, rfl, ?_⟩
  have e1 : va.length = ks.length := by rw [← ra.length, ta.length]
  have e2 : vb.length = ls.length := by rw [← rb.length, tb.length]
  rw [e1, e2, er]
  exact q
theorem op_neK {n : Nat} (hu : X.A.units + 1 + n < cLine) : OpR X (compareOp .NotEq) (rEqK true X.K n) := by
  intro pins s σ H x y v u Q I rx ry h
  obtain ⟨P, a, b, vk, vl, ks, ls, rfl, rfl, ha, hb, ta, tb, na, nb, q⟩ := h
  cases (show v = Value.ref a from rx)
  cases (show u = Value.ref b from ry)
  obtain ⟨_, ya, va, ra, da⟩ := dk_rd I.hok ha
  obtain ⟨_, yb, vb, rb, db⟩ := dk_rd I.hok hb
  obtain ⟨r, hits, er⟩ := hits_of I (A := X.A.in1) hu tb rb nb ta ra na
  refine PySem.W.keq_ne (knd := mixKind X.prog X.w) ya yb da db (by omega) (fun _ => hits) ⟨.bl _, H, I, rfl, ?_⟩
  have e1 : va.length = ks.length := by rw [← ra.length, ta.length]
  have e2 : vb.length = ls.length := by rw [← rb.length, tb.length]
  rw [e1, e2, er]
  exact q
/-- a == b, a != b of anything that is known here -/
def rEqU (K : PySem.W.Frag) : R2 := fun x y H Q => rEq x y H Q ∨ rEqT K 60 x y H Q ∨ rEqK false K 60 x y H Q
def rNeU (K : PySem.W.Frag) : R2 := fun x y H Q => rNe x y H Q ∨ rNeT K 60 x y H Q ∨ rEqK true K 60 x y H Q
theorem op_eqU (hu : X.A.units + 64 < cLine) : OpR X (compareOp .Eq) (rEqU X.K) := op_eq.or ((op_eqT (by omega)).or (op_eqK (by omega)))
theorem op_neU (hu : X.A.units + 64 < cLine) : OpR X (compareOp .NotEq) (rNeU X.K) := op_ne.or ((op_neT (by omega)).or (op_neK (by omega)))

/-- x in c, x not in c -/
def rInU (neg : Bool) (K : PySem.W.Frag) : R2 := fun x y H Q => (∃ a o, y = .ref a ∧ DGet H a x o ∧ Q (.bl (if neg then !o.isSome else o.isSome)) H) ∨
  (∃ P d ds, T K H P x d ∧ (T K H P y (.lst ds) ∨ T K H P y (.tup ds)) ∧ nod d = true ∧ nods ds = true ∧ dep d ≤ 60 ∧ Q (.bl (if neg then !ds.any fun z => eqb z d else ds.any fun z => eqb z d)) H) ∨
  (∃ i j, x = .str i ∧ y = .str j ∧ Q (.bl (if neg then (Builtin.Str.occurrences j i 0 j.length 1).isEmpty else !(Builtin.Str.occurrences j i 0 j.length 1).isEmpty)) H)
theorem any_pys (d : Tr) : ∀ ds : List Tr, ((pys ds).any fun z => PyData.eqv z (py d)) = ds.any fun z => eqb z d
  | [] => rfl
  | x :: xs => by rw [pys, List.any_cons, List.any_cons, any_pys d xs] <;> rfl
theorem op_inU (hu : X.A.units + 64 < cLine) : OpR X (compareOp .In) (rInU false X.K) := by
  intro pins s σ H x y v u Q I rx ry h
  rcases h with ⟨a, o, rfl, g, q⟩ | ⟨P, d, ds, hd, he, nd, ns, hn, q⟩ | ⟨i, j, rfl, rfl, q⟩
  · cases (show u = Value.ref a from ry)
    exact d_in (by omega) I g rx fun s3 I3 => ⟨.bl o.isSome, H, I3, rfl, q⟩
  · obtain ⟨as, r1, _⟩ := T.reads I d x v hd rx
    have hm : X.A.units + 1 + min (PyData.depthAll (pys ds)) (py d).depth < cLine := by
      rw [depth_py, depth_pys]
      have := Nat.min_le_right (deps ds) (dep d)
      omega
    rcases he with he | he
    · obtain ⟨bs, r2, _⟩ := T.reads I _ y u he ry
      exact SeqAt.in_list_data r2 r1 (plain_pys ds ns) (plain_py d nd) hm ⟨.bl _, H, I, rfl, by rw [any_pys]; exact q⟩
    · obtain ⟨bs, r2, _⟩ := T.reads I _ y u he ry
      exact SeqAt.in_tuple_data r2 r1 (plain_pys ds ns) (plain_py d nd) hm ⟨.bl _, H, I, rfl, by rw [any_pys]; exact q⟩
  · exact op_in_str pins s σ H _ _ v u Q I rx ry ⟨i, j, rfl, rfl, q⟩
theorem op_notInU (hu : X.A.units + 64 < cLine) : OpR X (compareOp .NotIn) (rInU true X.K) := by
  intro pins s σ H x y v u Q I rx ry h
  rcases h with ⟨a, o, rfl, g, q⟩ | ⟨P, d, ds, hd, he, nd, ns, hn, q⟩ | ⟨i, j, rfl, rfl, q⟩
  · cases (show u = Value.ref a from ry)
    exact d_notIn (by omega) I g rx fun s3 I3 => ⟨.bl (!o.isSome), H, I3, rfl, q⟩
  · obtain ⟨as, r1, _⟩ := T.reads I d x v hd rx
    have hm : X.A.units + 1 + min (PyData.depthAll (pys ds)) (py d).depth < cLine := by
      rw [depth_py, depth_pys]
      have := Nat.min_le_right (deps ds) (dep d)
      omega
    rcases he with he | he
    · obtain ⟨bs, r2, _⟩ := T.reads I _ y u he ry
      exact SeqAt.notIn_list_data r2 r1 (plain_pys ds ns) (plain_py d nd) hm ⟨.bl _, H, I, rfl, by rw [any_pys]; exact q⟩
    · obtain ⟨bs, r2, _⟩ := T.reads I _ y u he ry
      exact SeqAt.notIn_tuple_data r2 r1 (plain_pys ds ns) (plain_py d nd) hm ⟨.bl _, H, I, rfl, by rw [any_pys]; exact q⟩
  · exact op_notIn_str pins s σ H _ _ v u Q I rx ry ⟨i, j, rfl, rfl, by
      rw [Bool.not_not]
      exact q⟩

/-- c[k] -/
def rDIx : R2 := fun x y H Q => ∃ a v, x = .ref a ∧ DGet H a y (some v) ∧ Q v H
theorem ix_dict (hu : X.A.units + 1 < cLine) : IxR X rDIx := by
  intro value slice pins s σ H x y v u Q I rx ry h hs
  obtain ⟨a, w, rfl, g, q⟩ := h
  cases (show v = Value.ref a from rx)
  exact PyProof.Rows.tail_any (dict_typeIs I g) PySem.F.slot_dict_getitem.lookup (d_getItem hu I g ry fun w' s3 I3 rw' => ⟨w, H, I3, rw', q⟩) hs
def rIxU (K : PySem.W.Frag) : R2 := fun x y H Q => rIxL K x y H Q ∨ rIxT K x y H Q ∨ rIxS x y H Q ∨ rDIx x y H Q
theorem ix_any (hu : X.A.units + 64 < cLine) : IxR X (rIxU X.K) := ix_list.or (ix_tup.or (ix_str.or (ix_dict (by omega))))
/-- c[k] = v -/
def rSetU : TSet := fun o i v H Q => rSetL o i v H Q ∨ rSetD o i v H Q
theorem set_any (hu : X.A.units + 64 < cLine) : PSet X rSetU := by
  intro pins s σ H o i v ov iv u Q I ro ri rv h
  rcases h with h | h
  · exact set_list pins s σ H o i v ov iv u Q I ro ri rv h
  · exact set_dict (by omega) pins s σ H o i v ov iv u Q I ro ri rv h
/-- c[lo:hi] -/
def rSlU (K : PySem.W.Frag) : V → Option Int → Option Int → Hp → VK → Prop := fun x lo hi H Q => rSlL K x lo hi H Q ∨ rSlT K x lo hi H Q ∨ rSlS x lo hi H Q
theorem sl_any : SlR X (rSlU X.K) := sl_list.or (sl_tup.or sl_str)
/-- len(c) -/
def rLenU (K : PySem.W.Frag) : List V → Hp → VK → Prop := fun xs H Q => (∃ p ys, xs = [.ref p] ∧ (SqL K H p ys ∨ SqT K H p ys) ∧ Q (.int ys.length) H) ∨ (∃ z, xs = [.str z] ∧ z.length ≤ sizeLine ∧ Q (.int z.length) H) ∨ ∃ a kvs, xs = [.ref a] ∧ Rd H a (.dK kvs) ∧ Q (.int kvs.length) H
theorem call_lenR : CallR X (.builtin "len") (fun xs H Q => ∃ a kvs, xs = [V.ref a] ∧ Rd H a (.dK kvs) ∧ Q (.int kvs.length) H) := by
  intro pins s σ H xs us Q I r h
  obtain ⟨a, kvs, rfl, hd, q⟩ := h
  obtain ⟨u, rfl, rx⟩ := vals1 r
  cases rx
  exact d_len I hd fun t s' I' => ⟨.int _, H, I', ⟨t, rfl⟩, q⟩
theorem call_lenU : CallR X (.builtin "len") (rLenU X.K) := call_len_seq.or (call_len_str.or call_lenR)
/-- list(c) -/
def rListU (K : PySem.W.Frag) : List V → Hp → VK → Prop := fun xs H Q => (∃ p ys, xs = [.ref p] ∧ (SqL K H p ys ∨ SqT K H p ys) ∧ ∀ l, H l = none → Q (.ref l) (upd H l (.lst ys))) ∨
  (∃ (a : Addr) (kvs : List (Key × V)), xs = [.ref a] ∧ Rd H a (.dK kvs) ∧ ∀ p, H p = none → Q (.ref p) (upd H p (.lst (kvs.map fun kv => kV kv.1))))
theorem call_listU (hc : X.calm = true) : CallR X (.type "list") (rListU X.K) := call_list_of.or (call_listD hc)
/-- repr(c) of a tree -/
def rReprT (K : PySem.W.Frag) : List V → Hp → VK → Prop := fun xs H Q => ∃ P a d, xs = [.ref a] ∧ T K H P (.ref a) d ∧ (py d).showable = true ∧ ((py d).hasDict = true → nol d = true) ∧ dep d ≤ 60 ∧ (py d).shown.length ≤ sizeLine ∧ Q (.str (py d).shown) H
theorem call_reprT (hg : X.A.guards = some []) (hu : X.A.units + 64 < cLine) : CallR X (.builtin "repr") (rReprT X.K) := by
  intro pins s σ H xs us Q I r h
  obtain ⟨P, a, d, rfl, ht, hs, hn, hd, hz, q⟩ := h
  obtain ⟨u, rfl, rx⟩ := vals1 r
  cases (show u = Value.ref a from rx)
  obtain ⟨as, r1, na⟩ := T.reads I d _ _ ht rfl
  exact repr_of_reads' r1 hs (fun z => na (hn z)) hg (by rw [depth_py]; omega) (fun _ _ e => e) (fun h' u tk k => ⟨.str _, H, I.kept (t' := tk) k, ⟨u, rfl⟩, q⟩) hz
end
end TU

set_option Elab.async false
set_option linter.all false
set_option maxRecDepth 100000
namespace TU
open PySem PySem.Spec PyProof.Rows L2

/-! ### one of two rules -/
section
variable {X : Cx}
theorem PEor {e : Expr} {t t' : TE} (h : PE X e t) (h' : PE X e t') : PE X e (fun σ H Q => t σ H Q ∨ t' σ H Q) := ⟨fun pins s σ H Q I q => q.elim (h.run pins s σ H Q I) (h'.run pins s σ H Q I)⟩
theorem PSor {e : Stmt} {t t' : TS} (h : PS X e t) (h' : PS X e t') : PS X e (fun D σ H => t D σ H ∨ t' D σ H) := ⟨fun pins s σ H Q I q => q.elim (h.run pins s σ H Q I) (h'.run pins s σ H Q I)⟩
theorem PIor {tg e : Expr} {t t' : TI} (h : PI X tg e t) (h' : PI X tg e t') : PI X tg e (fun σ H R => t σ H R ∨ t' σ H R) := ⟨fun pins s σ H Q I q => q.elim (h.run pins s σ H Q I) (h'.run pins s σ H Q I)⟩
/-- what a for walks: a list, a tuple, a dict that is locked -/
def iAny (K : PySem.W.Frag) (te : TE) : TI := fun σ H R => iList K te σ H R ∨ iTup K te σ H R ∨ iKeys te σ H R
theorem pi_any {tg e : Expr} {te : TE} (h : PE X e te) : PI X tg e (iAny X.K te) := PIor (pi_list h) (PIor (pi_tup h) (pi_keys h))
/-- .. the dict locked here -/
def tLockU (t : TS) : TS := fun D σ H => t D σ H ∨ tLock t D σ H
theorem ps_lockU {e : Stmt} {t : TS} (h : PS X e t) : PS X e (tLockU t) := PSor h (ps_lock h)
def tLockEU (t : TE) : TE := fun σ H Q => t σ H Q ∨ tLockE t σ H Q
theorem pe_lockU {e : Expr} {t : TE} (h : PE X e t) : PE X e (tLockEU t) := PEor h (pe_lock h)
end

/-! ### a def of the text, called -/
structure Df (P : Program) (w : World) (K : PySem.W.Frag) (mg : Str → Option Value) (base : Heap) (x : Str) (ps : List Str) (k : Nat) (sp : Sp) : Prop where
  ex : ∃ f fd, FnOk P w K mg base (L2.CX P w) k f fd ps sp ∧ mg x = some (.ref f) ∧ PySem.W.keepIn K (.ref f) = true ∧ Binds K fd ps []
structure TopF (K : PySem.W.Frag) (mg : Str → Option Value) (x : Str) (st : Stmt) (ps : List Str) : Prop where
  ex : ∃ f fd, Fun K x x st f fd ∧ mg x = some (.ref f) ∧ Binds K fd ps []
section
variable {P : Program} {w : World} {K : PySem.W.Frag} {mg : Str → Option Value} {base : Heap}
theorem TopF.df {x : Str} {st : Stmt} {N ps : List Str} {k : Nat} {sp : Sp} (F : TopF K mg x st ps) (S : FnScope N ps (defScope st)) (len : ∀ vs H Q E, sp vs H Q E → vs.length = ps.length)
    (hbody : ∀ (f : Addr) (cdv : Value) (A : Around) (outer : List Env) (s : Shared) (H : Hp) (vs : List V) (Q : VK) (E : XK), Room k (A.deeper (envOfC x (defScope st) s.heap.objs.size f cdv)) → sp vs H Q E →
      ∃ t, PSs (cxOf (L2.CX P w) P w K mg base N x (defScope st) f cdv A outer s H E) (defBody st) t ∧ t { nx := fun _ H' => Q .non H', rt := Q } (start N vs) H) : Df P w K mg base x ps (k + 1) sp := by
  obtain ⟨f, fd, F0, hm, hb⟩ := F.ex
  exact ⟨f, fd, F0.okX S len fun cdv A outer s H vs Q E hr h => hbody f cdv A outer s H vs Q E hr h, hm, F0.kp, hb⟩
theorem Df.imp {x : Str} {ps : List Str} {k : Nat} {sp sp' : Sp} (F : Df P w K mg base x ps k sp) (h : ∀ vs H Q E, sp' vs H Q E → sp vs H Q E) : Df P w K mg base x ps k sp' := by
  obtain ⟨f, fd, F0, r⟩ := F.ex
  exact ⟨f, fd, F0.imp h, r⟩
end
section
variable {X : Cx} {k : Nat} {ps : List Str} {sp : Sp} {x : Str} {p pos : Pos} {e : Expr} {es : List Expr} {t : TA} 
/-- its call, where exceptions go on as E says -/
theorem pe_df {E : L2.St → XK} (F : Df X.prog X.w X.K X.mg X.base x ps k sp) (hr : Room k X.A) (hx : ∀ σ, PassesAt (L2.CX X.prog X.w) X σ (E σ)) (ha : PA X (e :: es) t) (hg : Gl X x := by rfl)
    (hdb : (x == ("__debug__" : Str)) = false := by decide) (he : starEach (e :: es) X.env = (false, eval e X.env) :: starEach es X.env := by rfl) (hpl : (backTo pos (starEach es X.env)).any (·.1) = false := by rfl) :
    PE X (.Call (.Name x p) (e :: es) [] pos) (tCallS sp E t) := by
  obtain ⟨f, fd, F0, hm, hk, hb⟩ := F.ex
  exact pe_callS F0 hr hg hm hk hb hx ha hdb he hpl
/-- its call, where nothing is raised -/
theorem pe_df0 (F : Df X.prog X.w X.K X.mg X.base x ps k sp) (hr : Room k X.A) (ha : PA X (e :: es) t) (hg : Gl X x := by rfl)
    (hdb : (x == ("__debug__" : Str)) = false := by decide) (he : starEach (e :: es) X.env = (false, eval e X.env) :: starEach es X.env := by rfl) (hpl : (backTo pos (starEach es X.env)).any (·.1) = false := by rfl) :
    PE X (.Call (.Name x p) (e :: es) [] pos) (tCallS sp (fun _ => E0) t) := by
  obtain ⟨f, fd, F0, hm, hk, hb⟩ := F.ex
  exact pe_callS F0 hr hg hm hk hb (fun _ _ s s' e' H' I h => passL _ _ _ _ _ _ I h) ha hdb he hpl
end

/-! ### readings, step by step -/
section
variable {K : PySem.W.Frag} {σ : L2.St} {H : Hp} {D : Ends} {Q : VK} {te ta tb tk : TE} {t u : TS} {g : TG} {i : Nat} {v : V} {c : TT} {tr : TA}
theorem q_seq (h : t { D with nx := u D } σ H) : tSeq t u D σ H := h
theorem q_asg (h : te σ H fun x H1 => g x σ H1 D.nx) : tAsg te g D σ H := h
theorem q_drop (h : te σ H fun _ H1 => D.nx σ H1) : tDrop te D σ H := h
theorem q_ret (h : te σ H D.rt) : tRet te D σ H := h
theorem q_retN (h : D.rt .non H) : tRetN D σ H := h
theorem q_next (h : D.nx σ H) : tNext D σ H := h
theorem q_if (h : c σ H fun b H1 => if b = true then t D σ H1 else u D σ H1) : tIfS c t u D σ H := h
theorem q_gname {R : L2.St → Hp → Prop} (h : R (σ.set i (some v)) H) : gName i v σ H R := h
theorem q_gsub {to ti : TE} {ts : TSet} {R : L2.St → Hp → Prop} (h : to σ H fun o H1 => ti σ H1 fun i H2 => ts o i v H2 fun H3 => R σ H3) : gSub to ti ts v σ H R := h
theorem q_var (h : σ[i]? = some (some v)) (q : Q v H) : tVar i σ H Q := ⟨v, h, q⟩
theorem q_c (q : Q v H) : tC v σ H Q := q
theorem q_op {r : R2} (h : ta σ H fun x H1 => tb σ H1 fun y H2 => r x y H2 Q) : tOp r ta tb σ H Q := h
theorem q_un {r : V → Hp → VK → Prop} (h : ta σ H fun x H1 => r x H1 Q) : tUn r ta σ H Q := h
theorem q_U {f : Int → V} {a : Int} (q : Q (f a) H) : rU f (.int a) H Q := ⟨a, rfl, q⟩
theorem q_I0 {f : Int → Int → V} {a b : Int} (q : Q (f a b) H) : rI0 f (.int a) (.int b) H Q := ⟨a, b, rfl, rfl, q⟩
theorem q_I {C : Int → Int → Prop} {f : Int → Int → V} {a b : Int} (hc : C a b) (q : Q (f a b) H) : rI C f (.int a) (.int b) H Q := ⟨a, b, rfl, rfl, hc, q⟩
theorem q_test {R : Bool → Hp → Prop} (h : te σ H fun x H' => ∃ k, x = .bl k ∧ R k H') : tTest te σ H R := h
theorem q_tB {R : Bool → Hp → Prop} (h : te σ H fun x H' => ∃ k, x = .bl k ∧ R k H') : tB te σ H R := h
theorem q_bl {b : Bool} {R : Bool → Prop} (h : R b) : ∃ k, V.bl b = V.bl k ∧ R k := ⟨b, rfl, h⟩
theorem q_not {R : Bool → Hp → Prop} (h : c σ H fun b H1 => R (!b) H1) : tNot c σ H R := h
theorem q_and {c' : TT} {R : Bool → Hp → Prop} (h : c σ H fun b H1 => if b = true then c' σ H1 R else R false H1) : tAnd c c' σ H R := h
theorem q_or {c' : TT} {R : Bool → Hp → Prop} (h : c σ H fun b H1 => if b = true then R true H1 else c' σ H1 R) : tOr c c' σ H R := h
theorem q_nil {R : List V → Hp → Prop} (h : R [] H) : tNil σ H R := h
theorem q_cons {R : List V → Hp → Prop} (h : ta σ H fun x H1 => tr σ H1 fun xs H2 => R (x :: xs) H2) : tCons ta tr σ H R := h
theorem q_callS {sp : Sp} {E : L2.St → XK} (h : tr σ H fun vs H1 => sp vs H1 Q (E σ)) : tCallS sp E tr σ H Q := h
theorem q_cb {r : List V → Hp → VK → Prop} (h : tr σ H fun vs H1 => r vs H1 Q) : tCB r tr σ H Q := h
theorem q_tup (h : tr σ H fun xs H1 => xs.length ≤ sizeLine ∧ ∀ p, H1 p = none → Q (.ref p) (upd H1 p (.tup xs))) : tTup tr σ H Q := h
theorem q_lst (h : tr σ H fun xs H1 => xs.length ≤ sizeLine ∧ ∀ p, H1 p = none → Q (.ref p) (upd H1 p (.lst xs))) : tLst tr σ H Q := h
theorem q_ifE (h : c σ H fun b H1 => if b = true then ta σ H1 Q else tb σ H1 Q) : tIf c ta tb σ H Q := h
theorem q_notV (h : ta σ H fun x H1 => ∃ c, x = .bl c ∧ Q (.bl (!c)) H1) : tNotV ta σ H Q := h
theorem q_andV (h : ta σ H fun x H1 => ∃ c, x = .bl c ∧ if c = true then tb σ H1 Q else Q (.bl false) H1) : tAndV ta tb σ H Q := h
theorem q_orV (h : ta σ H fun x H1 => ∃ c, x = .bl c ∧ if c = true then Q (.bl true) H1 else tb σ H1 Q) : tOrV ta tb σ H Q := h
theorem q_dnew (h : ∀ p, H p = none → Q (.ref p) (upd H p (.dK []))) : tDNewK σ H Q := h
theorem q_bm {T : String} {r : V → List V → Hp → VK → Prop} (h : ta σ H fun x H1 => tyV K T x H1 ∧ tr σ H1 fun xs H2 => r x xs H2 Q) : tBM K T r ta tr σ H Q := h
theorem q_size {n : Nat} {R : Prop} (h : n ≤ 1000) (r : R) : n ≤ sizeLine ∧ R := ⟨Nat.le_trans h (by decide), r⟩
/-- tests whose answer is known, or not -/
theorem q_t {A B : Prop} (h : A) : if true = true then A else B := by
  rw [if_pos rfl]
  exact h
theorem q_f {A B : Prop} (h : B) : if false = true then A else B := by
  rw [if_neg Bool.false_ne_true]
  exact h
theorem q_ite {b : Bool} {A B : Prop} (h1 : b = true → A) (h2 : b = false → B) : if b = true then A else B := by
  cases b with
  | true => exact q_t (h1 rfl)
  | false => exact q_f (h2 rfl)
theorem q_dec {p : Prop} [Decidable p] {A B : Prop} (h1 : p → A) (h2 : ¬ p → B) : if decide p = true then A else B := by
  by_cases h : p
  · rw [decide_eq_true h]
    exact q_t (h1 h)
  · rw [decide_eq_false h]
    exact q_f (h2 h)
theorem q_ndec {p : Prop} [Decidable p] {A B : Prop} (h1 : ¬ p → A) (h2 : p → B) : if (!decide p) = true then A else B := by
  by_cases h : p
  · rw [decide_eq_true h]
    exact q_f (h2 h)
  · rw [decide_eq_false h]
    exact q_t (h1 h)
/-! the operators -/
theorem q_eqI {a b : Int} (q : Q (.bl (decide (a = b))) H) : rEqU K (.int a) (.int b) H Q := .inl ⟨rfl, by
  have e : decide (V.int a = V.int b) = decide (a = b) := by simp
  rw [e]
  exact q⟩
theorem q_eqS {a b : Str} (q : Q (.bl (decide (a = b))) H) : rEqU K (.str a) (.str b) H Q := .inl ⟨rfl, by
  have e : decide (V.str a = V.str b) = decide (a = b) := by simp
  rw [e]
  exact q⟩
theorem q_eqB {a b : Bool} (q : Q (.bl (decide (a = b))) H) : rEqU K (.bl a) (.bl b) H Q := .inl ⟨rfl, by
  have e : decide (V.bl a = V.bl b) = decide (a = b) := by simp
  rw [e]
  exact q⟩
theorem q_neI {a b : Int} (q : Q (.bl (!decide (a = b))) H) : rNeU K (.int a) (.int b) H Q := .inl ⟨rfl, by
  have e : decide (V.int a = V.int b) = decide (a = b) := by simp
  rw [e]
  exact q⟩
theorem q_neS {a b : Str} (q : Q (.bl (!decide (a = b))) H) : rNeU K (.str a) (.str b) H Q := .inl ⟨rfl, by
  have e : decide (V.str a = V.str b) = decide (a = b) := by simp
  rw [e]
  exact q⟩
theorem q_eqT {P : Addr → Prop} {x y : V} {d e : Tr} (hd : T K H P x d) (he : T K H P y e) (nd : nod d = true) (ne : nod e = true) (hn : dep d ≤ 60) (q : Q (.bl (eqb d e)) H) : rEqU K x y H Q := .inr (.inl ⟨P, d, e, hd, he, nd, ne, hn, q⟩)
theorem q_neT {P : Addr → Prop} {x y : V} {d e : Tr} (hd : T K H P x d) (he : T K H P y e) (nd : nod d = true) (ne : nod e = true) (hn : dep d ≤ 60) (q : Q (.bl (!eqb d e)) H) : rNeU K x y H Q := .inr (.inl ⟨P, d, e, hd, he, nd, ne, hn, q⟩)
theorem q_eqK {P : Addr → Prop} {a b : Addr} {vk vl : List (Key × V)} {ks ls : List (Key × Tr)} (ha : Rd H a (.dK vk)) (hb : Rd H b (.dK vl)) (ta : Tk K H P vk ks) (tb : Tk K H P vl ls) (na : ∀ p ∈ ks, nod p.2 = true ∧ dep p.2 ≤ 60) (nb : ∀ p ∈ ls, nod p.2 = true)
    (q : Q (.bl (eqk ks ls)) H) : rEqU K (.ref a) (.ref b) H Q := .inr (.inr ⟨P, a, b, vk, vl, ks, ls, rfl, rfl, ha, hb, ta, tb, na, nb, q⟩)
theorem q_neK {P : Addr → Prop} {a b : Addr} {vk vl : List (Key × V)} {ks ls : List (Key × Tr)} (ha : Rd H a (.dK vk)) (hb : Rd H b (.dK vl)) (ta : Tk K H P vk ks) (tb : Tk K H P vl ls) (na : ∀ p ∈ ks, nod p.2 = true ∧ dep p.2 ≤ 60) (nb : ∀ p ∈ ls, nod p.2 = true)
    (q : Q (.bl (!eqk ks ls)) H) : rNeU K (.ref a) (.ref b) H Q := .inr (.inr ⟨P, a, b, vk, vl, ks, ls, rfl, rfl, ha, hb, ta, tb, na, nb, q⟩)
theorem dget_rd {a : Addr} {kvs : List (Key × V)} {k : Key} (e : Rd H a (.dK kvs)) : DGet H a (kV k) (valV kvs k) := .inl ⟨kvs, k, e, rfl, rfl⟩
theorem q_inD {a : Addr} {kvs : List (Key × V)} (k : Key) (e : Rd H a (.dK kvs)) (q : Q (.bl (valV kvs k).isSome) H) : rInU false K (kV k) (.ref a) H Q := .inl ⟨a, _, rfl, dget_rd e, q⟩
theorem q_ninD {a : Addr} {kvs : List (Key × V)} (k : Key) (e : Rd H a (.dK kvs)) (q : Q (.bl (!(valV kvs k).isSome)) H) : rInU true K (kV k) (.ref a) H Q := .inl ⟨a, _, rfl, dget_rd e, q⟩
theorem q_ixL {p : Addr} {xs : List V} {i : Int} (h : SqL K H p xs) (hi : atI xs i = some v) (q : Q v H) : rIxU K (.ref p) (.int i) H Q := .inl ⟨p, xs, i, v, rfl, rfl, h, hi, q⟩
theorem q_ixT {p : Addr} {xs : List V} {i : Int} (h : SqT K H p xs) (hi : atI xs i = some v) (q : Q v H) : rIxU K (.ref p) (.int i) H Q := .inr (.inl ⟨p, xs, i, v, rfl, rfl, h, hi, q⟩)
theorem q_ixK {a : Addr} {kvs : List (Key × V)} (k : Key) (e : Rd H a (.dK kvs)) (hv : valV kvs k = some v) (q : Q v H) : rIxU K (.ref a) (kV k) H Q := .inr (.inr (.inr ⟨a, v, rfl, by
  have g := dget_rd (k := k) e
  rw [hv] at g
  exact g, q⟩))
theorem q_setL {p : Addr} {xs : List V} {i : Int} {j : Nat} {R : Hp → Prop} (h : H p = some (.lst xs)) (hi : ixN xs.length i = some j) (q : R (upd H p (.lst (xs.set j v)))) : rSetU (.ref p) (.int i) v H R := .inl ⟨p, xs, i, j, rfl, rfl, h, hi, q⟩
theorem q_setD {a : Addr} {kvs : List (Key × V)} {R : Hp → Prop} (k : Key) (e : H a = some (.dK kvs)) (hl : kvs.length < sizeLine) (q : R (upd H a (.dK (putK kvs k v)))) : rSetU (.ref a) (kV k) v H R := .inr ⟨a, _, rfl, DPut.k e hl, q⟩
theorem q_lenL {p : Addr} {ys : List V} (h : SqL K H p ys) (q : Q (.int ys.length) H) : rLenU K [.ref p] H Q := .inl ⟨p, ys, rfl, .inl h, q⟩
theorem q_lenT {p : Addr} {ys : List V} (h : SqT K H p ys) (q : Q (.int ys.length) H) : rLenU K [.ref p] H Q := .inl ⟨p, ys, rfl, .inr h, q⟩
theorem q_lenK {p : Addr} {kvs : List (Key × V)} (h : Rd H p (.dK kvs)) (q : Q (.int kvs.length) H) : rLenU K [.ref p] H Q := .inr (.inr ⟨p, kvs, rfl, h, q⟩)
theorem q_listL {p : Addr} {ys : List V} (h : SqL K H p ys) (q : ∀ l, H l = none → Q (.ref l) (upd H l (.lst ys))) : rListU K [.ref p] H Q := .inl ⟨p, ys, rfl, .inl h, q⟩
theorem q_listT {p : Addr} {ys : List V} (h : SqT K H p ys) (q : ∀ l, H l = none → Q (.ref l) (upd H l (.lst ys))) : rListU K [.ref p] H Q := .inl ⟨p, ys, rfl, .inr h, q⟩
theorem q_listK {p : Addr} {kvs : List (Key × V)} (h : Rd H p (.dK kvs)) (q : ∀ l, H l = none → Q (.ref l) (upd H l (.lst (kvs.map fun kv => kV kv.1)))) : rListU K [.ref p] H Q := .inr ⟨p, kvs, rfl, h, q⟩
theorem q_append {l : Addr} {xs : List V} {y : V} (h : H l = some (.lst xs)) (hl : xs.length < sizeLine) (q : Q .non (upd H l (.lst (xs ++ [y])))) : rAppend (.ref l) [y] H Q := ⟨l, xs, y, rfl, rfl, h, hl, q⟩
theorem tyL {p : Addr} {xs : List V} {R : Prop} (h : H p = some (.lst xs)) (r : R) : tyV K "list" (.ref p) H ∧ R := ⟨.inl ⟨rfl, xs, .inl (.inl h)⟩, r⟩
theorem q_sl {r : V → Option Int → Option Int → Hp → VK → Prop} {tl th : TO} (h : te σ H fun x H1 => tl σ H1 fun l H2 => th σ H2 fun u H3 => r x l u H3 Q) : tSl r te tl th σ H Q := h
theorem q_part {R : Option Int → Hp → Prop} (h : te σ H fun x H1 => ∃ i, x = .int i ∧ R (some i) H1) : tPart te σ H R := h
theorem q_nopart {R : Option Int → Hp → Prop} (h : R none H) : tNoPart σ H R := h
theorem q_int {a : Int} {R : Int → Prop} (h : R a) : ∃ i, V.int a = V.int i ∧ R i := ⟨a, rfl, h⟩
theorem q_slL {p : Addr} {xs : List V} {lo hi : Option Int} (h : SqL K H p xs) (q : ∀ l, H l = none → Q (.ref l) (upd H l (.lst (cutV xs lo hi)))) : rSlU K (.ref p) lo hi H Q := .inl ⟨p, xs, rfl, h, q⟩
/-! loops -/
def forB (J : It) (g : TG) (tb : TS) (D : Ends) (σ : L2.St) (H : Hp) : Prop := ∃ W : Nat → Nat → L2.St → Hp → Prop, (∃ m, W 0 m σ H) ∧ ∀ i m σ H, W i m σ H →
      (J.stop i H ∧ D.nx σ H) ∨ (J.go i H ∧ ∃ N : L2.St → Hp → Prop, (∀ σ' H', N σ' H' → ∃ m', m' < m ∧ W (i + 1) m' σ' H') ∧ ∀ x H', J.yld i H x H' → g x σ H' fun σ2 H2 => tb { D with nx := N, ct := N, bk := D.nx } σ2 H2)
theorem q_for {wi : TI} {tb : TS} (h : wi σ H fun J H1 => forB J g tb D σ H1) : tFor wi g tb D σ H := h
theorem q_anyL {R : It → Hp → Prop} {a : Addr} {xs : List V} (h : te σ H fun x H1 => x = .ref a ∧ SqL K H1 a xs ∧ R (Itl K a) H1) (hm : ∀ Q Q' : VK, (∀ x H1, Q x H1 → Q' x H1) → te σ H Q → te σ H Q') : iAny K te σ H R :=
  .inl (hm _ _ (fun x H1 ⟨e, s, r⟩ => ⟨a, e, ⟨xs, s⟩, r⟩) h)
theorem q_iL {R : It → Hp → Prop} (h : te σ H fun x H1 => ∃ a, x = .ref a ∧ (∃ xs, SqL K H1 a xs) ∧ R (Itl K a) H1) : iAny K te σ H R := .inl h
theorem q_iT {R : It → Hp → Prop} (h : te σ H fun x H1 => ∃ a, x = .ref a ∧ (∃ xs, SqT K H1 a xs) ∧ R (Itt K a) H1) : iAny K te σ H R := .inr (.inl h)
theorem q_iK {R : It → Hp → Prop} (h : te σ H fun x H1 => ∃ d o kvs, x = .ref d ∧ H1 d = some (.frz o (.dK kvs)) ∧ R (Itk d o kvs) H1) (hm : ∀ Q Q' : VK, (∀ x H1, Q x H1 → Q' x H1) → te σ H Q → te σ H Q') : iAny K te σ H R :=
  .inr (.inr (hm _ _ (fun x H1 ⟨d, o, kvs, e, s, r⟩ => ⟨d, o, e, .inl ⟨kvs, s, r⟩⟩) h))
theorem for_any {J : It} {n : Nat} {G : Hp → Prop} {Y : Nat → Hp → V → Hp → Prop} {tb : TS} (w : Walk J n G Y) (Pv : Nat → L2.St → Hp → Prop) (h0 : Pv 0 σ H) (hG : ∀ i σ H, i ≤ n → Pv i σ H → G H)
    (hs : ∀ i x σ H H', i < n → Pv i σ H → Y i H x H' → g x σ H' fun σ2 H2 => tb { D with nx := Pv (i + 1), ct := Pv (i + 1), bk := D.nx } σ2 H2) (hd : ∀ σ H, Pv n σ H → D.nx σ H) : forB J g tb D σ H := for_it w Pv h0 hG hs hd
/-- over a list's items, the target in slot j -/
theorem for_lst {a : Addr} {xs : List V} {tb : TS} {j : Nat} (Pv : Nat → L2.St → Hp → Prop) (hx : ∀ i σ H, i ≤ xs.length → Pv i σ H → SqL K H a xs) (h0 : Pv 0 σ H)
    (hs : ∀ i x σ H, xs[i]? = some x → Pv i σ H → tb { D with nx := Pv (i + 1), ct := Pv (i + 1), bk := D.nx } (σ.set j (some x)) H) (hd : ∀ σ H, Pv xs.length σ H → D.nx σ H) (hs0 : SqL K H a xs) :
    ∃ b, V.ref a = V.ref b ∧ (∃ xs, SqL K H b xs) ∧ forB (Itl K b) (gName j) tb D σ H :=
  ⟨a, rfl, ⟨xs, hs0⟩, for_any walk_list Pv h0 hx (fun i x σ H H' _ p y => by
    obtain ⟨e, y⟩ := y
    subst e
    exact hs i x σ _ y p) hd⟩
/-- over a range's ints -/
theorem for_rng {lo : Int} {n : Nat} {tb : TS} {j : Nat} (Pv : Nat → L2.St → Hp → Prop) (h0 : Pv 0 σ H)
    (hs : ∀ (i : Nat) σ H, i < n → Pv i σ H → tb { D with nx := Pv (i + 1), ct := Pv (i + 1), bk := D.nx } (σ.set j (some (.int (lo + i)))) H) (hd : ∀ σ H, Pv n σ H → D.nx σ H) : forB (Itr lo n) (gName j) tb D σ H :=
  for_any walk_range Pv h0 (fun _ _ _ _ _ => trivial) (fun i x σ H H' hi p y => by
    obtain ⟨e, y⟩ := y
    subst e
    rw [y]
    exact hs i σ _ hi p) hd
/-- over a locked dict's keys -/
theorem for_keys {d : Addr} {o : Obj} {kvs : List (Key × V)} {tb : TS} {j : Nat} (Pv : Nat → L2.St → Hp → Prop) (hx : ∀ i σ H, i ≤ kvs.length → Pv i σ H → H d = some (.frz o (.dK kvs))) (h0 : Pv 0 σ H)
    (hs : ∀ i k v σ H, kvs[i]? = some (k, v) → Pv i σ H → tb { D with nx := Pv (i + 1), ct := Pv (i + 1), bk := D.nx } (σ.set j (some (kV k))) H) (hd : ∀ σ H, Pv kvs.length σ H → D.nx σ H) : forB (Itk d o kvs) (gName j) tb D σ H :=
  for_any walk_keys Pv h0 hx (fun i x σ H H' _ p y => by
    obtain ⟨e, k, v, y, z⟩ := y
    subst e
    rw [z]
    exact hs i k v σ _ y p) hd
end
end TU

set_option Elab.async false
set_option linter.all false
set_option maxRecDepth 100000
namespace TU
open PySem PySem.Spec PyProof.Rows L2

/-! ### own errors with fields -/
/-- __init__ of an error's class: the fields are the arguments -/
def spXI (C : Addr) (fs : List Str) : Sp := fun vs H Q _ => ∃ (a : Addr) (us : List V), vs = .ref a :: us ∧ us.length = fs.length ∧ H a = some (exo a C none) ∧
  ∀ (dx : Addr) (H' : Hp), H dx = none → dx ≠ a → (∀ b o, b ≠ a → H b = some o → H' b = some o) → H' a = some (exo a C (some dx)) → H' dx = some (exd dx (fs.zip us).reverse) → Q .non H'
/-- what is known of an error's class -/
structure Xc (P : Program) (w : World) (K : PySem.W.Frag) (mg : Str → Option Value) (base : Heap) (x : Str) (fs : List Str) (C : Addr) : Prop where
  T : OexC K C
  xf : XfC K C
  g : mg x = some (.ref C)
  no : ∀ f ∈ fs, PySem.W.findIn K (.ref C) f = some none
  te : PySem.W.exmOne K (.ref C) (.ref C) = some true
  ini : ∃ fI fd, PySem.W.findIn K (.ref C) "__init__" = some (some (.ref fI)) ∧ PySem.W.typeIn K (.ref fI) = some (.type "function") ∧ FnOk P w K mg base (L2.CX P w) 1 fI fd ("self" :: fs) (spXI C fs) ∧ Binds K fd ("self" :: fs) []
section
variable {P : Program} {w : World} {K : PySem.W.Frag} {mg : Str → Option Value} {base : Heap}
theorem ok_init1 {qual f1 : Str} {st : Stmt} {f C : Addr} {fd : FuncData} {p1 p2 p3 p4 : Pos} (F : Fun K "__init__" qual st f fd) (S : FnScope ["self", f1] ["self", f1] (defScope st)) (hb : defBody st = [.Assign [.Attribute (.Name "self" p1) f1 p2] (.Name f1 p3) p4])
    (T : OexC K C) (n1 : PySem.W.findIn K (.ref C) f1 = some none) (d1 : (f1 == ("__debug__" : Str)) = false) (d2 : (f1 == ("__classdict__" : Str)) = false) (v0 : Vis (defScope st) "self") (v1 : Vis (defScope st) f1) : FnOk P w K mg base (L2.CX P w) 1 f fd ["self", f1] (spXI C [f1]) := by
  refine F.okX S (fun vs H Q E h => ?_) (fun cdv A outer s H vs Q E hr h => ?_)
  · obtain ⟨a, us, rfl, hl, _⟩ := h
    simpa using hl
  · obtain ⟨a, us, rfl, hl, ha, k⟩ := h
    obtain ⟨y, rfl⟩ : ∃ y, us = [y] := List.length_eq_one_iff.mp hl
    rw [hb]
    refine ⟨_, pss_one (ps_ost (pv 0 (hv := v0)) (pv 1 (hv := v1) (hd := d1) (hcd := d2))), ?_⟩
    refine ⟨y, rfl, .ref a, rfl, a, C, rfl, T, n1, .inl ⟨ha, fun dx hn hne => ?_⟩⟩
    exact k dx _ hn hne (fun b o hb e => by rw [upd_ne hb, upd_ne (ne_of_none e hn)]; exact e) upd_same (by rw [upd_ne hne, upd_same]; rfl)
theorem ok_init2 {qual f1 f2 : Str} {st : Stmt} {f C : Addr} {fd : FuncData} {p1 p2 p3 p4 q1 q2 q3 q4 : Pos} (F : Fun K "__init__" qual st f fd) (S : FnScope ["self", f1, f2] ["self", f1, f2] (defScope st))
    (hb : defBody st = [.Assign [.Attribute (.Name "self" p1) f1 p2] (.Name f1 p3) p4, .Assign [.Attribute (.Name "self" q1) f2 q2] (.Name f2 q3) q4])
    (T : OexC K C) (n1 : PySem.W.findIn K (.ref C) f1 = some none) (n2 : PySem.W.findIn K (.ref C) f2 = some none) (d1 : (f1 == ("__debug__" : Str)) = false) (d2 : (f1 == ("__classdict__" : Str)) = false) (e1 : (f2 == ("__debug__" : Str)) = false) (e2 : (f2 == ("__classdict__" : Str)) = false)
    (v0 : Vis (defScope st) "self") (v1 : Vis (defScope st) f1) (v2 : Vis (defScope st) f2) : FnOk P w K mg base (L2.CX P w) 1 f fd ["self", f1, f2] (spXI C [f1, f2]) := by
  refine F.okX S (fun vs H Q E h => ?_) (fun cdv A outer s H vs Q E hr h => ?_)
  · obtain ⟨a, us, rfl, hl, _⟩ := h
    simpa using hl
  · obtain ⟨a, us, rfl, hl, ha, k⟩ := h
    obtain ⟨y, z, rfl⟩ : ∃ y z, us = [y, z] := by
      match us, hl with
      | [y, z], _ => exact ⟨y, z, rfl⟩
    rw [hb]
    refine ⟨_, pss_cons (ps_ost (pv 0 (hv := v0)) (pv 1 (hv := v1) (hd := d1) (hcd := d2))) (pss_one (ps_ost (pv 0 (hv := v0)) (pv 2 (hv := v2) (hd := e1) (hcd := e2)))), ?_⟩
    refine ⟨y, rfl, .ref a, rfl, a, C, rfl, T, n1, .inl ⟨ha, fun dx hn hne => ?_⟩⟩
    refine ⟨z, rfl, .ref a, rfl, a, C, rfl, T, n2, .inr ⟨dx, [(f1, y)], upd_same, by rw [upd_ne hne, upd_same], (by show 1 ≤ 900; decide), ?_⟩⟩
    exact k dx _ hn hne (fun b o hb e => by rw [upd_ne (ne_of_none e hn), upd_ne hb, upd_ne (ne_of_none e hn)]; exact e) (by rw [upd_ne (Ne.symm hne), upd_same]) (by rw [upd_same]; rfl)
end
section
variable {X : Cx} {C : Addr} {x : Str} {fs : List Str} {p pos : Pos} {e : Expr} {es : List Expr} {ta : TA}
/-- x(e, ..) is made, to be raised -/
theorem pmk_xc (T : Xc X.prog X.w X.K X.mg X.base x fs C) (hr : Room 2 X.A) (ha : PA X (e :: es) ta) (hg : Gl X x := by rfl)
    (hdb : (x == ("__debug__" : Str)) = false := by decide) (he : starEach (e :: es) X.env = (false, eval e X.env) :: starEach es X.env := by rfl) (hpl : (backTo pos (starEach es X.env)).any (·.1) = false := by rfl) :
    PMk X (.Call (.Name x p) (e :: es) [] pos) (tMkO C (spXI C fs) [] ta) := by
  obtain ⟨fI, fd, iC, tI, F1, hb⟩ := T.ini
  exact pmk_oex T.T iC tI F1 hr hb .nil (fun _ _ _ _ _ _ I h => passL _ _ _ _ _ _ I h) hg T.g ha hdb he hpl
/-- raise x(e, ..) -/
def tRz (C : Addr) (fs : List Str) (W : WX) (ta : TA) : TS := fun _ σ H => tMkO C (spXI C fs) [] ta σ H fun cls d H' => W cls d σ H'
theorem ps_rz {W : WX} {pos2 : Pos} (hc : X.calm = true) (T : Xc X.prog X.w X.K X.mg X.base x fs C) (hr : Room 2 X.A) (tk : Takes X W) (ha : PA X (e :: es) ta) (hg : Gl X x := by rfl)
    (hdb : (x == ("__debug__" : Str)) = false := by decide) (he : starEach (e :: es) X.env = (false, eval e X.env) :: starEach es X.env := by rfl) (hpl : (backTo pos (starEach es X.env)).any (·.1) = false := by rfl) :
    PS X (.Raise (some (.Call (.Name x p) (e :: es) [] pos)) none pos2) (tRz C fs W ta) := ps_raise hc tk (pmk_xc T hr ha hg hdb he hpl)
def mkB (C : Addr) (fs : List Str) (us : List V) (H1 : Hp) (Q : XK) : Prop := us.length ≤ 1000 ∧ ∀ a, H1 a = none → spXI C fs (.ref a :: (us ++ [])) (upd H1 a (exo a C none)) (fun v H2 => v = .non ∧ ∃ (d : Addr) (fs : List (Str × V)), H2 a = some (exo a C (some d)) ∧ H2 d = some (exd d fs) ∧ H1 d = none ∧ Q (.ref C) (some d) (upd (del H2 a) d (.xd fs))) (fun _ _ _ => False)
theorem q_rz {W : WX} {D : Ends} {σ : L2.St} {H : Hp} (h : ta σ H fun us H1 => mkB C fs us H1 fun cls d H' => W cls d σ H') : tRz C fs W ta D σ H := h
theorem q_mk {us : List V} {H1 : Hp} {Q : XK} (h1 : us.length = fs.length) (k : ∀ d H', Same H1 H' → H1 d = none → H' d = some (.xd (fs.zip us).reverse) → Q (.ref C) (some d) H') (h2 : fs.length ≤ 1000 := by decide) : mkB C fs us H1 Q := by
  refine ⟨by rw [h1]; exact h2, fun a na => ?_⟩
  refine ⟨a, us, by rw [List.append_nil], h1, upd_same, fun dx H' hn hne hk ha hd => ?_⟩
  rw [upd_ne hne] at hn
  refine ⟨rfl, dx, _, ha, hd, hn, ?_⟩
  refine k dx _ (fun b o e => ?_) hn upd_same
  have hba : b ≠ a := ne_of_none e na
  rw [upd_ne (ne_of_none e hn), del_ne hba]
  exact hk b o hba (by rw [upd_ne hba]; exact e)
end
end TU

set_option Elab.async false
set_option linter.all false
set_option maxRecDepth 100000
namespace TU
open PySem PySem.Spec PyProof.Rows L2

section
variable {K : PySem.W.Frag} {σ : L2.St} {H H1 : Hp} {Q : VK} {te tk tv : TE} {g : TG} {tt : TT} {sl : List Nat} {wi : TI} {J : It} {n : Nat} {G : Hp → Prop} {Y : Nat → Hp → V → Hp → Prop} {d : Addr}
/-- the turns of a dict comprehension -/
def dcB (J : It) (g : TG) (tt : TT) (tk tv : TE) (sl : List Nat) (σ : L2.St) (H1 : Hp) (d : Addr) (Q : VK) : Prop := ∃ W : Nat → Nat → Hp → Prop, (∃ m, W 0 m (upd H1 d (.dK []))) ∧ ∀ i m H, W i m H →
  (J.stop i H ∧ Q (.ref d) H) ∨ (J.go i H ∧ ∃ Nx : Hp → Prop, (∀ H', Nx H' → ∃ m', m' < m ∧ W (i + 1) m' H') ∧ ∀ x H', J.yld i H x H' → g x (wipe σ sl) H' fun σ2 H2 => wipe σ2 sl = wipe σ sl ∧ tt σ2 H2 fun b H3 =>
    if b = true then tk σ2 H3 fun y H4 => tv σ2 H4 fun z H5 => ∃ kvs k, y = kV k ∧ H5 d = some (.dK kvs) ∧ kvs.length < sizeLine ∧ Nx (upd H5 d (.dK (putK kvs k z))) else Nx H3)
theorem q_dc (h : wi σ H fun J H1 => ∀ d, H1 d = none → dcB J g tt tk tv sl σ H1 d Q) : tDc wi g tt tk tv sl σ H Q := h
theorem dc_any (w : Walk J n G Y) (Pv : Nat → Hp → Prop) (h0 : Pv 0 (upd H1 d (.dK []))) (hG : ∀ i H, i ≤ n → Pv i H → G H)
    (hs : ∀ i x H H', i < n → Pv i H → Y i H x H' → g x (wipe σ sl) H' fun σ2 H2 => wipe σ2 sl = wipe σ sl ∧ tt σ2 H2 fun b H3 =>
      if b = true then tk σ2 H3 fun y H4 => tv σ2 H4 fun z H5 => ∃ kvs k, y = kV k ∧ H5 d = some (.dK kvs) ∧ kvs.length < sizeLine ∧ Pv (i + 1) (upd H5 d (.dK (putK kvs k z))) else Pv (i + 1) H3) (hd : ∀ H, Pv n H → Q (.ref d) H) : dcB J g tt tk tv sl σ H1 d Q := by
  refine ⟨fun i m H => m + i = n ∧ Pv i H, ⟨n, Nat.add_zero n, h0⟩, fun i m H p => ?_⟩
  obtain ⟨e, p⟩ := p
  have hi : i ≤ n := by omega
  have q := hG i H hi p
  rcases Nat.lt_or_ge i n with lt | ge
  · exact .inr ⟨w.goes i H lt q, Pv (i + 1), fun H' p' => ⟨m - 1, by omega, by omega, p'⟩, fun x H' y => hs i x H H' lt p (w.yields i H x H' lt q y)⟩
  · obtain rfl : i = n := Nat.le_antisymm hi ge
    exact .inl ⟨w.stops H q, hd H p⟩
/-- the turns of a list comprehension -/
def lcB (J : It) (g : TG) (tt : TT) (te : TE) (sl : List Nat) (σ : L2.St) (H1 : Hp) (d : Addr) (Q : VK) : Prop := ∃ W : Nat → Nat → Hp → Prop, (∃ m, W 0 m (upd H1 d (.lst []))) ∧ ∀ i m H, W i m H →
  (J.stop i H ∧ Q (.ref d) H) ∨ (J.go i H ∧ ∃ Nx : Hp → Prop, (∀ H', Nx H' → ∃ m', m' < m ∧ W (i + 1) m' H') ∧ ∀ x H', J.yld i H x H' → g x (wipe σ sl) H' fun σ2 H2 => wipe σ2 sl = wipe σ sl ∧ tt σ2 H2 fun b H3 =>
    if b = true then te σ2 H3 fun y H4 => ∃ acc, H4 d = some (.lst acc) ∧ acc.length < sizeLine ∧ Nx (upd H4 d (.lst (acc ++ [y]))) else Nx H3)
theorem q_lc (h : wi σ H fun J H1 => ∀ d, H1 d = none → lcB J g tt te sl σ H1 d Q) : tLc wi g tt te sl σ H Q := h
theorem lc_any (w : Walk J n G Y) (Pv : Nat → Hp → Prop) (h0 : Pv 0 (upd H1 d (.lst []))) (hG : ∀ i H, i ≤ n → Pv i H → G H)
    (hs : ∀ i x H H', i < n → Pv i H → Y i H x H' → g x (wipe σ sl) H' fun σ2 H2 => wipe σ2 sl = wipe σ sl ∧ tt σ2 H2 fun b H3 =>
      if b = true then te σ2 H3 fun y H4 => ∃ acc, H4 d = some (.lst acc) ∧ acc.length < sizeLine ∧ Pv (i + 1) (upd H4 d (.lst (acc ++ [y]))) else Pv (i + 1) H3) (hd : ∀ H, Pv n H → Q (.ref d) H) : lcB J g tt te sl σ H1 d Q := by
  refine ⟨fun i m H => m + i = n ∧ Pv i H, ⟨n, Nat.add_zero n, h0⟩, fun i m H p => ?_⟩
  obtain ⟨e, p⟩ := p
  have hi : i ≤ n := by omega
  have q := hG i H hi p
  rcases Nat.lt_or_ge i n with lt | ge
  · exact .inr ⟨w.goes i H lt q, Pv (i + 1), fun H' p' => ⟨m - 1, by omega, by omega, p'⟩, fun x H' y => hs i x H H' lt p (w.yields i H x H' lt q y)⟩
  · obtain rfl : i = n := Nat.le_antisymm hi ge
    exact .inl ⟨w.stops H q, hd H p⟩
theorem q_yes {R : Bool → Hp → Prop} (h : R true H) : tYes σ H R := h
end
end TU

set_option Elab.async false
set_option linter.all false
set_option maxRecDepth 100000
namespace TU
open PySem PySem.Spec PyProof.Rows L2

/-- no global hides a built-in -/
structure Bt (mg : Str → Option Value) : Prop where
  b_len : mg "len" = none
  b_abs : mg "abs" = none
  b_repr : mg "repr" = none
  b_isinstance : mg "isinstance" = none
  b_sorted : mg "sorted" = none
  b_all : mg "all" = none
  b_any : mg "any" = none
  b_sum : mg "sum" = none
  b_max : mg "max" = none
  b_min : mg "min" = none
  b_range : mg "range" = none
  b_enumerate : mg "enumerate" = none
  b_zip : mg "zip" = none
  b_reversed : mg "reversed" = none
  b_int : mg "int" = none
  b_bool : mg "bool" = none
  b_str : mg "str" = none
  b_list : mg "list" = none
  b_dict : mg "dict" = none
  b_tuple : mg "tuple" = none
  b_set : mg "set" = none

section
variable {X : Cx} {e : Expr} {te : TE}
/-- a value as a test -/
def tTr (K : PySem.W.Frag) (te : TE) : TT := fun σ H Q => te σ H fun x H' => ∃ k, TruV K x H' k ∧ Q k H'
theorem pt_tr (h : PE X e te) (he : ∀ whole, isTrue e X.env whole = (do let v ← whole; standAt e.pos; holding [v] (truthy v)) := by intro _; rfl) : PT X e (tTr X.K te) := pt_truth h he
theorem q_tr {K : PySem.W.Frag} {σ : L2.St} {H : Hp} {R : Bool → Hp → Prop} (h : te σ H fun x H' => ∃ k, TruV K x H' k ∧ R k H') : tTr K te σ H R := h
theorem q_trB {K : PySem.W.Frag} {H : Hp} {b : Bool} {R : Bool → Prop} (h : R b) : ∃ k, TruV K (.bl b) H k ∧ R k := ⟨b, rfl, h⟩
theorem q_trI {K : PySem.W.Frag} {H : Hp} {i : Int} {R : Bool → Prop} (h : R (i != 0)) : ∃ k, TruV K (.int i) H k ∧ R k := ⟨_, rfl, h⟩
theorem q_trL {K : PySem.W.Frag} {H : Hp} {a : Addr} {xs : List V} {R : Bool → Prop} (hs : SqL K H a xs) (h : R (!xs.isEmpty)) : ∃ k, TruV K (.ref a) H k ∧ R k := ⟨_, .inl ⟨xs, hs, rfl⟩, h⟩
theorem q_trT {K : PySem.W.Frag} {H : Hp} {a : Addr} {xs : List V} {R : Bool → Prop} (hs : SqT K H a xs) (h : R (!xs.isEmpty)) : ∃ k, TruV K (.ref a) H k ∧ R k := ⟨_, .inr (.inl ⟨xs, hs, rfl⟩), h⟩
end

/-! ### texts in order -/
def ltS (a b : Str) : Bool := ltCps a.cps.toList b.cps.toList
theorem ltS_iff {a b : Str} : ltS a b = true ↔ a.cps.toList < b.cps.toList := by
  unfold ltS
  rw [ltCps_eq]
  simp
theorem ltS_tri {a b : Str} (h1 : ltS a b = false) (h2 : ltS b a = false) : a = b := by
  have g1 : ¬ a.cps.toList < b.cps.toList := fun h => by
    rw [← ltS_iff, h1] at h
    cases h
  have g2 : ¬ b.cps.toList < a.cps.toList := fun h => by
    rw [← ltS_iff, h2] at h
    cases h
  have e : a.cps.toList = b.cps.toList := List.le_antisymm (List.not_lt.mp g2) (List.not_lt.mp g1)
  obtain ⟨⟨l⟩⟩ := a
  obtain ⟨⟨m⟩⟩ := b
  simp at e
  rw [e]
theorem ltS_irr (a : Str) : ltS a a = false := by
  cases h : ltS a a with
  | false => rfl
  | true => exact absurd (ltS_iff.mp h) (List.lt_irrefl _)
theorem ltS_trans {a b c : Str} (h1 : ltS a b = true) (h2 : ltS b c = true) : ltS a c = true := ltS_iff.mpr (List.lt_trans (ltS_iff.mp h1) (ltS_iff.mp h2))
theorem ltS_asymm {a b : Str} (h : ltS a b = true) : ltS b a = false := by
  cases q : ltS b a with
  | false => rfl
  | true =>
    have := ltS_trans h q
    rw [ltS_irr] at this
    cases this
def insS (x : Str) : List Str → List Str
  | [] => [x]
  | y :: r => if ltS y x = true then y :: insS x r else x :: y :: r
def srt : List Str → List Str
  | [] => []
  | x :: r => insS x (srt r)
abbrev Asc (l : List Str) : Prop := l.Pairwise (fun a b => ltS b a = false)
theorem insS_perm (x : Str) : ∀ l, (insS x l).Perm (x :: l)
  | [] => .refl _
  | y :: r => by
    unfold insS
    by_cases h : ltS y x = true
    · rw [if_pos h]
      exact ((insS_perm x r).cons y).trans (.swap ..)
    · rw [if_neg h]
theorem srt_perm : ∀ l, (srt l).Perm l
  | [] => .refl _
  | x :: r => (insS_perm x _).trans ((srt_perm r).cons x)
theorem le_trans' {a b c : Str} (h1 : ltS b a = false) (h2 : ltS c b = false) : ltS c a = false := by
  cases q : ltS c a with
  | false => rfl
  | true =>
    cases q1 : ltS a b with
    | true =>
      have := ltS_trans q q1
      rw [h2] at this
      cases this
    | false =>
      have e := ltS_tri h1 q1
      rw [← e, h2] at q
      cases q
theorem insS_asc (x : Str) : ∀ l, Asc l → Asc (insS x l)
  | [], _ => List.pairwise_singleton _ _
  | y :: r, h => by
    unfold insS
    have h1 := List.pairwise_cons.mp h
    by_cases hl : ltS y x = true
    · rw [if_pos hl]
      refine List.pairwise_cons.mpr ⟨fun z hz => ?_, insS_asc x r h1.2⟩
      rcases List.mem_cons.mp ((insS_perm x r).mem_iff.mp hz) with e | hz
      · rw [e]
        exact ltS_asymm hl
      · exact h1.1 z hz
    · rw [if_neg hl]
      have hl' : ltS y x = false := by simpa using hl
      refine List.pairwise_cons.mpr ⟨fun z hz => ?_, h⟩
      rcases List.mem_cons.mp hz with e | hz
      · rw [e]
        exact hl'
      · exact le_trans' hl' (h1.1 z hz)
theorem srt_asc : ∀ l, Asc (srt l)
  | [] => .nil
  | x :: r => insS_asc x _ (srt_asc r)
theorem asc_unique : ∀ {l m : List Str}, l.Perm m → Asc l → Asc m → l = m
  | [], m, p, _, _ => (List.nil_perm.mp p).symm
  | x :: l, [], p, _, _ => absurd p.symm.nil_eq (by simp)
  | x :: l, y :: m, p, h1, h2 => by
    have a1 := List.pairwise_cons.mp h1
    have a2 := List.pairwise_cons.mp h2
    have e : x = y := by
      have m1 : x ∈ y :: m := p.mem_iff.mp List.mem_cons_self
      have m2 : y ∈ x :: l := p.mem_iff.mpr List.mem_cons_self
      rcases List.mem_cons.mp m1 with e | m1
      · exact e
      · rcases List.mem_cons.mp m2 with e | m2
        · exact e.symm
        · exact ltS_tri (a2.1 x m1) (a1.1 y m2)
    subst e
    rw [asc_unique ((List.perm_cons x).mp p) a1.2 a2.2]
theorem rising_asc : ∀ (l : List Str) (p : Str), risingS p l = true → Asc (p :: l)
  | [], p, _ => List.pairwise_singleton _ _
  | x :: r, p, h => by
    have h' : (!ltCps x.cps.toList p.cps.toList && risingS x r) = true := h
    rw [Bool.and_eq_true] at h'
    have ih := rising_asc r x h'.2
    have hx : ltS x p = false := by
      have := h'.1
      unfold ltS
      simpa using this
    refine List.pairwise_cons.mpr ⟨fun z hz => ?_, ih⟩
    rcases List.mem_cons.mp hz with e | hz
    · rw [e]
      exact hx
    · exact le_trans' hx ((List.pairwise_cons.mp ih).1 z hz)
theorem sorted_asc {l : List Str} (h : sortedS l = true) : Asc l := by
  cases l with
  | nil => exact .nil
  | cons x r => exact rising_asc r x h
theorem sorted_is {l m : List Str} (p : l.Perm m) (h : sortedS l = true) : l = srt m := asc_unique (p.trans (srt_perm m).symm) (sorted_asc h) (srt_asc m)
theorem srt_of_asc {l : List Str} (h : Asc l) : srt l = l := asc_unique (srt_perm l) (srt_asc l) h
theorem srt_congr {l m : List Str} (p : l.Perm m) : srt l = srt m := asc_unique ((srt_perm l).trans (p.trans (srt_perm m).symm)) (srt_asc l) (srt_asc m)
theorem srt_srt (l : List Str) : srt (srt l) = srt l := srt_of_asc (srt_asc l)

/-- sorted(c): a dict with text keys, a list of texts, a list of ints -/
def rSortU (K : PySem.W.Frag) : List V → Hp → VK → Prop := fun xs H Q =>
  (∃ (a : Addr) (kvs : List (Key × V)) (ks : List Str), xs = [.ref a] ∧ Rd H a (.dK kvs) ∧ kvs.map (·.1) = ks.map Sum.inr ∧ ks.length < 64 ∧ ∀ ys p, ys.Perm ks → sortedS ys = true → H p = none → Q (.ref p) (upd H p (.lst (ys.map V.str)))) ∨
  rSortedS K xs H Q ∨ rSortedI K xs H Q
theorem call_sortU {X : Cx} (hc : X.calm = true) : CallR X (.builtin "sorted") (rSortU X.K) := (call_sortedD hc).or (cr_sortedS.or cr_sortedI)
theorem q_sortD {K : PySem.W.Frag} {H : Hp} {Q : VK} {a : Addr} {kvs : List (Key × V)} {ks : List Str} (h : Rd H a (.dK kvs)) (e : kvs.map (·.1) = ks.map Sum.inr) (hl : ks.length < 64) (q : ∀ p, H p = none → Q (.ref p) (upd H p (.lst ((srt ks).map V.str)))) :
    rSortU K [.ref a] H Q := .inl ⟨a, kvs, ks, rfl, h, e, hl, fun ys p pm so hp => by
  rw [sorted_is pm so]
  exact q p hp⟩
theorem q_sortS {K : PySem.W.Frag} {H : Hp} {Q : VK} {a : Addr} {ks : List Str} (h : SqL K H a (ks.map V.str)) (hl : ks.length < 64) (q : ∀ p, H p = none → Q (.ref p) (upd H p (.lst ((srt ks).map V.str)))) :
    rSortU K [.ref a] H Q := .inr (.inl ⟨a, ks, rfl, h, hl, fun ys p pm so hp => by
  rw [sorted_is pm so]
  exact q p hp⟩)
end TU

set_option Elab.async false
set_option linter.all false
set_option maxRecDepth 100000
namespace TU
open PySem PySem.Spec PyProof.Rows L2

/-! ### lists of pairs with text keys -/
section
variable {β γ : Type}
def lk : List (Str × β) → Str → Option β
  | [], _ => none
  | p :: r, k => if p.1 = k then some p.2 else lk r k
def put : List (Str × β) → Str → β → List (Str × β)
  | [], k, v => [(k, v)]
  | p :: r, k, v => if p.1 = k then (p.1, v) :: r else p :: put r k v
def del : List (Str × β) → Str → List (Str × β)
  | [], _ => []
  | p :: r, k => if p.1 = k then r else p :: del r k
def nms (l : List (Str × β)) : List Str := l.map (·.1)
theorem nms_nil : nms ([] : List (Str × β)) = [] := rfl
theorem nms_cons (p : Str × β) (r : List (Str × β)) : nms (p :: r) = p.1 :: nms r := rfl
theorem nms_len (l : List (Str × β)) : (nms l).length = l.length := List.length_map _
theorem nd_cons {p : Str × β} {r : List (Str × β)} (h : (nms (p :: r)).Nodup) : p.1 ∉ nms r ∧ (nms r).Nodup := List.nodup_cons.mp h
theorem mem_nms {p : Str × β} {l : List (Str × β)} (h : p ∈ l) : p.1 ∈ nms l := List.mem_map.mpr ⟨p, h, rfl⟩
theorem lk_cons (p : Str × β) (r : List (Str × β)) (k : Str) : lk (p :: r) k = if p.1 = k then some p.2 else lk r k := rfl
theorem lk_none {l : List (Str × β)} {k : Str} : lk l k = none ↔ k ∉ nms l := by
  induction l with
  | nil => simp [lk, nms_nil]
  | cons p r ih =>
    rw [lk_cons, nms_cons]
    by_cases e : p.1 = k
    · rw [if_pos e]
      simp [e]
    · rw [if_neg e, ih]
      have e' : ¬ k = p.1 := fun z => e z.symm
      simp [e']
theorem lk_mem {l : List (Str × β)} {k : Str} {v : β} (h : lk l k = some v) : (k, v) ∈ l := by
  induction l with
  | nil => cases h
  | cons p r ih =>
    unfold lk at h
    by_cases e : p.1 = k
    · rw [if_pos e] at h
      cases h
      subst e
      exact List.mem_cons_self
    · rw [if_neg e] at h
      exact List.mem_cons_of_mem _ (ih h)
theorem lk_of_mem {l : List (Str × β)} (nd : (nms l).Nodup) {k : Str} {v : β} (h : (k, v) ∈ l) : lk l k = some v := by
  induction l with
  | nil => cases h
  | cons p r ih =>
    have nd' := nd_cons nd
    unfold lk
    rcases List.mem_cons.mp h with e | h
    · rw [← e, if_pos rfl]
    · have hk : k ∈ nms r := mem_nms h
      have e : ¬ p.1 = k := fun z => nd'.1 (by rw [z]; exact hk)
      rw [if_neg e]
      exact ih nd'.2 h
theorem lk_put (l : List (Str × β)) (k : Str) (v : β) (x : Str) : lk (put l k v) x = if x = k then some v else lk l x := by
  induction l with
  | nil =>
    by_cases e : k = x
    · simp [put, lk, e]
    · have e' : ¬ x = k := fun z => e z.symm
      simp [put, lk, e, e']
  | cons p r ih =>
    unfold put
    by_cases e : p.1 = k
    · rw [if_pos e]
      by_cases ex : x = k
      · simp [lk, e, ex]
      · have e2 : ¬ p.1 = x := fun z => ex (by rw [← z, e])
        simp [lk, e2, ex]
    · rw [if_neg e]
      by_cases ex : p.1 = x
      · have e2 : ¬ x = k := fun z => e (by rw [ex, z])
        simp [lk, ex, e2]
      · simp only [lk, if_neg ex]
        exact ih
theorem lk_del {l : List (Str × β)} (nd : (nms l).Nodup) (k x : Str) : lk (del l k) x = if x = k then none else lk l x := by
  induction l with
  | nil => simp [del, lk]
  | cons p r ih =>
    have nd' := nd_cons nd
    unfold del
    by_cases e : p.1 = k
    · rw [if_pos e]
      by_cases ex : x = k
      · rw [if_pos ex, lk_none, ex, ← e]
        exact nd'.1
      · have e2 : ¬ p.1 = x := fun z => ex (by rw [← z, e])
        rw [if_neg ex]
        simp only [lk, if_neg e2]
    · rw [if_neg e]
      by_cases ex : p.1 = x
      · have e2 : ¬ x = k := fun z => e (by rw [ex, z])
        simp [lk, ex, e2]
      · simp only [lk, if_neg ex]
        exact ih nd'.2
theorem nms_put (l : List (Str × β)) (k : Str) (v : β) : nms (put l k v) = if k ∈ nms l then nms l else nms l ++ [k] := by
  induction l with
  | nil => simp [put, nms_nil, nms_cons]
  | cons p r ih =>
    unfold put
    by_cases e : p.1 = k
    · simp [e, nms_cons]
    · have e' : ¬ k = p.1 := fun z => e z.symm
      rw [if_neg e]
      simp only [nms_cons, List.mem_cons]
      rw [ih]
      by_cases m : k ∈ nms r
      · rw [if_pos m, if_pos (.inr m)]
      · rw [if_neg m, if_neg (by simp [e', m])]
        rfl
theorem nms_del (l : List (Str × β)) (k : Str) : nms (del l k) = (nms l).erase k := by
  induction l with
  | nil => rfl
  | cons p r ih =>
    unfold del
    by_cases e : p.1 = k
    · rw [if_pos e, nms_cons, e, List.erase_cons_head]
    · rw [if_neg e, nms_cons, nms_cons, List.erase_cons_tail (by simpa using e)]
      rw [ih]
theorem nd_put {l : List (Str × β)} (nd : (nms l).Nodup) (k : Str) (v : β) : (nms (put l k v)).Nodup := by
  rw [nms_put]
  by_cases m : k ∈ nms l
  · rw [if_pos m]
    exact nd
  · rw [if_neg m]
    exact List.nodup_append.mpr ⟨nd, by simp, fun a ha b hb e => m (by
      rw [List.mem_singleton] at hb
      rw [← hb, ← e]
      exact ha)⟩
theorem nd_del {l : List (Str × β)} (nd : (nms l).Nodup) (k : Str) : (nms (del l k)).Nodup := by
  rw [nms_del]
  exact nd.erase k
theorem len_put_le (l : List (Str × β)) (k : Str) (v : β) : (put l k v).length ≤ l.length + 1 := by
  induction l with
  | nil => exact Nat.le_refl _
  | cons p r ih =>
    unfold put
    by_cases e : p.1 = k
    · rw [if_pos e]
      exact Nat.le_succ _
    · rw [if_neg e, List.length_cons, List.length_cons]
      omega
theorem len_del_le (l : List (Str × β)) (k : Str) : (del l k).length ≤ l.length := by
  induction l with
  | nil => exact Nat.le_refl _
  | cons p r ih =>
    unfold del
    by_cases e : p.1 = k
    · rw [if_pos e]
      exact Nat.le_succ _
    · rw [if_neg e, List.length_cons, List.length_cons]
      omega
/-- in the order of the names -/
def ord [Inhabited β] (l : List (Str × β)) : List (Str × β) := (srt (nms l)).map fun n => (n, (lk l n).getD default)
theorem nms_ord [Inhabited β] (l : List (Str × β)) : nms (ord l) = srt (nms l) := by
  unfold ord
  unfold nms
  rw [List.map_map]
  exact (List.map_congr_left fun _ _ => rfl).trans (List.map_id _)
theorem nd_ord [Inhabited β] {l : List (Str × β)} (nd : (nms l).Nodup) : (nms (ord l)).Nodup := by
  rw [nms_ord]
  exact (srt_perm _).nodup_iff.mpr nd
theorem lk_map [Inhabited β] (l : List (Str × β)) : ∀ (ns : List Str) (x : Str), lk (ns.map fun n => (n, (lk l n).getD default)) x = if x ∈ ns then some ((lk l x).getD default) else none
  | [], x => by simp [lk]
  | n :: ns, x => by
    rw [List.map_cons, lk_cons]
    by_cases e : n = x
    · subst e
      rw [if_pos rfl, if_pos List.mem_cons_self]
    · have e' : ¬ x = n := fun z => e z.symm
      rw [if_neg e, lk_map l ns x]
      simp [e']
theorem lk_ord [Inhabited β] (l : List (Str × β)) (x : Str) : lk (ord l) x = lk l x := by
  unfold ord
  rw [lk_map]
  by_cases m : x ∈ nms l
  · rw [if_pos ((srt_perm _).mem_iff.mpr m)]
    cases e : lk l x with
    | none => exact absurd m (lk_none.mp e)
    | some v => rfl
  · rw [if_neg (fun z => m ((srt_perm _).mem_iff.mp z))]
    exact (lk_none.mpr m).symm
theorem len_ord [Inhabited β] (l : List (Str × β)) : (ord l).length = l.length := by
  unfold ord
  rw [List.length_map, (srt_perm _).length_eq, nms_len]
/-- two lists of pairs with the same names in the same order and the same look-ups are one -/
theorem ext_lk : ∀ {l m : List (Str × β)}, (nms l).Nodup → nms l = nms m → (∀ x, lk l x = lk m x) → l = m
  | [], [], _, _, _ => rfl
  | [], _ :: _, _, h, _ => nomatch h
  | _ :: _, [], _, h, _ => nomatch h
  | p :: l, q :: m, nd, h, e => by
    obtain ⟨a, b⟩ := p
    obtain ⟨c, d⟩ := q
    have h' : a = c ∧ nms l = nms m := by simpa [nms_cons] using h
    obtain ⟨rfl, h2⟩ := h'
    have nd' := nd_cons nd
    have e1 := e a
    simp [lk] at e1
    subst e1
    rw [ext_lk nd'.2 h2 fun x => ?_]
    by_cases ex : a = x
    · subst ex
      rw [lk_none.mpr nd'.1, lk_none.mpr (by rw [← h2]; exact nd'.1)]
    · have := e x
      simpa [lk, ex] using this
theorem ord_ext [Inhabited β] {l m : List (Str × β)} (nd : (nms l).Nodup) (p : (nms l).Perm (nms m)) (e : ∀ x, lk l x = lk m x) : ord l = ord m :=
  ext_lk (nd_ord nd) (by rw [nms_ord, nms_ord, srt_congr p]) fun x => by rw [lk_ord, lk_ord, e x]
theorem ord_ord [Inhabited β] {l : List (Str × β)} (nd : (nms l).Nodup) : ord (ord l) = ord l :=
  ext_lk (nd_ord (nd_ord nd)) (by rw [nms_ord, nms_ord, srt_srt]) fun x => by rw [lk_ord]
theorem ord_perm [Inhabited β] {l m : List (Str × β)} (n1 : (nms l).Nodup) (n2 : (nms m).Nodup) (e : ∀ x, lk l x = lk m x) : ord l = ord m := by
  refine ord_ext n1 ?_ e
  refine (List.perm_ext_iff_of_nodup n1 n2).mpr fun x => ?_
  have h1 := lk_none (l := l) (k := x)
  have h2 := lk_none (l := m) (k := x)
  rw [e x] at h1
  exact Decidable.not_iff_not.mp (h1.symm.trans h2)
end

/-! ### tables and houses -/
abbrev Tab := List (Str × Tr)
abbrev Hs := List (Str × Tab)
instance : Inhabited Tr := ⟨.non⟩
def tK (t : Tab) : List (Key × Tr) := t.map fun p => (Sum.inr p.1, p.2)
def hK (h : Hs) : List (Key × Tr) := h.map fun p => (Sum.inr p.1, Tr.dic (tK p.2))
theorem inr_eq {a b : Str} : ((Sum.inr a : Key) = Sum.inr b) ↔ a = b := ⟨fun h => Sum.inr.inj h, fun h => by rw [h]⟩
theorem get_tK (t : Tab) (k : Str) : getD (tK t) (.inr k) = lk t k := by
  induction t with
  | nil => rfl
  | cons p r ih =>
    show getD ((Sum.inr p.1, p.2) :: tK r) _ = _
    rw [getD_cons, lk_cons]
    by_cases e : p.1 = k
    · rw [if_pos (inr_eq.mpr e), if_pos e]
    · rw [if_neg (fun z => e (inr_eq.mp z)), if_neg e]
      exact ih
theorem get_hK (h : Hs) (k : Str) : getD (hK h) (.inr k) = (lk h k).map fun t => Tr.dic (tK t) := by
  induction h with
  | nil => rfl
  | cons p r ih =>
    show getD ((Sum.inr p.1, Tr.dic (tK p.2)) :: hK r) _ = _
    rw [getD_cons, lk_cons]
    by_cases e : p.1 = k
    · rw [if_pos (inr_eq.mpr e), if_pos e]
      rfl
    · rw [if_neg (fun z => e (inr_eq.mp z)), if_neg e]
      exact ih
theorem putD_new {l : List (Key × Tr)} {k : Key} {v : Tr} (h : k ∉ l.map (·.1)) : putD l k v = l ++ [(k, v)] := by
  unfold putD
  rw [if_neg]
  intro z
  rw [List.any_eq_true] at z
  obtain ⟨p, hp, e⟩ := z
  exact h (List.mem_map.mpr ⟨p, hp, by simpa using e⟩)
theorem putD_cons (p : Key × Tr) (r : List (Key × Tr)) (nd : p.1 ∉ r.map (·.1)) (k : Key) (v : Tr) : putD (p :: r) k v = if p.1 = k then (p.1, v) :: r else p :: putD r k v := by
  by_cases e : p.1 = k
  · rw [if_pos e]
    unfold putD
    rw [if_pos (by rw [List.any_cons]; simp [e]), List.map_cons, if_pos e]
    have : (r.map fun kv => if kv.1 = k then (kv.1, v) else kv) = r := by
      refine (List.map_congr_left fun q hq => ?_).trans (List.map_id _)
      have : ¬ q.1 = k := fun z => nd (by rw [e, ← z]; exact List.mem_map.mpr ⟨q, hq, rfl⟩)
      rw [if_neg this]
      rfl
    rw [this]
  · rw [if_neg e]
    unfold putD
    rw [List.any_cons, decide_eq_false e, Bool.false_or]
    by_cases a : (r.any fun kv => decide (kv.1 = k)) = true
    · rw [if_pos a, if_pos a, List.map_cons, if_neg e]
    · rw [if_neg a, if_neg a]
      rfl
theorem keys_tK (t : Tab) : (tK t).map (·.1) = (nms t).map Sum.inr := by
  unfold tK nms
  rw [List.map_map, List.map_map]
  rfl
theorem keys_hK (h : Hs) : (hK h).map (·.1) = (nms h).map Sum.inr := by
  unfold hK nms
  rw [List.map_map, List.map_map]
  rfl
theorem inr_mem {k : Str} {l : List Str} : (Sum.inr k : Key) ∈ l.map Sum.inr ↔ k ∈ l := by simp
theorem put_tK {t : Tab} (nd : (nms t).Nodup) (k : Str) (v : Tr) : putD (tK t) (.inr k) v = tK (put t k v) := by
  induction t with
  | nil => rfl
  | cons p r ih =>
    have nd' := nd_cons nd
    show putD ((Sum.inr p.1, p.2) :: tK r) _ _ = _
    rw [putD_cons _ _ (by rw [keys_tK]; exact fun z => nd'.1 (inr_mem.mp z))]
    unfold put
    by_cases e : p.1 = k
    · rw [if_pos (inr_eq.mpr e), if_pos e]
      rfl
    · rw [if_neg (fun z => e (inr_eq.mp z)), if_neg e, ih nd'.2]
      rfl
theorem del_tK {t : Tab} (nd : (nms t).Nodup) (k : Str) : delD (tK t) (.inr k) = tK (del t k) := by
  induction t with
  | nil => rfl
  | cons p r ih =>
    have nd' := nd_cons nd
    unfold delD del
    show List.filter _ ((Sum.inr p.1, p.2) :: tK r) = _
    rw [List.filter_cons]
    by_cases e : p.1 = k
    · have : ¬ (decide ((Sum.inr p.1 : Key) ≠ Sum.inr k)) = true := by simp [e]
      rw [if_neg this, if_pos e, List.filter_eq_self.mpr]
      intro q hq
      have hm : q.1 ∈ (tK r).map (·.1) := List.mem_map.mpr ⟨q, hq, rfl⟩
      rw [keys_tK] at hm
      simp only [decide_eq_true_eq]
      intro z
      rw [z] at hm
      exact nd'.1 (by rw [e]; exact inr_mem.mp hm)
    · have : (decide ((Sum.inr p.1 : Key) ≠ Sum.inr k)) = true := by simp [e]
      rw [if_pos this, if_neg e]
      have ih' := ih nd'.2
      unfold delD at ih'
      rw [ih']
      rfl
end TU

set_option Elab.async false
set_option linter.all false
set_option maxRecDepth 100000
namespace TU
open PySem PySem.Spec PyProof.Rows L2

mutual
/-- neither a list nor a dict within -/
def imm : Tr → Bool
  | .lst _ => false
  | .dic _ => false
  | .tup xs => imms xs
  | _ => true
def imms : List Tr → Bool
  | [] => true
  | x :: xs => imm x && imms xs
end
abbrev ff : Addr → Prop := fun _ => False
section
variable {K : PySem.W.Frag} {H H' : Hp} {P P' W N : Addr → Prop}
mutual
theorem T.imm : ∀ {v : V} {d : Tr}, TU.imm d = true → T K H P v d → T K H P' v d
  | _, _, _, .non => .non
  | _, _, _, .bl b => .bl b
  | _, _, _, .int i => .int i
  | _, _, _, .str x => .str x
  | _, _, h, .lst _ _ _ => by simp [TU.imm] at h
  | _, _, h, .tup s t => .tup s (Ts.imm (by simpa [TU.imm] using h) t)
  | _, _, h, .dic _ _ _ => by simp [TU.imm] at h
theorem Ts.imm : ∀ {v : List V} {d : List Tr}, TU.imms d = true → Ts K H P v d → Ts K H P' v d
  | _, _, _, .nil => .nil
  | _, _, h, .cons a b => by
    simp only [TU.imms, Bool.and_eq_true] at h
    exact .cons (T.imm h.1 a) (Ts.imm h.2 b)
end
mutual
theorem nod_of_imm : ∀ {d : Tr}, TU.imm d = true → nod d = true
  | .non, _ => rfl
  | .bl _, _ => rfl
  | .int _, _ => rfl
  | .str _, _ => rfl
  | .lst _, h => by simp [TU.imm] at h
  | .tup xs, h => by
    have h' : TU.imms xs = true := by simpa [TU.imm] using h
    simp only [nod]
    exact nods_of_imms h'
  | .dic _, h => by simp [TU.imm] at h
theorem nods_of_imms : ∀ {d : List Tr}, TU.imms d = true → nods d = true
  | [], _ => rfl
  | x :: xs, h => by
    have h' : TU.imm x = true ∧ TU.imms xs = true := by simpa [TU.imms] using h
    simp only [nods, nod_of_imm h'.1, nods_of_imms h'.2, Bool.and_self]
end
mutual
theorem nol_of_imm : ∀ {d : Tr}, TU.imm d = true → nol d = true
  | .non, _ => rfl
  | .bl _, _ => rfl
  | .int _, _ => rfl
  | .str _, _ => rfl
  | .lst _, h => by simp [TU.imm] at h
  | .tup xs, h => by
    have h' : TU.imms xs = true := by simpa [TU.imm] using h
    simp only [nol]
    exact nols_of_imms h'
  | .dic _, h => by simp [TU.imm] at h
theorem nols_of_imms : ∀ {d : List Tr}, TU.imms d = true → nols d = true
  | [], _ => rfl
  | x :: xs, h => by
    have h' : TU.imm x = true ∧ TU.imms xs = true := by simpa [TU.imms] using h
    simp only [nols, nol_of_imm h'.1, nols_of_imms h'.2, Bool.and_self]
end
def immT (t : Tab) : Prop := ∀ p ∈ t, imm p.2 = true
theorem Tk.imm : ∀ {es : List (Key × V)} {t : Tab}, immT t → Tk K H P es (tK t) → Tk K H P' es (tK t)
  | es, [], _, h => by
    cases h
    exact .nil
  | es, p :: t, hi, h => by
    have h' : Tk K H P es ((Sum.inr p.1, p.2) :: tK t) := h
    cases h' with
    | cons a b => exact .cons (a.imm (hi p List.mem_cons_self)) (Tk.imm (fun q hq => hi q (List.mem_cons_of_mem _ hq)) b)

/-- a table of a house that is read -/
theorem T.dicAt {v : V} {es : List (Key × Tr)} (h : T K H P v (.dic es)) : ∃ a kvs, v = .ref a ∧ P a ∧ Rd H a (.dK kvs) ∧ Tk K H P kvs es := by
  cases h with
  | dic p r t => exact ⟨_, _, rfl, p, r, t⟩
theorem T.tab {kvs : List (Key × V)} {h : Hs} {k : Str} {t : Tab} (tk : Tk K H P kvs (hK h)) (e : lk h k = some t) : ∃ q es, valV kvs (.inr k) = some (.ref q) ∧ P q ∧ Rd H q (.dK es) ∧ Tk K H P es (tK t) := by
  obtain ⟨v, h1, h2⟩ := tk.gets (k := .inr k) (d := .dic (tK t)) (by rw [get_hK, e]; rfl)
  obtain ⟨q, es, rfl, p, r, t⟩ := h2.dicAt
  exact ⟨q, es, h1, p, r, t⟩
theorem T.ntab {kvs : List (Key × V)} {h : Hs} {k : Str} (tk : Tk K H P kvs (hK h)) (e : lk h k = none) : valV kvs (.inr k) = none := tk.getn (by rw [get_hK, e]; rfl)
theorem Tk.ent {es : List (Key × V)} {t : Tab} {n : Str} {d : Tr} (tk : Tk K H P es (tK t)) (e : lk t n = some d) : ∃ v, valV es (.inr n) = some v ∧ T K H P v d := tk.gets (by rw [get_tK, e])
theorem Tk.nent {es : List (Key × V)} {t : Tab} {n : Str} (tk : Tk K H P es (tK t)) (e : lk t n = none) : valV es (.inr n) = none := tk.getn (by rw [get_tK, e])

/-! ### a house of one's own: its dicts stand apart and may be changed -/
inductive OT (K : PySem.W.Frag) (H : Hp) : Hs → List Addr → List (Key × V) → Prop
  | nil : OT K H [] [] []
  | cons {n : Str} {t : Tab} {h : Hs} {q : Addr} {qs : List Addr} {es : List (Key × V)} {kvs : List (Key × V)} : H q = some (.dK es) → Tk K H ff es (tK t) → OT K H h qs kvs → OT K H ((n, t) :: h) (q :: qs) ((.inr n, .ref q) :: kvs)
structure Own (K : PySem.W.Frag) (N : Addr → Prop) (H : Hp) (r : Addr) (h : Hs) : Prop where
  ex : ∃ qs kvs, H r = some (.dK kvs) ∧ OT K H h qs kvs ∧ (r :: qs).Nodup ∧ ∀ q ∈ r :: qs, N q
theorem OT.keep (k : Keeps W H H') (nt : ∀ a xs, W a → ¬ Rd H a (.tup xs)) : ∀ {h : Hs} {qs : List Addr} {kvs : List (Key × V)}, (∀ q ∈ qs, ¬ W q) → OT K H h qs kvs → OT K H' h qs kvs
  | _, _, _, _, .nil => .nil
  | _, _, _, hq, .cons e t r => .cons (k _ _ (hq _ List.mem_cons_self) e) (t.keep k nt fun _ z => z.elim) (OT.keep k nt (fun q m => hq q (List.mem_cons_of_mem _ m)) r)
theorem Own.keep {r : Addr} {h : Hs} (o : Own K N H r h) (k : Keeps W H H') (nt : ∀ a xs, W a → ¬ Rd H a (.tup xs)) (hN : ∀ a, N a → ¬ W a) : Own K N H' r h := by
  obtain ⟨qs, kvs, h1, h2, h3, h4⟩ := o.ex
  exact ⟨qs, kvs, k _ _ (hN r (h4 r List.mem_cons_self)) h1, h2.keep k nt fun q m => hN q (h4 q (List.mem_cons_of_mem _ m)), h3, h4⟩
theorem Own.mono {r : Addr} {h : Hs} (o : Own K N H r h) (s : Same H H') : Own K N H' r h := o.keep (W := ff) (.of_same s) (fun _ _ z => z.elim) fun _ _ z => z
theorem Own.imp {N' : Addr → Prop} {r : Addr} {h : Hs} (o : Own K N H r h) (i : ∀ a, N a → N' a) : Own K N' H r h := by
  obtain ⟨qs, kvs, h1, h2, h3, h4⟩ := o.ex
  exact ⟨qs, kvs, h1, h2, h3, fun q m => i q (h4 q m)⟩
theorem OT.tk : ∀ {h : Hs} {qs : List Addr} {kvs : List (Key × V)}, (∀ q ∈ qs, N q) → OT K H h qs kvs → Tk K H N kvs (hK h)
  | _, _, _, _, .nil => .nil
  | _, _, _, hq, .cons e t r => .cons (.dic (hq _ List.mem_cons_self) (.inl e) (t.imp fun _ z => z.elim)) (OT.tk (fun q m => hq q (List.mem_cons_of_mem _ m)) r)
theorem Own.T {r : Addr} {h : Hs} (o : Own K N H r h) : T K H N (.ref r) (.dic (hK h)) := by
  obtain ⟨qs, kvs, h1, h2, h3, h4⟩ := o.ex
  exact .dic (h4 r List.mem_cons_self) (.inl h1) (h2.tk fun q m => h4 q (List.mem_cons_of_mem _ m))
theorem OT.at : ∀ {h : Hs} {qs : List Addr} {kvs : List (Key × V)} {k : Str} {t : Tab}, OT K H h qs kvs → lk h k = some t → ∃ q es, valV kvs (.inr k) = some (.ref q) ∧ q ∈ qs ∧ H q = some (.dK es) ∧ Tk K H ff es (tK t)
  | _, _, _, _, _, .nil, e => nomatch e
  | _, _, _, k, t, .cons (n := n) (q := q) (es := es) e tk r, el => by
    rw [lk_cons] at el
    by_cases hk : n = k
    · rw [if_pos hk] at el
      cases el
      exact ⟨q, es, valV_pos (inr_eq.mpr hk), List.mem_cons_self, e, tk⟩
    · rw [if_neg hk] at el
      obtain ⟨q', es', h1, h2, h3, h4⟩ := OT.at r el
      exact ⟨q', es', by rw [valV_neg (p := (Sum.inr n, V.ref q)) (fun z => hk (inr_eq.mp z))]; exact h1, List.mem_cons_of_mem _ h2, h3, h4⟩
theorem no_tup {q : Addr} {es : List (Key × V)} (e : H q = some (.dK es)) : ∀ a xs, a = q → ¬ Rd H a (.tup xs) := nt_of e (fun _ z => nomatch z) fun _ _ z => nomatch z
theorem OT.set : ∀ {h : Hs} {qs : List Addr} {kvs : List (Key × V)} {k : Str} {t t' : Tab} {q : Addr} {es' : List (Key × V)}, OT K H h qs kvs → qs.Nodup → lk h k = some t → valV kvs (.inr k) = some (.ref q) → Tk K H ff es' (tK t') →
    OT K (upd H q (.dK es')) (put h k t') qs kvs
  | _, _, _, _, _, _, _, _, .nil, _, e, _, _ => nomatch e
  | _, _, _, k, t, t', q, es', .cons (n := n) (q := q0) (es := es) (qs := qs) e tk r, nd, el, ev, tk' => by
    have nd' := List.nodup_cons.mp nd
    rw [lk_cons] at el
    unfold put
    by_cases hk : n = k
    · rw [if_pos hk] at el ⊢
      rw [valV_pos (p := (Sum.inr n, V.ref q0)) (inr_eq.mpr hk)] at ev
      cases ev
      refine .cons upd_same (tk'.upd e (fun _ z => nomatch z) (fun _ _ z => nomatch z) fun _ z => z.elim) (r.keep keeps_upd (no_tup e) fun q m z => nd'.1 ?_)
      rw [← z]
      exact m
    · rw [if_neg hk] at el ⊢
      rw [valV_neg (p := (Sum.inr n, V.ref q0)) (fun z => hk (inr_eq.mp z))] at ev
      obtain ⟨q', es2, h1, h2, h3, h4⟩ := r.at el
      rw [ev] at h1
      cases h1
      have ne : q0 ≠ q := fun z => nd'.1 (by rw [z]; exact h2)
      exact .cons (by rw [upd_ne ne]; exact e) (tk.upd h3 (fun _ z => nomatch z) (fun _ _ z => nomatch z) fun _ z => z.elim) (OT.set r nd'.2 el ev tk')
/-- a table of it, and what stands when that is changed -/
theorem Own.at {r : Addr} {h : Hs} {k : Str} {t : Tab} (o : Own K N H r h) (e : lk h k = some t) : ∃ kvs q es, H r = some (.dK kvs) ∧ valV kvs (.inr k) = some (.ref q) ∧ H q = some (.dK es) ∧ Tk K H ff es (tK t) ∧ N q ∧ N r ∧ q ≠ r ∧
    ∀ es' t', Tk K H ff es' (tK t') → Own K N (upd H q (.dK es')) r (put h k t') := by
  obtain ⟨qs, kvs, h1, h2, h3, h4⟩ := o.ex
  have nd := List.nodup_cons.mp h3
  obtain ⟨q, es, g1, g2, g3, g4⟩ := h2.at e
  have ne : q ≠ r := fun z => nd.1 (by rw [← z]; exact g2)
  exact ⟨kvs, q, es, h1, g1, g3, g4, h4 q (List.mem_cons_of_mem _ g2), h4 r List.mem_cons_self, ne, fun es' t' tk' => ⟨qs, kvs, by rw [upd_ne (Ne.symm ne)]; exact h1, h2.set nd.2 e g1 tk', h3, h4⟩⟩
theorem OT.snoc {k : Str} {q : Addr} {t : Tab} {es : List (Key × V)} : ∀ {h : Hs} {qs : List Addr} {kvs : List (Key × V)}, OT K H h qs kvs → H q = some (.dK es) → Tk K H ff es (tK t) → OT K H (h ++ [(k, t)]) (qs ++ [q]) (kvs ++ [(.inr k, .ref q)])
  | _, _, _, .nil, e, x => .cons e x .nil
  | _, _, _, .cons a b c, e, x => .cons a b (OT.snoc c e x)
theorem OT.keys : ∀ {h : Hs} {qs : List Addr} {kvs : List (Key × V)}, OT K H h qs kvs → kvs.map (·.1) = (nms h).map Sum.inr
  | _, _, _, .nil => rfl
  | _, _, _, .cons a b c => by
    rw [List.map_cons, nms_cons, List.map_cons, OT.keys c]
theorem OT.len : ∀ {h : Hs} {qs : List Addr} {kvs : List (Key × V)}, OT K H h qs kvs → kvs.length = h.length
  | _, _, _, .nil => rfl
  | _, _, _, .cons a b c => congrArg Nat.succ (OT.len c)
theorem putK_fresh {kvs : List (Key × V)} {k : Key} {v : V} (h : k ∉ kvs.map (·.1)) : putK kvs k v = kvs ++ [(k, v)] := by
  unfold putK
  rw [if_neg]
  intro z
  rw [List.any_eq_true] at z
  obtain ⟨p, hp, e⟩ := z
  exact h (List.mem_map.mpr ⟨p, hp, by simpa using e⟩)
theorem OT.mem {q : Addr} : ∀ {h : Hs} {qs : List Addr} {kvs : List (Key × V)}, OT K H h qs kvs → q ∈ qs → H q ≠ none
  | _, _, _, .cons a b c, m => by
    rcases List.mem_cons.mp m with e | m
    · rw [e, a]
      exact fun z => nomatch z
    · exact OT.mem c m
/-- a new table, made since H1 -/
theorem Own.push {H1 : Hp} {r q : Addr} {h : Hs} {k : Str} {t : Tab} {es : List (Key × V)} (o : Own K N H1 r h) (nk : k ∉ nms h) (nq : H1 q = none) (hq : N q) (s : Same H1 H) (e : H q = some (.dK es)) (tk : Tk K H ff es (tK t)) :
    ∃ kvs, H r = some (.dK kvs) ∧ kvs.length = h.length ∧ Own K N (upd H r (.dK (putK kvs (.inr k) (.ref q)))) r (h ++ [(k, t)]) := by
  obtain ⟨qs, kvs, h1, h2, h3, h4⟩ := o.ex
  have nd := List.nodup_cons.mp h3
  have hr : r ≠ q := ne_of_none h1 nq
  have e2 := s _ _ h1
  have nq' : q ∉ qs := fun m => h2.mem m nq
  refine ⟨kvs, e2, h2.len, qs ++ [q], _, upd_same, ?_, ?_, fun a m => ?_⟩
  · rw [putK_fresh (by rw [h2.keys]; exact fun z => nk (inr_mem.mp z))]
    have h2' : OT K H h qs kvs := h2.keep (W := ff) (.of_same s) (fun _ _ z => z.elim) fun _ _ z => z
    refine (h2'.snoc (k := k) e tk).keep keeps_upd (no_tup e2) fun a m z => ?_
    rw [z] at m
    rcases List.mem_append.mp m with m | m
    · exact nd.1 m
    · exact hr (List.mem_singleton.mp m)
  · refine List.nodup_cons.mpr ⟨fun m => ?_, List.nodup_append.mpr ⟨nd.2, by simp, fun a ha b hb e => nq' (by
      rw [List.mem_singleton] at hb
      rw [← hb, ← e]
      exact ha)⟩⟩
    rcases List.mem_append.mp m with m | m
    · exact nd.1 m
    · exact hr (List.mem_singleton.mp m)
  · rcases List.mem_cons.mp m with e | m
    · rw [e]
      exact h4 r List.mem_cons_self
    · rcases List.mem_append.mp m with m | m
      · exact h4 a (List.mem_cons_of_mem _ m)
      · rw [List.mem_singleton.mp m]
        exact hq
theorem Own.nil {r : Addr} (e : H r = some (.dK [])) (n : N r) : Own K N H r [] := ⟨[], [], e, .nil, by simp, fun q m => by
  rw [List.mem_singleton.mp m]
  exact n⟩
end

/-! ### edits -/
inductive Ed where
  | put (key name : Str) (e : Tr)
  | drop (key name : Str)
def Ed.key : Ed → Str
  | .put k _ _ => k
  | .drop k _ => k
def Ed.name : Ed → Str
  | .put _ n _ => n
  | .drop _ n => n
def Ed.tr : Ed → Tr
  | .put k n e => .tup [.str "put", .str k, .str n, e]
  | .drop k n => .tup [.str "drop", .str k, .str n]
def Ed.Imm : Ed → Prop
  | .put _ _ e => imm e = true
  | .drop _ _ => True
/-- the house behind one edit, or the two words of the error -/
def app1 (h : Hs) (e : Ed) : Except (Str × Str) Hs :=
  match lk h e.key with
  | none => .error ("table", e.key)
  | some t => match e with
    | .put k n v => .ok (TU.put h k (TU.put t n v))
    | .drop k n => if n ∈ nms t then .ok (TU.put h k (TU.del t n)) else .error (k, n)
def eb {α β : Type} : Except (Str × Str) α → (α → Except (Str × Str) β) → Except (Str × Str) β
  | .ok a, f => f a
  | .error x, _ => .error x
def appAll : Hs → List Ed → Except (Str × Str) Hs
  | h, [] => .ok h
  | h, e :: es => eb (app1 h e) fun h' => appAll h' es
def cpH (h : Hs) : Hs := h.map fun p => (p.1, ord p.2)
/-- names stand once, entries hold no lists and no dicts -/
structure Wf (h : Hs) : Prop where
  nd : (nms h).Nodup
  tab : ∀ p ∈ h, (nms p.2).Nodup ∧ immT p.2
def Fits (n : Nat) (h : Hs) : Prop := ∀ p ∈ h, p.2.length ≤ n
end TU

set_option Elab.async false
set_option linter.all false
set_option maxRecDepth 100000
namespace TU
open PySem PySem.Spec PyProof.Rows L2
section
variable {K : PySem.W.Frag} {H H' : Hp} {P P' W N : Addr → Prop} {a : Addr} {xs : List V}
theorem Sm.sqT (s : Same H H') (h : SqT K H a xs) : SqT K H' a xs := sqT_keep (W := ff) (.of_same s) (fun _ _ z => z.elim) h
theorem Sm.sqL (s : Same H H') (h : SqL K H a xs) : SqL K H' a xs := sqL_keep (W := ff) (.of_same s) (fun z => z) h
theorem Sm.rd {u : HO} (s : Same H H') (h : Rd H a u) : Rd H' a u := rd_keep (W := ff) (.of_same s) (fun z => z) h
theorem Sm.at {u : HO} (s : Same H H') (h : H a = some u) : H' a = some u := s _ _ h
theorem T.tupAt {v : V} {ds : List Tr} (h : T K H P v (.tup ds)) : ∃ a xs, v = .ref a ∧ SqT K H a xs ∧ Ts K H P xs ds := by
  cases h with
  | tup s t => exact ⟨_, _, rfl, s, t⟩
theorem T.lstAt {v : V} {ds : List Tr} (h : T K H P v (.lst ds)) : ∃ a xs, v = .ref a ∧ P a ∧ SqL K H a xs ∧ Ts K H P xs ds := by
  cases h with
  | lst p s t => exact ⟨_, _, rfl, p, s, t⟩
theorem T.strAt {v : V} {x : Str} (h : T K H P v (.str x)) : v = .str x := by
  cases h
  rfl
theorem T.intAt {v : V} {x : Int} (h : T K H P v (.int x)) : v = .int x := by
  cases h
  rfl
theorem T.blAt {v : V} {x : Bool} (h : T K H P v (.bl x)) : v = .bl x := by
  cases h
  rfl
theorem T.nonAt {v : V} (h : T K H P v .non) : v = .non := by
  cases h
  rfl
theorem Ts.c {vs : List V} {d : Tr} {ds : List Tr} (h : Ts K H P vs (d :: ds)) : ∃ v us, vs = v :: us ∧ T K H P v d ∧ Ts K H P us ds := by
  cases h with
  | cons a b => exact ⟨_, _, rfl, a, b⟩
theorem Ts.n {vs : List V} (h : Ts K H P vs []) : vs = [] := by
  cases h
  rfl
/-- an edit, opened -/
theorem Ed.at {v : V} {e : Ed} (h : T K H P v e.tr) : ∃ b, v = .ref b ∧ match e with
    | .put k n x => ∃ y, SqT K H b [.str "put", .str k, .str n, y] ∧ T K H P y x
    | .drop k n => SqT K H b [.str "drop", .str k, .str n] := by
  cases e with
  | put k n x =>
    obtain ⟨b, xs, rfl, s, t⟩ := h.tupAt
    obtain ⟨v1, u1, rfl, t1, t⟩ := t.c
    obtain ⟨v2, u2, rfl, t2, t⟩ := t.c
    obtain ⟨v3, u3, rfl, t3, t⟩ := t.c
    obtain ⟨v4, u4, rfl, t4, t⟩ := t.c
    cases t.n
    cases t1.strAt
    cases t2.strAt
    cases t3.strAt
    exact ⟨b, rfl, v4, s, t4⟩
  | drop k n =>
    obtain ⟨b, xs, rfl, s, t⟩ := h.tupAt
    obtain ⟨v1, u1, rfl, t1, t⟩ := t.c
    obtain ⟨v2, u2, rfl, t2, t⟩ := t.c
    obtain ⟨v3, u3, rfl, t3, t⟩ := t.c
    cases t.n
    cases t1.strAt
    cases t2.strAt
    cases t3.strAt
    exact ⟨b, rfl, s⟩
theorem sq_new {p : Addr} {o : List V} : SqL K (upd H p (.lst o)) p o := .inl (.inl upd_same)
theorem st_new {p : Addr} {o : List V} : SqT K (upd H p (.tup o)) p o := .inl (.inl upd_same)
theorem q_ixT' {v : V} {i : Int} {Q : VK} (h : SqT K H a xs) (hi : atI xs i = some v) (q : Q v H) : rIxU K (.ref a) (.int i) H Q := q_ixT h hi q
theorem q_nf {A B : Prop} (h : A) : if (!false) = true then A else B := by
  rw [if_pos (by rfl)]
  exact h
theorem q_nt {A B : Prop} (h : B) : if (!true) = true then A else B := by
  rw [if_neg (by decide)]
  exact h
theorem Same.refl' : Same H H := Same.refl H
/-! ### what is read stays where a dict is locked -/
def RS (H H' : Hp) : Prop := ∀ b u, (∀ o v, u ≠ .frz o v) → Rd H b u → Rd H' b u
theorem RS.of (s : Same H H') : RS H H' := fun b u _ h => Sm.rd s h
theorem RS.refl (H : Hp) : RS H H := fun _ _ _ h => h
theorem RS.trans {H1 : Hp} (s : RS H H1) (t : RS H1 H') : RS H H' := fun b u n h => t b u n (s b u n h)
theorem RS.sqT (s : RS H H') (h : SqT K H a xs) : SqT K H' a xs := h.imp (s _ _ fun _ _ z => nomatch z) fun z => z
theorem RS.sqL (s : RS H H') (h : SqL K H a xs) : SqL K H' a xs := h.imp (s _ _ fun _ _ z => nomatch z) fun z => z
theorem RS.dk {kvs : List (Key × V)} (s : RS H H') (h : Rd H a (.dK kvs)) : Rd H' a (.dK kvs) := s _ _ (fun _ _ z => nomatch z) h
mutual
theorem T.rs (s : RS H H') : ∀ {v : V} {d : Tr}, T K H P v d → T K H' P v d
  | _, _, .non => .non
  | _, _, .bl b => .bl b
  | _, _, .int i => .int i
  | _, _, .str x => .str x
  | _, _, .lst p h t => .lst p (s.sqL h) (Ts.rs s t)
  | _, _, .tup h t => .tup (s.sqT h) (Ts.rs s t)
  | _, _, .dic p h t => .dic p (s.dk h) (Tk.rs s t)
theorem Ts.rs (s : RS H H') : ∀ {v : List V} {d : List Tr}, Ts K H P v d → Ts K H' P v d
  | _, _, .nil => .nil
  | _, _, .cons h t => .cons (T.rs s h) (Ts.rs s t)
theorem Tk.rs (s : RS H H') : ∀ {v : List (Key × V)} {d : List (Key × Tr)}, Tk K H P v d → Tk K H' P v d
  | _, _, .nil => .nil
  | _, _, .cons h t => .cons (T.rs s h) (Tk.rs s t)
end
/-- a dict is locked while it is walked, if it is not so already -/
structure Lkd (H Hl : Hp) (a : Addr) (kvs : List (Key × V)) (od : Obj) (un : Hp → Hp) : Prop where
  at_ : Hl a = some (.frz od (.dK kvs))
  el : ∀ b, b ≠ a → Hl b = H b
  back : ∀ H', H' a = some (.frz od (.dK kvs)) → un H' a = H a
  un : ∀ H' b, b ≠ a → un H' b = H' b
  rd : Rd H a (.dK kvs)
section
variable {Hl : Hp} {kvs : List (Key × V)} {od : Obj} {un : Hp → Hp}
theorem Lkd.rs (l : Lkd H Hl a kvs od un) : RS H Hl := fun b u n h => by
  by_cases e : b = a
  · subst e
    rcases l.rd with z | ⟨o, z⟩
    · rcases h with h | ⟨o', h⟩
      · rw [z] at h
        cases h
        exact .inr ⟨od, l.at_⟩
      · rw [z] at h
        cases h
    · rcases h with h | ⟨o', h⟩
      · rw [z] at h
        cases h
        exact absurd rfl (n _ _)
      · rw [z] at h
        cases h
        exact .inr ⟨od, l.at_⟩
  · have h' : Rd Hl b u := by
      unfold Rd
      rw [l.el b e]
      exact h
    exact h'
/-- what is new at the lock is new ahead of it, and the other way round -/
theorem Lkd.new (l : Lkd H Hl a kvs od un) {b : Addr} : Hl b = none ↔ H b = none := by
  by_cases e : b = a
  · subst e
    rw [l.at_]
    rcases l.rd with z | ⟨o, z⟩ <;> simp [z]
  · rw [l.el b e]
theorem Lkd.same (l : Lkd H Hl a kvs od un) (s : Same Hl H') : Same H (un H') := fun b o e => by
  by_cases h : b = a
  · subst h
    rw [l.back _ (s _ _ l.at_)]
    exact e
  · rw [l.un _ _ h]
    exact s b o (by rw [l.el b h]; exact e)
theorem Lkd.unrs (l : Lkd H Hl a kvs od un) (e : H' a = some (.frz od (.dK kvs))) : RS H' (un H') := fun b u n h => by
  by_cases hb : b = a
  · subst hb
    rcases h with h | ⟨o', h⟩
    · rw [e] at h
      cases h
      exact absurd rfl (n _ _)
    · rw [e] at h
      cases h
      have z := l.back H' e
      rcases l.rd with r | ⟨o, r⟩
      · exact .inl (by rw [z]; exact r)
      · exact .inr ⟨o, by rw [z]; exact r⟩
  · unfold Rd
    rw [l.un _ _ hb]
    exact h
/-- the locked dict is no part of it -/
theorem Lkd.own {N : Addr → Prop} {r : Addr} {h : Hs} (l : Lkd H Hl a kvs od un) (hN : ∀ b, N b → b ≠ a) (e : H' a = some (.frz od (.dK kvs))) (o : Own K N H' r h) : Own K N (un H') r h := by
  obtain ⟨qs, kvs, h1, h2, h3, h4⟩ := o.ex
  have ot : ∀ {h : Hs} {qs : List Addr} {kvs : List (Key × V)}, (∀ q ∈ qs, N q) → OT K H' h qs kvs → OT K (un H') h qs kvs := by
    intro h qs kvs hq o
    induction o with
    | nil => exact .nil
    | cons x t r ih => exact .cons (by rw [l.un _ _ (hN _ (hq _ List.mem_cons_self))]; exact x) (t.rs (l.unrs e)) (ih fun q m => hq q (List.mem_cons_of_mem _ m))
  exact ⟨qs, kvs, by rw [l.un _ _ (hN _ (h4 r List.mem_cons_self))]; exact h1, ot (fun q m => h4 q (List.mem_cons_of_mem _ m)) h2, h3, h4⟩
theorem q_lockE {t : TE} {σ : L2.St} {Q : VK} (hr : Rd H a (.dK kvs)) (h : ∀ Hl od un (Q' : VK), Lkd H Hl a kvs od un → (∀ v H', H' a = some (.frz od (.dK kvs)) → Q v (un H') → Q' v H') → t σ Hl Q') : tLockEU t σ H Q := by
  rcases hr with e | ⟨od, e⟩
  · exact .inr ⟨a, .dK kvs, e, trivial, fun od => h _ od (fun H' => upd H' a (.dK kvs)) _ ⟨upd_same, fun b n => upd_ne n, fun _ _ => by rw [upd_same, e], fun _ b n => upd_ne n, .inl e⟩ fun v H' z q => ⟨z, q⟩⟩
  · exact .inl (h H od (fun H' => H') Q ⟨e, fun _ _ => rfl, fun _ z => by rw [z, e], fun _ _ _ => rfl, .inr ⟨od, e⟩⟩ fun v H' _ q => q)
/-- the ends ahead of a lock and within it -/
structure LkE (D D' : Ends) (a : Addr) (kvs : List (Key × V)) (od : Obj) (un : Hp → Hp) : Prop where
  nx : ∀ σ' H', H' a = some (.frz od (.dK kvs)) → D.nx σ' (un H') → D'.nx σ' H'
  rt : ∀ v H', H' a = some (.frz od (.dK kvs)) → D.rt v (un H') → D'.rt v H'
  bk : ∀ σ' H', H' a = some (.frz od (.dK kvs)) → D.bk σ' (un H') → D'.bk σ' H'
  ct : ∀ σ' H', H' a = some (.frz od (.dK kvs)) → D.ct σ' (un H') → D'.ct σ' H'
theorem q_lockS {t : TS} {D : Ends} {σ : L2.St} (hr : Rd H a (.dK kvs)) (h : ∀ Hl od un D', Lkd H Hl a kvs od un → LkE D D' a kvs od un → t D' σ Hl) : tLockU t D σ H := by
  rcases hr with e | ⟨od, e⟩
  · exact .inr ⟨a, .dK kvs, e, trivial, fun od => h _ od (fun H' => upd H' a (.dK kvs)) _ ⟨upd_same, fun b n => upd_ne n, fun _ _ => by rw [upd_same, e], fun _ b n => upd_ne n, .inl e⟩ ⟨fun _ _ z q => ⟨z, q⟩, fun _ _ z q => ⟨z, q⟩, fun _ _ z q => ⟨z, q⟩, fun _ _ z q => ⟨z, q⟩⟩⟩
  · exact .inl (h H od (fun H' => H') D ⟨e, fun _ _ => rfl, fun _ z => by rw [z, e], fun _ _ _ => rfl, .inr ⟨od, e⟩⟩ ⟨fun _ _ _ q => q, fun _ _ _ q => q, fun _ _ _ q => q, fun _ _ _ q => q⟩)
/-- its keys are walked; a list's, a tuple's items are -/
def kB (R : It → Hp → Prop) (x : V) (H1 : Hp) : Prop := ∃ d o, x = .ref d ∧ ((∃ kvs, H1 d = some (.frz o (.dK kvs)) ∧ R (Itk d o kvs) H1) ∨ ∃ kvs, H1 d = some (.frz o (.dT kvs)) ∧ R (Itkt d o kvs) H1)
def lB (K : PySem.W.Frag) (R : It → Hp → Prop) (x : V) (H1 : Hp) : Prop := ∃ a, x = .ref a ∧ (∃ xs, SqL K H1 a xs) ∧ R (Itl K a) H1
def tpB (K : PySem.W.Frag) (R : It → Hp → Prop) (x : V) (H1 : Hp) : Prop := ∃ a, x = .ref a ∧ (∃ xs, SqT K H1 a xs) ∧ R (Itt K a) H1
theorem q_keys {te : TE} {σ : L2.St} {R : It → Hp → Prop} (h : te σ H (kB R)) : iAny K te σ H R := .inr (.inr h)
theorem q_items {te : TE} {σ : L2.St} {R : It → Hp → Prop} (h : te σ H (lB K R)) : iAny K te σ H R := .inl h
theorem q_tups {te : TE} {σ : L2.St} {R : It → Hp → Prop} (h : te σ H (tpB K R)) : iAny K te σ H R := .inr (.inl h)
theorem q_keysE {x : Addr} {R : It → Hp → Prop} (e : H x = some (.frz od (.dK kvs))) (r : R (Itk x od kvs) H) : kB R (.ref x) H := ⟨x, od, rfl, .inl ⟨kvs, e, r⟩⟩
theorem q_itemsE {x : Addr} {xs : List V} {R : It → Hp → Prop} (e : SqL K H x xs) (r : R (Itl K x) H) : lB K R (.ref x) H := ⟨x, rfl, ⟨xs, e⟩, r⟩
theorem q_tupsE {x : Addr} {xs : List V} {R : It → Hp → Prop} (e : SqT K H x xs) (r : R (Itt K x) H) : tpB K R (.ref x) H := ⟨x, rfl, ⟨xs, e⟩, r⟩
end
end
end TU

set_option Elab.async false
set_option linter.all false
set_option maxRecDepth 100000
namespace TU
open PySem PySem.Spec PyProof.Rows L2
/-! ### the rules, the written part named -/
section
variable {X : Cx} {K : PySem.W.Frag}
theorem k_add (h : X.K = K) : OpR X (binaryOp .Add) (rAddU K) := h ▸ op_addU
theorem k_eq (h : X.K = K) (hu : X.A.units + 64 < cLine) : OpR X (compareOp .Eq) (rEqU K) := h ▸ op_eqU hu
theorem k_ne (h : X.K = K) (hu : X.A.units + 64 < cLine) : OpR X (compareOp .NotEq) (rNeU K) := h ▸ op_neU hu
theorem k_in (h : X.K = K) (hu : X.A.units + 64 < cLine) : OpR X (compareOp .In) (rInU false K) := h ▸ op_inU hu
theorem k_nin (h : X.K = K) (hu : X.A.units + 64 < cLine) : OpR X (compareOp .NotIn) (rInU true K) := h ▸ op_notInU hu
theorem k_ix (h : X.K = K) (hu : X.A.units + 64 < cLine) : IxR X (rIxU K) := h ▸ ix_any hu
theorem k_sl (h : X.K = K) : SlR X (rSlU K) := h ▸ sl_any
theorem k_len (h : X.K = K) : CallR X (.builtin "len") (rLenU K) := h ▸ call_lenU
theorem k_list (h : X.K = K) (hc : X.calm = true) : CallR X (.type "list") (rListU K) := h ▸ call_listU hc
theorem k_sort (h : X.K = K) (hc : X.calm = true) : CallR X (.builtin "sorted") (rSortU K) := h ▸ call_sortU hc
theorem k_isi (h : X.K = K) : CallR X (.builtin "isinstance") (rIsi K) := h ▸ call_isi
theorem k_sum (h : X.K = K) (hc : X.calm = true) : CallR X (.builtin "sum") (rSum K) := h ▸ cr_sum hc
theorem k_all (h : X.K = K) (hc : X.calm = true) : CallR X (.builtin "all") (rAll K) := h ▸ cr_all hc
theorem k_anyb (h : X.K = K) (hc : X.calm = true) : CallR X (.builtin "any") (rAny K) := h ▸ cr_any hc
theorem k_repr (h : X.K = K) (hg : X.A.guards = some []) (hu : X.A.units + 64 < cLine) : CallR X (.builtin "repr") (rReprT K) := h ▸ call_reprT hg hu
theorem k_tr {e : Expr} {te : TE} (h : X.K = K) (he : PE X e te) (hi : ∀ whole, isTrue e X.env whole = (do let v ← whole; standAt e.pos; holding [v] (truthy v)) := by intro _; rfl) : PT X e (tTr K te) := h ▸ pt_tr he hi
theorem k_walk {tg e : Expr} {te : TE} (h : X.K = K) (he : PE X e te) : PI X tg e (iAny K te) := h ▸ pi_any he
theorem k_rev {e : Expr} {te : TE} {k : Nat} {p1 p2 p3 pos : Pos} (h : X.K = K) (he : PE X e te) : PE X (.Subscript e (.Slice none none (some (.UnaryOp .USub (.Constant (.int 1) k p1) p2)) p3) pos) (tRevL K te) := h ▸ pe_revL he
theorem k_tup {es : List Expr} {k : Nat} {t : TGs} {pos : Pos} {n : Nat} (h : X.K = K) (hc : X.calm = true) (ht : PGs X es t) (hn : (assignEach es X.env).length = n := by rfl) (hst : (assignEach es X.env).findIdx? (·.1) = none := by rfl) : PG X (.Tuple es k pos) (gTup K n t) := h ▸ pg_tup hc ht hn hst
theorem k_fld {e : Expr} {f : Str} {pos : Pos} {te : TE} (h : X.K = K) (he : PE X e te) (hb : attributeBase e f X.env (eval e X.env) = eval e X.env) : PE X (.Attribute e f pos) (tFld K te f) := h ▸ pe_fld he hb
theorem k_append {o e : Expr} {to : TE} {t : TA} {apos cpos : Pos} (h : X.K = K) (ho : PE X o to) (ha : PA X [e] t)
    (hbase : attributeBase o "append" X.env (eval o X.env) = eval o X.env := by rfl)
    (hfew : ((backTo cpos (starEach [e] X.env)).all (fun x => !x.1) && (backToKw cpos (keywordEach [] X.env)).all (fun x => x.1.isSome) && decide (([e] : List Expr).length + ([] : List Keyword).length + (if ([] : List Keyword).isEmpty then 0 else 1) < 30)) = true := by rfl)
    (hline : (apos.endLine == cpos.line) = true := by rfl) (hs : starEach [e] X.env = (false, eval e X.env) :: starEach [] X.env := by rfl) (hplain : (backTo cpos (starEach [] X.env)).any (·.1) = false := by rfl) :
    PE X (.Call (.Attribute o "append" apos) [e] [] cpos) (tBM K "list" rAppend to t) := h ▸ pe_bm PySem.F.plainAttrs_list PySem.F.slot_list_append PySem.F.type_list_append mt_append ho ha hbase hfew hline hs hplain
end
end TU

set_option Elab.async false
set_option linter.all false
set_option maxRecDepth 100000
namespace TU
open PySem PySem.Spec PyProof.Rows L2
section
variable {K : PySem.W.Frag}
/-- the pairs of a table by place -/
theorem at_tK {t : Tab} {i : Nat} {n : Str} {d : Tr} (h : t[i]? = some (n, d)) : (tK t)[i]? = some (.inr n, d) := by
  unfold tK
  rw [List.getElem?_map, h]
  rfl
theorem at_hK {t : Hs} {i : Nat} {n : Str} {d : Tab} (h : t[i]? = some (n, d)) : (hK t)[i]? = some (.inr n, .dic (tK d)) := by
  unfold hK
  rw [List.getElem?_map, h]
  rfl
theorem take_more {α : Type} {l : List α} {i : Nat} {x : α} (h : l[i]? = some x) : l.take (i + 1) = l.take i ++ [x] := by
  rw [List.take_add_one, h]
  rfl
theorem mem_at {α : Type} {l : List α} {i : Nat} {x : α} (h : l[i]? = some x) : x ∈ l := List.mem_of_getElem? h
theorem nd_at {l : List Str} (nd : l.Nodup) {i : Nat} {x : Str} (h : l[i]? = some x) : x ∉ l.take i := fun m => by
  obtain ⟨j, hj, e⟩ := List.getElem_of_mem m
  have hi : i < l.length := (List.getElem?_eq_some_iff.mp h).1
  rw [List.length_take] at hj
  have e2 : l[j]? = some x := by
    rw [← e, List.getElem_take]
    exact List.getElem?_eq_getElem (by omega)
  have := List.pairwise_iff_getElem.mp nd j i (by omega) hi (by omega)
  rw [List.getElem?_eq_getElem hi] at h
  rw [List.getElem?_eq_getElem (by omega)] at e2
  exact this (by rw [Option.some.inj e2, Option.some.inj h])
theorem nms_at {β : Type} {l : List (Str × β)} {i : Nat} {n : Str} {d : β} (h : l[i]? = some (n, d)) : (nms l)[i]? = some n := by
  unfold nms
  rw [List.getElem?_map, h]
  rfl
theorem nms_take {β : Type} (l : List (Str × β)) (i : Nat) : nms (l.take i) = (nms l).take i := by
  unfold nms
  rw [List.map_take]
theorem cpH_take (h : Hs) (i : Nat) : cpH (h.take i) = (cpH h).take i := by
  unfold cpH
  rw [List.map_take]
theorem nms_cpH (h : Hs) : nms (cpH h) = nms h := by
  unfold nms cpH
  rw [List.map_map]
  rfl
theorem cpH_at {h : Hs} {i : Nat} {n : Str} {t : Tab} (e : h[i]? = some (n, t)) : (cpH h)[i]? = some (n, ord t) := by
  unfold cpH
  rw [List.getElem?_map, e]
  rfl
theorem Tk.at {H : Hp} {N : Addr → Prop} : ∀ {kvs : List (Key × V)} {es : List (Key × Tr)} {i : Nat} {k : Key} {v : V}, Tk K H N kvs es → kvs[i]? = some (k, v) → ∃ d, es[i]? = some (k, d) ∧ T K H N v d
  | _, _, _, _, _, .nil, e => by simp at e
  | _, _, 0, k, v, .cons h _, e => by
    simp at e
    obtain ⟨rfl, rfl⟩ := e
    exact ⟨_, rfl, h⟩
  | _, _, i + 1, k, v, .cons _ t, e => by
    obtain ⟨d, h1, h2⟩ := Tk.at (i := i) t (by simpa using e)
    exact ⟨d, by simpa using h1, h2⟩
theorem hK_at {h : Hs} {i : Nat} {k : Key} {d : Tr} (e : (hK h)[i]? = some (k, d)) : ∃ n t, h[i]? = some (n, t) ∧ k = .inr n ∧ d = .dic (tK t) := by
  unfold hK at e
  rw [List.getElem?_map] at e
  cases q : h[i]? with
  | none =>
    rw [q] at e
    cases e
  | some p =>
    rw [q] at e
    cases e
    exact ⟨p.1, p.2, rfl, rfl, rfl⟩
theorem srt_at {l : List Str} {j : Nat} {x : V} (e : (l.map V.str)[j]? = some x) : ∃ n, l[j]? = some n ∧ x = .str n := by
  rw [List.getElem?_map] at e
  cases q : l[j]? with
  | none =>
    rw [q] at e
    cases e
  | some n =>
    rw [q] at e
    cases e
    exact ⟨n, rfl, rfl⟩
theorem ord_at {t : Tab} {j : Nat} {n : Str} (e : (srt (nms t))[j]? = some n) : ∃ d, (ord t)[j]? = some (n, d) ∧ lk t n = some d := by
  have m : n ∈ nms t := (srt_perm _).mem_iff.mp (mem_at e)
  cases q : lk t n with
  | none => exact absurd m (lk_none.mp q)
  | some d =>
    refine ⟨d, ?_, rfl⟩
    unfold ord
    rw [List.getElem?_map, e]
    show some (n, (lk t n).getD default) = _
    rw [q]
    rfl
theorem immT_lk {t : Tab} (h : immT t) {n : Str} {d : Tr} (e : lk t n = some d) : imm d = true := h _ (lk_mem e)
theorem tK_snoc (t : Tab) (n : Str) (d : Tr) : tK (t ++ [(n, d)]) = tK t ++ [(.inr n, d)] := by
  unfold tK
  rw [List.map_append]
  rfl
theorem len_small {n : Nat} (h : n ≤ 100000) : n < sizeLine := Nat.lt_of_le_of_lt h (by decide)


/-- an Unknown with its two words -/
def XUnk (C : Addr) (what name : Str) (H : Hp) (E : XK) : Prop := ∀ d H', Same H H' → H' d = some (.xd [("name", .str name), ("what", .str what)]) → E (.ref C) (some d) H'
end
end TU

set_option Elab.async false
set_option linter.all false
set_option maxRecDepth 100000
namespace TU
open PySem PySem.Spec PyProof.Rows L2
section
variable {K : PySem.W.Frag} {H H' : Hp} {N : Addr → Prop}
theorem XUnk.mono {C : Addr} {w n : Str} {E : XK} (s : Same H H') (x : XUnk C w n H E) : XUnk C w n H' E := fun d H1 s1 e => x d H1 (s.trans s1) e
theorem Own.live {r : Addr} {h : Hs} (o : Own K N H r h) : Own K (fun b => N b ∧ H b ≠ none) H r h := by
  obtain ⟨qs, kvs, h1, h2, h3, h4⟩ := o.ex
  refine ⟨qs, kvs, h1, h2, h3, fun q m => ⟨h4 q m, ?_⟩⟩
  rcases List.mem_cons.mp m with e | m
  · rw [e, h1]
    exact fun z => nomatch z
  · exact h2.mem m
theorem appAll_cons (h : Hs) (e : Ed) (es : List Ed) : appAll h (e :: es) = eb (app1 h e) fun h' => appAll h' es := rfl
theorem appAll_append : ∀ (h : Hs) (xs ys : List Ed), appAll h (xs ++ ys) = eb (appAll h xs) fun h' => appAll h' ys
  | h, [], ys => rfl
  | h, e :: xs, ys => by
    rw [List.cons_append, appAll_cons, appAll_cons]
    cases app1 h e with
    | ok h' => exact appAll_append h' xs ys
    | error x => rfl
theorem appAll_one (h : Hs) (e : Ed) : appAll h [e] = app1 h e := by
  rw [appAll_cons]
  cases app1 h e <;> rfl
/-- the edits up to a place, and one more -/
theorem appAll_more {h hi : Hs} {es : List Ed} {i : Nat} {e : Ed} (he : es[i]? = some e) (ha : appAll h (es.take i) = .ok hi) : appAll h (es.take (i + 1)) = app1 hi e := by
  rw [take_more he, appAll_append, ha]
  exact appAll_one hi e
theorem appAll_stop {h hi : Hs} {es : List Ed} {i : Nat} {e : Ed} {x : Str × Str} (he : es[i]? = some e) (ha : appAll h (es.take i) = .ok hi) (hx : app1 hi e = .error x) : appAll h es = .error x := by
  have e1 := appAll_more he ha
  rw [hx] at e1
  have e2 := appAll_append h (es.take (i + 1)) (es.drop (i + 1))
  rw [List.take_append_drop, e1] at e2
  exact e2
theorem nms_cp (h : Hs) : nms (cpH h) = nms h := nms_cpH h
theorem immT_put {t : Tab} (h : immT t) (n : Str) {d : Tr} (hd : imm d = true) : immT (put t n d) := by
  intro p hp
  induction t with
  | nil =>
    have e : p = (n, d) := List.mem_singleton.mp hp
    rw [e]
    exact hd
  | cons q r ih =>
    unfold put at hp
    by_cases e : q.1 = n
    · rw [if_pos e] at hp
      rcases List.mem_cons.mp hp with e | m
      · rw [e]
        exact hd
      · exact h p (List.mem_cons_of_mem _ m)
    · rw [if_neg e] at hp
      rcases List.mem_cons.mp hp with e | m
      · rw [e]
        exact h q List.mem_cons_self
      · exact ih (fun x hx => h x (List.mem_cons_of_mem _ hx)) m
theorem mem_del {β : Type} {t : List (Str × β)} {n : Str} {p : Str × β} (hp : p ∈ del t n) : p ∈ t := by
  induction t with
  | nil => exact hp
  | cons q r ih =>
    unfold del at hp
    by_cases e : q.1 = n
    · rw [if_pos e] at hp
      exact List.mem_cons_of_mem _ hp
    · rw [if_neg e] at hp
      rcases List.mem_cons.mp hp with e | m
      · rw [e]
        exact List.mem_cons_self
      · exact List.mem_cons_of_mem _ (ih m)
theorem immT_del {t : Tab} (h : immT t) (n : Str) : immT (del t n) := fun p hp => h p (mem_del hp)
theorem mem_put {β : Type} {t : List (Str × β)} {n : Str} {v : β} {p : Str × β} (hp : p ∈ put t n v) : p ∈ t ∨ p = (n, v) := by
  induction t with
  | nil => exact .inr (List.mem_singleton.mp hp)
  | cons q r ih =>
    unfold put at hp
    by_cases e : q.1 = n
    · rw [if_pos e] at hp
      rcases List.mem_cons.mp hp with e2 | m
      · rw [e] at e2
        exact .inr e2
      · exact .inl (List.mem_cons_of_mem _ m)
    · rw [if_neg e] at hp
      rcases List.mem_cons.mp hp with e2 | m
      · rw [e2]
        exact .inl List.mem_cons_self
      · exact (ih m).imp (List.mem_cons_of_mem _) id
theorem immT_ord {t : Tab} (h : immT t) : immT (ord t) := by
  intro p hp
  unfold ord at hp
  obtain ⟨n, hn, rfl⟩ := List.mem_map.mp hp
  have m : n ∈ nms t := (srt_perm _).mem_iff.mp hn
  cases q : lk t n with
  | none => exact absurd m (lk_none.mp q)
  | some d => exact immT_lk h q
theorem Wf.cp {h : Hs} (w : Wf h) : Wf (cpH h) := by
  refine ⟨by rw [nms_cpH]; exact w.nd, fun p hp => ?_⟩
  obtain ⟨q, hq, rfl⟩ := List.mem_map.mp hp
  exact ⟨nd_ord (w.tab q hq).1, immT_ord (w.tab q hq).2⟩
theorem Wf.set {h : Hs} (w : Wf h) {k : Str} {t : Tab} (nd : (nms t).Nodup) (im : immT t) : Wf (put h k t) := by
  refine ⟨nd_put w.nd k t, fun p hp => ?_⟩
  rcases mem_put hp with m | e
  · exact w.tab p m
  · rw [e]
    exact ⟨nd, im⟩
theorem Fits.cp {n : Nat} {h : Hs} (f : Fits n h) : Fits n (cpH h) := fun p hp => by
  obtain ⟨q, hq, rfl⟩ := List.mem_map.mp hp
  rw [len_ord]
  exact f q hq
theorem Fits.set {n m : Nat} {h : Hs} (f : Fits n h) (hnm : n ≤ m) {k : Str} {t : Tab} (ht : t.length ≤ m) : Fits m (put h k t) := fun p hp => by
  rcases mem_put hp with x | e
  · exact Nat.le_trans (f p x) hnm
  · rw [e]
    exact ht
theorem len_cp (h : Hs) : (cpH h).length = h.length := by
  unfold cpH
  rw [List.length_map]
theorem len_put_of {β : Type} {h : List (Str × β)} {k : Str} {v : β} (m : k ∈ nms h) : (put h k v).length = h.length := by
  rw [← nms_len, nms_put, if_pos m, nms_len]
theorem nms_put_of {β : Type} {h : List (Str × β)} {k : Str} {v : β} (m : k ∈ nms h) : nms (put h k v) = nms h := by rw [nms_put, if_pos m]
/-- what one edit leaves of the shape -/
theorem app1_ok {h h' : Hs} {e : Ed} (w : Wf h) (im : e.Imm) {n : Nat} (f : Fits n h) (ha : app1 h e = .ok h') : Wf h' ∧ Fits (n + 1) h' ∧ nms h' = nms h := by
  unfold app1 at ha
  cases q : lk h e.key with
  | none =>
    rw [q] at ha
    cases ha
  | some t =>
    rw [q] at ha
    have hm := lk_mem q
    have wt := w.tab _ hm
    have ft : t.length ≤ n := f _ hm
    have hk : e.key ∈ nms h := mem_nms hm
    cases e with
    | put k m d =>
      cases ha
      have := len_put_le t m d
      exact ⟨w.set (nd_put wt.1 m d) (immT_put wt.2 m im), f.set (Nat.le_succ _) (by omega), nms_put_of hk⟩
    | drop k m =>
      by_cases hn : m ∈ nms t
      · simp only [if_pos hn] at ha
        cases ha
        have := len_del_le t m
        exact ⟨w.set (nd_del wt.1 m) (immT_del wt.2 m), f.set (Nat.le_succ _) (by omega), nms_put_of hk⟩
      · simp only [if_neg hn] at ha
        cases ha
theorem appAll_ok : ∀ {es : List Ed} {h h' : Hs} {n : Nat}, Wf h → (∀ e ∈ es, e.Imm) → Fits n h → appAll h es = .ok h' → Wf h' ∧ Fits (n + es.length) h' ∧ nms h' = nms h
  | [], h, h', n, w, im, f, ha => by
    cases ha
    exact ⟨w, f, rfl⟩
  | e :: es, h, h', n, w, im, f, ha => by
    rw [appAll_cons] at ha
    cases q : app1 h e with
    | error x =>
      rw [q] at ha
      cases ha
    | ok h1 =>
      rw [q] at ha
      obtain ⟨w1, f1, n1⟩ := app1_ok w (im e List.mem_cons_self) f q
      obtain ⟨w2, f2, n2⟩ := appAll_ok w1 (fun x hx => im x (List.mem_cons_of_mem _ hx)) f1 ha
      refine ⟨w2, ?_, n2.trans n1⟩
      rw [List.length_cons, show n + (es.length + 1) = n + 1 + es.length by omega]
      exact f2
theorem len_of_nms {h h' : Hs} (e : nms h' = nms h) : h'.length = h.length := by rw [← nms_len h', e, nms_len]
theorem Ts.gets {vs : List V} {ds : List Tr} {i : Nat} {v : V} (h : Ts K H N vs ds) (e : vs[i]? = some v) : ∃ d, ds[i]? = some d ∧ T K H N v d := h.get e
theorem map_at {α β : Type} {f : α → β} {l : List α} {i : Nat} {y : β} (e : (l.map f)[i]? = some y) : ∃ x, l[i]? = some x ∧ y = f x := by
  rw [List.getElem?_map] at e
  cases q : l[i]? with
  | none =>
    rw [q] at e
    cases e
  | some x =>
    rw [q] at e
    cases e
    exact ⟨x, rfl, rfl⟩
/-- what leads back from one edit; from a list of edits -/
def inv1 (h : Hs) (e : Ed) : Ed := match lk h e.key with
  | none => .drop e.key e.name
  | some t => match lk t e.name with
    | some d => .put e.key e.name d
    | none => .drop e.key e.name
def invs : Hs → List Ed → List Ed
  | _, [] => []
  | h, e :: es => inv1 h e :: (match app1 h e with | .ok h' => invs h' es | .error _ => [])
theorem inv1_imm {h : Hs} (w : Wf h) (e : Ed) : (inv1 h e).Imm := by
  cases q : lk h e.key with
  | none =>
    simp only [inv1, q]
    trivial
  | some t =>
    cases q2 : lk t e.name with
    | none =>
      simp only [inv1, q, q2]
      trivial
    | some d =>
      simp only [inv1, q, q2]
      exact immT_lk (w.tab _ (lk_mem q)).2 q2
theorem invs_more : ∀ {es : List Ed} {h hi : Hs} {i : Nat} {e : Ed}, es[i]? = some e → appAll h (es.take i) = .ok hi → invs h (es.take (i + 1)) = invs h (es.take i) ++ [inv1 hi e]
  | [], _, _, _, _, he, _ => by simp at he
  | x :: es, h, hi, 0, e, he, ha => by
    have e1 : x = e := by simpa using he
    have e2 : h = hi := by
      have : Except.ok h = Except.ok hi := ha
      exact Except.ok.inj this
    subst e1 e2
    show inv1 h x :: (match app1 h x with | .ok h' => invs h' [] | .error _ => []) = [inv1 h x]
    cases app1 h x <;> rfl
  | x :: es, h, hi, i + 1, e, he, ha => by
    have he' : es[i]? = some e := by simpa using he
    rw [List.take_succ_cons] at ha ⊢
    rw [List.take_succ_cons]
    rw [appAll_cons] at ha
    unfold invs
    cases q : app1 h x with
    | error z =>
      rw [q] at ha
      cases ha
    | ok h1 =>
      rw [q] at ha
      show inv1 h x :: invs h1 (es.take (i + 1)) = inv1 h x :: invs h1 (es.take i) ++ [inv1 hi e]
      rw [invs_more he' ha]
      rfl
end
section
variable {K : PySem.W.Frag} {σ : L2.St} {H : Hp} {D : Ends}
theorem q_is {α : Type} {x : α} {A B : Prop} (h : A) : if (some x).isSome = true then A else B := q_t h
theorem q_isn {α : Type} {A B : Prop} (h : B) : if (none : Option α).isSome = true then A else B := q_f h
theorem q_nis {α : Type} {x : α} {A B : Prop} (h : B) : if (!(some x).isSome) = true then A else B := q_nt h
theorem q_nisn {α : Type} {A B : Prop} (h : A) : if (!(none : Option α).isSome) = true then A else B := q_nf h
theorem q_ddel {td ty : TE} (h : td σ H fun x H1 => ty σ H1 fun y H2 => ∃ a kvs k, x = .ref a ∧ H2 a = some (.dK kvs) ∧ y = kV k ∧ (valV kvs k).isSome = true ∧ D.nx σ (upd H2 a (.dK (dropK kvs k)))) : sDDel td ty D σ H := h
theorem q_rev {te : TE} {Q : VK} (h : te σ H fun x H1 => ∃ a xs, x = .ref a ∧ SqL K H1 a xs ∧ ∀ p, H1 p = none → Q (.ref p) (upd H1 p (.lst xs.reverse))) : tRevL K te σ H Q := h
theorem Ts.rev {N : Addr → Prop} : ∀ {vs : List V} {ds : List Tr}, Ts K H N vs ds → Ts K H N vs.reverse ds.reverse
  | _, _, .nil => .nil
  | _, _, .cons h t => by
    rw [List.reverse_cons, List.reverse_cons]
    exact (Ts.rev t).append (.cons h .nil)
/-- over a list's items -/
theorem for_items {a : Addr} {xs : List V} {tb : TS} {j : Nat} (Pv : Nat → L2.St → Hp → Prop) (h0 : Pv 0 σ H) (hx : ∀ i σ H, i ≤ xs.length → Pv i σ H → SqL K H a xs)
    (hs : ∀ i x σ H, xs[i]? = some x → Pv i σ H → tb { D with nx := Pv (i + 1), ct := Pv (i + 1), bk := D.nx } (σ.set j (some x)) H) (hd : ∀ σ H, Pv xs.length σ H → D.nx σ H) : forB (Itl K a) (gName j) tb D σ H :=
  for_any walk_list Pv h0 hx (fun i x σ H H' _ p y => by
    obtain ⟨e, y⟩ := y
    subst e
    exact hs i x σ _ y p) hd
end
end TU

set_option Elab.async false
set_option linter.all false
set_option maxRecDepth 100000
namespace TU
open PySem PySem.Spec PyProof.Rows L2
section
variable {X : Cx}
def rIntU : List V → Hp → VK → Prop := fun xs H Q => (∃ i, xs = [.int i] ∧ Q (.int i) H) ∨ ∃ k, xs = [.bl k] ∧ Q (.int (if k then 1 else 0)) H
theorem k_int : CallR X (.type "int") rIntU := call_int1
def rAbsU : List V → Hp → VK → Prop := fun xs H Q => ∃ i, xs = [.int i] ∧ Q (.int (if i < 0 then -i else i)) H
theorem k_abs : CallR X (.builtin "abs") rAbsU := call_abs
end
section
variable {K : PySem.W.Frag} {σ : L2.St} {H H' : Hp} {Q : VK}
theorem q_intI {i : Int} (q : Q (.int i) H) : rIntU [.int i] H Q := .inl ⟨i, rfl, q⟩
theorem q_intB {b : Bool} (q : Q (.int (if b then 1 else 0)) H) : rIntU [.bl b] H Q := .inr ⟨b, rfl, q⟩
theorem q_abs {i : Int} (q : Q (.int (if i < 0 then -i else i)) H) : rAbsU [.int i] H Q := ⟨i, rfl, q⟩
theorem upd_self {a : Addr} {o : HO} (e : H a = some o) : upd H a o = H := by
  funext b
  by_cases h : b = a
  · rw [h, upd_same, e]
  · rw [upd_ne h]
/-- where a lies may be written; all else stays -/
def Kp (a : Addr) (H H' : Hp) : Prop := Keeps (fun b => b = a) H H'
theorem Kp.refl {a : Addr} : Kp a H H := fun _ _ _ e => e
theorem Kp.trans {a : Addr} {H1 : Hp} (x : Kp a H H1) (y : Kp a H1 H') : Kp a H H' := fun b o n e => y b o n (x b o n e)
theorem Kp.of {a : Addr} (s : Same H H') : Kp a H H' := fun b o _ e => s b o e
theorem Kp.upd {a : Addr} {o : HO} : Kp a H (upd H a o) := keeps_upd
/-- what is new since H1, where H1 knows a, may change, too -/
theorem Kp.new {a p : Addr} {H1 : Hp} {o : HO} (x : Kp a H H1) (hp : H p = none) : Kp a H (L2.upd H1 p o) := fun b u n e => by
  rw [upd_ne (ne_of_none e hp)]
  exact x b u n e
/-- the draws' list and place -/
structure Rnd (H : Hp) (j a : Addr) (p : Int) : Prop where
  ex : ∃ ns : List Int, H j = some (.lst (ns.map V.int)) ∧ ns.length ≤ 2000 ∧ ∀ n ∈ ns, 0 ≤ n ∧ n < 1000
  at_ : H a = some (.lst [.int p])
  ne : j ≠ a
  p0 : 0 ≤ p
theorem Rnd.same {j a : Addr} {p : Int} (r : Rnd H j a p) (s : Same H H') : Rnd H' j a p := by
  obtain ⟨ns, h1, h2, h3⟩ := r.ex
  exact ⟨⟨ns, s _ _ h1, h2, h3⟩, s _ _ r.at_, r.ne, r.p0⟩
theorem Rnd.set {j a : Addr} {p p' : Int} (r : Rnd H j a p) (h : 0 ≤ p') : Rnd (upd H a (.lst [.int p'])) j a p' := by
  obtain ⟨ns, h1, h2, h3⟩ := r.ex
  exact ⟨⟨ns, by rw [upd_ne r.ne]; exact h1, h2, h3⟩, upd_same, r.ne, h⟩
theorem Rnd.upd {j a q : Addr} {p : Int} {o o' : HO} (r : Rnd H j a p) (e : H q = some o) (hj : q ≠ j) (ha : q ≠ a) : Rnd (upd H q o') j a p := by
  obtain ⟨ns, h1, h2, h3⟩ := r.ex
  exact ⟨⟨ns, by rw [upd_ne hj.symm]; exact h1, h2, h3⟩, by rw [upd_ne ha.symm]; exact r.at_, r.ne, r.p0⟩
theorem T.kp {a : Addr} {xs : List V} {N N' : Addr → Prop} {v : V} {d : Tr} (h : T K H N v d) (k : Kp a H H') (e : H a = some (.lst xs)) (hN : ∀ b, N b → N' b ∧ b ≠ a) : T K H' N' v d := h.keep k (nt_of e (fun _ z => nomatch z) fun _ _ z => nomatch z) hN
theorem Own.kp {a r : Addr} {xs : List V} {N : Addr → Prop} {h : Hs} (o : Own K N H r h) (k : Kp a H H') (e : H a = some (.lst xs)) (hN : ∀ b, N b → b ≠ a) : Own K N H' r h := o.keep k (nt_of e (fun _ z => nomatch z) fun _ _ z => nomatch z) hN
theorem Ts.kp {a : Addr} {xs : List V} {N N' : Addr → Prop} {v : List V} {d : List Tr} (h : Ts K H N v d) (k : Kp a H H') (e : H a = some (.lst xs)) (hN : ∀ b, N b → N' b ∧ b ≠ a) : Ts K H' N' v d := h.keep k (nt_of e (fun _ z => nomatch z) fun _ _ z => nomatch z) hN
theorem fmod_lt {a b : Int} (h : 0 < b) : 0 ≤ a.fmod b ∧ a.fmod b < b := by
  rw [Int.fmod_eq_emod_of_nonneg a (by omega)]
  exact ⟨Int.emod_nonneg a (by omega), Int.emod_lt_of_pos a h⟩
theorem fdiv_le {a b : Int} (h : 0 < b) (ha : 0 ≤ a) : 0 ≤ a.fdiv b ∧ a.fdiv b ≤ a := by
  rw [Int.fdiv_eq_ediv_of_nonneg a (by omega)]
  exact ⟨Int.ediv_nonneg ha (by omega), Int.ediv_le_self b ha⟩
end
end TU

set_option Elab.async false
set_option linter.all false
set_option maxRecDepth 100000
namespace TU
open PySem PySem.Spec PyProof.Rows L2
section
variable {K : PySem.W.Frag} {H H' : Hp} {N : Addr → Prop}
theorem lk_snoc {β : Type} {h : List (Str × β)} {k : Str} {t : β} (nk : k ∉ nms h) : lk (h ++ [(k, t)]) k = some t := by
  induction h with
  | nil => simp [lk_cons]
  | cons p r ih =>
    rw [nms_cons, List.mem_cons, not_or] at nk
    rw [List.cons_append, lk_cons, if_neg (fun z => nk.1 z.symm)]
    exact ih nk.2
theorem put_snoc {β : Type} {h : List (Str × β)} {k : Str} {t t' : β} (nk : k ∉ nms h) : put (h ++ [(k, t)]) k t' = h ++ [(k, t')] := by
  induction h with
  | nil => simp [put]
  | cons p r ih =>
    rw [nms_cons, List.mem_cons, not_or] at nk
    rw [List.cons_append, put, if_neg (fun z => nk.1 z.symm), ih nk.2]
    rfl
theorem nms_append {β : Type} (h g : List (Str × β)) : nms (h ++ g) = nms h ++ nms g := List.map_append
theorem put_fresh {β : Type} {h : List (Str × β)} {k : Str} {t : β} (nk : k ∉ nms h) : put h k t = h ++ [(k, t)] := by
  induction h with
  | nil => rfl
  | cons p r ih =>
    rw [nms_cons, List.mem_cons, not_or] at nk
    rw [put, if_neg (fun z => nk.1 z.symm), ih nk.2]
    rfl
/-- a list object that is no dict stands when a dict is changed -/
theorem sqL_dk {q p : Addr} {xs : List V} {es : List (Key × V)} {o : HO} (e : H q = some (.dK es)) (h : H p = some (.lst xs)) : (upd H q o) p = some (.lst xs) := by
  rw [upd_ne (ne_of h e (fun z => nomatch z))]
  exact h
theorem hlist_at {ss : List Str} {i : Nat} {x : V} (h : (ss.map V.str)[i]? = some x) : ∃ n, ss[i]? = some n ∧ x = .str n := srt_at h
/-- behind a lock of a: what H knew stands, a is locked -/
structure Lk1 (H : Hp) (a : Addr) (kvs : List (Key × V)) (od : Obj) (H1 : Hp) : Prop where
  keep : ∀ b o, H b = some o → b ≠ a → H1 b = some o
  at_ : H1 a = some (.frz od (.dK kvs))
section
variable {a : Addr} {kvs : List (Key × V)} {od : Obj} {H1 H2 Hl : Hp} {un : Hp → Hp}
theorem Lkd.l1 (l : Lkd H Hl a kvs od un) : Lk1 H a kvs od Hl := ⟨fun b o e n => by rw [l.el b n]; exact e, l.at_⟩
theorem Lk1.same (l : Lk1 H a kvs od H1) (s : Same H1 H2) : Lk1 H a kvs od H2 := ⟨fun b o e n => s _ _ (l.keep b o e n), s _ _ l.at_⟩
theorem Lk1.ne (l : Lk1 H a kvs od H1) (rd : Rd H a (.dK kvs)) {b : Addr} (e : H b = none) : b ≠ a := fun z => by
  rw [z] at e
  rcases rd with q | ⟨o, q⟩ <;> (rw [q] at e; cases e)
theorem Lk1.fresh (l : Lk1 H a kvs od H1) {b : Addr} (e : H1 b = none) : H b = none := by
  cases z : H b with
  | none => rfl
  | some o =>
    by_cases hb : b = a
    · rw [hb, l.at_] at e
      cases e
    · rw [l.keep b o z hb] at e
      cases e
theorem Lk1.upd (l : Lk1 H a kvs od H1) (rd : Rd H a (.dK kvs)) {q : Addr} {o : HO} (e : H q = none) : Lk1 H a kvs od (L2.upd H1 q o) := ⟨fun b u eb n => by
  rw [upd_ne (ne_of_none eb e)]
  exact l.keep b u eb n, by rw [upd_ne (l.ne rd e).symm]; exact l.at_⟩
theorem Lk1.rs (l : Lk1 H a kvs od H1) (rd : Rd H a (.dK kvs)) : RS H H1 := fun b u n h => by
  by_cases e : b = a
  · subst e
    rcases rd with z | ⟨o, z⟩
    · rcases h with h | ⟨o', h⟩
      · rw [z] at h
        cases h
        exact .inr ⟨od, l.at_⟩
      · rw [z] at h
        cases h
    · rcases h with h | ⟨o', h⟩
      · rw [z] at h
        cases h
        exact absurd rfl (n _ _)
      · rw [z] at h
        cases h
        exact .inr ⟨od, l.at_⟩
  · rcases h with h | ⟨o', h⟩
    · exact .inl (l.keep _ _ h e)
    · exact .inr ⟨o', l.keep _ _ h e⟩
theorem Lk1.out {Hz : Hp} (l : Lk1 H a kvs od H1) (k : Lkd Hz Hl a kvs od un) (s : Same H Hz) : Same H (un H1) := fun b o e => by
  by_cases h : b = a
  · subst h
    rw [k.back _ l.at_]
    exact s _ _ e
  · rw [k.un _ _ h]
    exact l.keep b o e h
end
end
section
variable {K : PySem.W.Frag} {σ : L2.St} {H : Hp} {D : Ends}
theorem for_keysS {d : Addr} {o : Obj} {kvs : List (Key × V)} {tb : TS} {j : Nat} (Pv : Nat → L2.St → Hp → Prop) (h0 : Pv 0 σ H) (hx : ∀ i σ H, i ≤ kvs.length → Pv i σ H → H d = some (.frz o (.dK kvs)))
    (hs : ∀ i k v σ H, kvs[i]? = some (k, v) → Pv i σ H → tb { D with nx := Pv (i + 1), ct := Pv (i + 1), bk := D.nx } (σ.set j (some (kV k))) H) (hd : ∀ σ H, Pv kvs.length σ H → D.nx σ H) : forB (Itk d o kvs) (gName j) tb D σ H :=
  for_any walk_keys Pv h0 hx (fun i x σ H H' _ p y => by
    obtain ⟨e, k, v, y, z⟩ := y
    subst e
    rw [z]
    exact hs i k v σ _ y p) hd
end
end TU

set_option Elab.async false
set_option linter.all false
set_option maxRecDepth 100000
namespace TU
open PySem PySem.Spec PyProof.Rows L2
section
variable {K : PySem.W.Frag} {H H' : Hp} {N P : Addr → Prop} {Q : VK} {a : Addr}
theorem q_dpop1 {td ty : TE} {σ : L2.St} (h : td σ H fun x H1 => ∃ a, x = .ref a ∧ IsD H1 a ∧ ty σ H1 fun y H2 => ∃ kvs k v, H2 a = some (.dK kvs) ∧ y = kV k ∧ valV kvs k = some v ∧ Q v (upd H2 a (.dK (dropK kvs k)))) : tDPop1 td ty σ H Q := h
theorem q_isiD {kvs : List (Key × V)} (h : Rd H a (.dK kvs)) (q : Q (.bl true) H) : rIsi K [.ref a, .ty "dict"] H Q := by
  refine ⟨.ref a, .ty "dict", .type "dict", .type "dict", true, rfl, .ty _, ?_, kit_ty (by decide +kernel), q⟩
  rcases h with e | ⟨o, e⟩
  · exact .base (.dK e)
  · exact .fDict e
theorem q_isiT {xs : List V} (h : SqT K H a xs) (q : Q (.bl true) H) : rIsi K [.ref a, .ty "tuple"] H Q := by
  refine ⟨.ref a, .ty "tuple", .type "tuple", .type "tuple", true, rfl, .ty _, ?_, kit_ty (by decide +kernel), q⟩
  rcases h with (e | ⟨o, e⟩) | ⟨o, its, n, e, c, _⟩
  · exact .base (.tup e)
  · exact .fTuple e
  · exact .kTuple e c
theorem q_isiL {xs : List V} (h : SqL K H a xs) (q : Q (.bl true) H) : rIsi K [.ref a, .ty "list"] H Q := by
  refine ⟨.ref a, .ty "list", .type "list", .type "list", true, rfl, .ty _, ?_, kit_ty (by decide +kernel), q⟩
  rcases h with (e | ⟨o, e⟩) | ⟨o, its, n, e, c, _⟩
  · exact .base (.lst e)
  · exact .base (.frz e)
  · exact .kList e c
theorem Ts.strs : ∀ (ss : List Str), Ts K H P (ss.map V.str) (ss.map Tr.str)
  | [] => .nil
  | s :: ss => .cons (.str s) (Ts.strs ss)
theorem nods_strs : ∀ (ss : List Str), nods (ss.map Tr.str) = true
  | [] => rfl
  | s :: ss => by
    rw [List.map_cons, nods, nods_strs ss]
    rfl
theorem deps_strs : ∀ (ss : List Str), deps (ss.map Tr.str) = 0
  | [] => rfl
  | s :: ss => by
    rw [List.map_cons, deps, deps_strs ss]
    rfl
theorem keysV {kvs : List (Key × V)} {ss : List Str} (e : kvs.map (·.1) = ss.map Sum.inr) : kvs.map (fun kv => kV kv.1) = ss.map V.str := by
  have : kvs.map (fun kv => kV kv.1) = (kvs.map (·.1)).map kV := by rw [List.map_map] <;> rfl
  rw [this, e, List.map_map]
  rfl
theorem q_neStrs {p q : Addr} {ss : List Str} (hp : SqL K H p (ss.map V.str)) (hq : SqL K H q (ss.map V.str)) (k : Q (.bl false) H) : rNeU K (.ref p) (.ref q) H Q := by
  have hn : nod (.lst (ss.map Tr.str)) = true := by
    rw [nod]
    exact nods_strs ss
  refine q_neT (P := fun _ => True) (.lst trivial hp (.strs ss)) (.lst trivial hq (.strs ss)) hn hn (by rw [dep, deps_strs]; decide) ?_
  rw [eqb_refl hn]
  exact k
theorem getD_mem : ∀ {ks : List (Key × Tr)} {p : Key × Tr}, (ks.map (·.1)).Nodup → p ∈ ks → getD ks p.1 = some p.2
  | [], _, _, h => nomatch h
  | x :: ks, p, nd, h => by
    have nd' := List.nodup_cons.mp nd
    rw [getD_cons]
    rcases List.mem_cons.mp h with e | h
    · rw [e, if_pos rfl]
    · have : ¬ x.1 = p.1 := fun z => nd'.1 (List.mem_map.mpr ⟨p, h, z.symm⟩)
      rw [if_neg this]
      exact getD_mem nd'.2 h
theorem eqk_refl {ks : List (Key × Tr)} (nd : (ks.map (·.1)).Nodup) (h : ∀ p ∈ ks, nod p.2 = true) : eqk ks ks = true := by
  unfold eqk
  rw [Bool.and_eq_true]
  refine ⟨by simp, List.all_eq_true.mpr fun p hp => ?_⟩
  rw [getD_mem nd hp]
  exact eqb_refl (h p hp)
theorem nd_tK {t : Tab} (nd : (nms t).Nodup) : ((tK t).map (·.1)).Nodup := by
  rw [keys_tK]
  exact List.Pairwise.map Sum.inr (fun a b h e => h (Sum.inr.inj e)) nd
theorem mem_tK {t : Tab} {p : Key × Tr} (h : p ∈ tK t) : ∃ q ∈ t, p.2 = q.2 := by
  obtain ⟨q, hq, e⟩ := List.mem_map.mp h
  exact ⟨q, hq, by rw [← e]⟩
theorem q_neTab {p q : Addr} {es fs : List (Key × V)} {t : Tab} {N1 N2 : Addr → Prop} (hp : Rd H p (.dK es)) (hq : Rd H q (.dK fs)) (t1 : Tk K H N1 es (tK t)) (t2 : Tk K H N2 fs (tK t)) (nd : (nms t).Nodup) (he : ∀ x ∈ t, nod x.2 = true ∧ dep x.2 ≤ 60) (k : Q (.bl false) H) : rNeU K (.ref p) (.ref q) H Q := by
  have h1 : ∀ x ∈ tK t, nod x.2 = true ∧ dep x.2 ≤ 60 := fun x hx => by
    obtain ⟨y, hy, e⟩ := mem_tK hx
    rw [e]
    exact he y hy
  refine q_neK (P := fun _ => True) hp hq (t1.imp fun _ _ => trivial) (t2.imp fun _ _ => trivial) h1 (fun x hx => (h1 x hx).1) ?_
  rw [eqk_refl (nd_tK nd) fun x hx => (h1 x hx).1]
  exact k
end
/-! ### entries that may be compared and shown; houses of such -/
def Sml (h : Hs) : Prop := ∀ p ∈ h, ∀ x ∈ p.2, dep x.2 ≤ 60
theorem Wf.ent {h : Hs} (w : Wf h) (s : Sml h) {p : Str × Tab} (hp : p ∈ h) : ∀ x ∈ p.2, nod x.2 = true ∧ dep x.2 ≤ 60 := fun x hx => ⟨nod_of_imm ((w.tab p hp).2 x hx), s p hp x hx⟩
def AscH (h : Hs) : Prop := ∀ p ∈ h, Asc (nms p.2)
theorem AscH.cp (h : Hs) : AscH (cpH h) := fun p hp => by
  obtain ⟨q, hq, rfl⟩ := List.mem_map.mp hp
  show Asc (nms (ord q.2))
  rw [nms_ord]
  exact srt_asc _
theorem cp_cp {h : Hs} (w : Wf h) : cpH (cpH h) = cpH h := by
  unfold cpH
  rw [List.map_map]
  refine List.map_congr_left fun p hp => ?_
  show (p.1, ord (ord p.2)) = (p.1, ord p.2)
  rw [ord_ord (w.tab p hp).1]
theorem ord_of_asc {t : Tab} (nd : (nms t).Nodup) (h : Asc (nms t)) : ord t = t := ext_lk (nd_ord nd) (by rw [nms_ord, srt_of_asc h]) fun x => lk_ord t x
end TU

set_option Elab.async false
set_option linter.all false
set_option maxRecDepth 100000
namespace TU
open PySem PySem.Spec PyProof.Rows L2
section
variable {K : PySem.W.Frag} {H H' : Hp} {N P : Addr → Prop} {Q : VK} {a : Addr}
theorem sq_ne {p q : Addr} {xs : List V} {o o' : HO} (h : H p = some (.lst xs)) (e : H q = some o) (n : o ≠ .lst xs) : (upd H q o') p = some (.lst xs) := by
  rw [upd_ne (ne_of h e (Ne.symm n))]
  exact h
theorem cutV_take {ss : List Str} {n : Nat} (h : n ≤ ss.length) : cutV (ss.map V.str) none (some (n : Int)) = (ss.take n).map V.str := by
  unfold cutV
  have e1 : HT.sIx (ss.map V.str).length 0 none = 0 := rfl
  have e2 : HT.sIx (ss.map V.str).length (ss.map V.str).length (some (n : Int)) = n := by
    unfold HT.sIx
    rw [List.length_map]
    have hn : ¬ (n : Int) < 0 := by omega
    simp [hn]
    omega
  rw [e1, e2, List.drop_zero, Nat.sub_zero, List.map_take]
/-- a place below 3, 5: which -/
theorem three {v : Int} (h0 : 0 ≤ v) (h1 : v < 3) : v = 0 ∨ v = 1 ∨ v = 2 := by omega
theorem atS {ss : List Str} {v : Int} (h0 : 0 ≤ v) (h1 : v < ss.length) : ∃ n ∈ ss, atI (ss.map V.str) v = some (.str n) := by
  obtain ⟨k, rfl⟩ : ∃ k : Nat, v = k := ⟨v.toNat, by omega⟩
  have hk : k < ss.length := by omega
  exact ⟨ss[k], List.getElem_mem hk, atI_nat (by rw [List.getElem?_map, List.getElem?_eq_getElem hk]; rfl)⟩
theorem Own.key {r : Addr} {h : Hs} (o : Own K N H r h) : ∃ kvs, H r = some (.dK kvs) ∧ kvs.map (·.1) = (nms h).map Sum.inr := by
  obtain ⟨qs, kvs, h1, h2, h3, h4⟩ := o.ex
  exact ⟨kvs, h1, h2.keys⟩
theorem Own.nr {r : Addr} {h : Hs} (o : Own K N H r h) : N r := by
  obtain ⟨qs, kvs, h1, h2, h3, h4⟩ := o.ex
  exact h4 r List.mem_cons_self
end
theorem Rnd.ja {H : Hp} {j a r : Addr} {p : Int} (R : Rnd H j a p) (e : H r = none) : r ≠ j ∧ r ≠ a := by
  obtain ⟨ns, h1, _⟩ := R.ex
  exact ⟨(ne_of_none h1 e).symm, (ne_of_none R.at_ e).symm⟩
theorem Kp.fresh {H H' : Hp} {a r : Addr} {o : HO} (k : Kp a H H') (ea : H' a = some o) (e : H' r = none) : H r = none := by
  cases z : H r with
  | none => rfl
  | some u =>
    by_cases h : r = a
    · rw [h, ea] at e
      cases e
    · rw [k r u h z] at e
      cases e
end TU

set_option Elab.async false
set_option linter.all false
set_option maxRecDepth 100000
namespace TU
open PySem PySem.Spec PyProof.Rows L2
theorem atI_last {xs : List V} {u : V} : atI (xs ++ [u]) (((xs ++ [u]).length : Int) - 1) = some u := by
  have e : (((xs ++ [u]).length : Int) - 1) = (xs.length : Nat) := by
    rw [List.length_append]
    show ((xs.length + 1 : Nat) : Int) - 1 = _
    omega
  rw [e]
  exact atI_nat (List.getElem?_concat_length ..)
/-- a test of two halves, its end written once -/
theorem q_two {σ : L2.St} {H : Hp} {p : Prop} [Decidable p] {c : TT} {R : Bool → Hp → Prop} {PP : Bool → Prop} (hR : ∀ b, PP b → R b H) (h1 : p → ∃ b, PP b ∧ (R b H → c σ H R)) (h2 : ¬ p → PP false) : if decide p = true then c σ H R else R false H := by
  by_cases h : p
  · obtain ⟨b, x, y⟩ := h1 h
    rw [decide_eq_true h]
    exact q_t (y (hR b x))
  · rw [decide_eq_false h]
    exact q_f (hR false (h2 h))
theorem lk_cp : ∀ (h : Hs) (x : Str), lk (cpH h) x = (lk h x).map ord
  | [], x => rfl
  | p :: r, x => by
    show lk ((p.1, ord p.2) :: cpH r) x = _
    rw [lk_cons, lk_cons, lk_cp r x]
    by_cases e : p.1 = x
    · rw [if_pos e, if_pos e]
      rfl
    · rw [if_neg e, if_neg e]
theorem cp_eq {g g' : Hs} (nd : (nms g).Nodup) (hn : nms g = nms g') (he : ∀ x, (lk g x).map ord = (lk g' x).map ord) : cpH g = cpH g' :=
  ext_lk (by rw [nms_cp]; exact nd) (by rw [nms_cp, nms_cp]; exact hn) fun x => by rw [lk_cp, lk_cp]; exact he x
theorem cp_lk {g g' : Hs} (h : cpH g = cpH g') {k : Str} {t : Tab} (e : lk g k = some t) : ∃ t', lk g' k = some t' ∧ ord t = ord t' := by
  have := lk_cp g' k
  rw [← h, lk_cp g k, e] at this
  cases q : lk g' k with
  | none =>
    rw [q] at this
    cases this
  | some t' =>
    rw [q] at this
    exact ⟨t', rfl, Option.some.inj this⟩
theorem cp_no {g g' : Hs} (h : cpH g = cpH g') {k : Str} (e : lk g k = none) : lk g' k = none := by
  cases q : lk g' k with
  | none => rfl
  | some t' =>
    obtain ⟨t, e2, _⟩ := cp_lk h.symm q
    rw [e] at e2
    cases e2
theorem cp_nms {g g' : Hs} (h : cpH g = cpH g') : nms g = nms g' := by rw [← nms_cp g, h, nms_cp]
theorem ord_lk {t t' : Tab} (h : ord t = ord t') (x : Str) : lk t x = lk t' x := by rw [← lk_ord t, h, lk_ord]
theorem lk_mem_nms {β : Type} {l : List (Str × β)} {n : Str} (h : n ∈ nms l) : ∃ d, lk l n = some d := by
  cases e : lk l n with
  | none => exact absurd h (lk_none.mp e)
  | some d => exact ⟨d, rfl⟩
theorem mem_of_ord {t t' : Tab} (h : ord t = ord t') {n : Str} (m : n ∈ nms t) : n ∈ nms t' := by
  obtain ⟨d, e⟩ := lk_mem_nms m
  rw [ord_lk h] at e
  exact mem_nms (lk_mem e)
theorem cp_put {g g' : Hs} (w : Wf g) (h : cpH g = cpH g') {k : Str} {t t' u u' : Tab} (e : lk g k = some t) (e' : lk g' k = some t') (hu : ord u = ord u') : cpH (put g k u) = cpH (put g' k u') := by
  have m : k ∈ nms g := mem_nms (lk_mem e)
  have m' : k ∈ nms g' := mem_nms (lk_mem e')
  refine cp_eq (by rw [nms_put_of m]; exact w.nd) (by rw [nms_put_of m, nms_put_of m', cp_nms h]) fun x => ?_
  rw [lk_put, lk_put]
  by_cases c : x = k
  · rw [if_pos c, if_pos c]
    exact congrArg some hu
  · rw [if_neg c, if_neg c, ← lk_cp, ← lk_cp, h]
theorem app1_cp {g g' h : Hs} {e : Ed} (w : Wf g) (w' : Wf g') (hc : cpH g = cpH g') (ha : app1 g e = .ok h) : ∃ h', app1 g' e = .ok h' ∧ cpH h = cpH h' := by
  cases q : lk g e.key with
  | none =>
    simp only [app1, q] at ha
    cases ha
  | some t =>
    obtain ⟨t', q', ho⟩ := cp_lk hc q
    have wt := w.tab _ (lk_mem q)
    have wt' := w'.tab _ (lk_mem q')
    cases e with
    | put k n x =>
      simp only [app1, q] at ha
      cases ha
      refine ⟨put g' k (put t' n x), by simp only [app1, q'], cp_put w hc q q' (ord_perm (nd_put wt.1 _ _) (nd_put wt'.1 _ _) fun y => ?_)⟩
      rw [lk_put, lk_put, ord_lk ho]
    | drop k n =>
      by_cases hn : n ∈ nms t
      · simp only [app1, q, if_pos hn] at ha
        cases ha
        refine ⟨put g' k (del t' n), by simp only [app1, q', if_pos (mem_of_ord ho hn)], cp_put w hc q q' (ord_perm (nd_del wt.1 _) (nd_del wt'.1 _) fun y => ?_)⟩
        rw [lk_del wt.1, lk_del wt'.1, ord_lk ho]
      · simp only [app1, q, if_neg hn] at ha
        cases ha
theorem app1_err {g : Hs} {e : Ed} {x : Str × Str} (w : Wf g) (ha : app1 g e = .error x) : app1 (cpH g) e = .error x := by
  cases q : app1 (cpH g) e with
  | ok h =>
    obtain ⟨h', q2, _⟩ := app1_cp w.cp w (cp_cp w) q
    rw [ha] at q2
    cases q2
  | error y =>
    cases e1 : lk g e.key with
    | none =>
      simp only [app1, lk_cp, e1, Option.map] at ha q
      rw [← ha, ← q]
    | some t =>
      cases e with
      | put k n d =>
        simp only [app1, e1] at ha
        cases ha
      | drop k n =>
        simp only [app1, e1] at ha
        simp only [app1, lk_cp, e1, Option.map] at q
        split at ha
        · cases ha
        · split at q
          · cases q
          · rw [← ha, ← q]
theorem inv1_cp {g g' : Hs} {e : Ed} (hc : cpH g = cpH g') : inv1 g e = inv1 g' e := by
  cases q : lk g e.key with
  | none => simp only [inv1, q, cp_no hc q]
  | some t =>
    obtain ⟨t', q', ho⟩ := cp_lk hc q
    simp only [inv1, q, q', ord_lk ho]
theorem app1_wf {h h' : Hs} {e : Ed} (w : Wf h) (im : e.Imm) (ha : app1 h e = .ok h') : Wf h' ∧ nms h' = nms h := by
  have f : ∃ n, Fits n h := by
    clear w im ha h' e
    induction h with
    | nil => exact ⟨0, fun p hp => nomatch hp⟩
    | cons p r ih =>
      obtain ⟨n, f⟩ := ih
      refine ⟨max n p.2.length, fun q hq => ?_⟩
      rcases List.mem_cons.mp hq with e | m
      · rw [e]
        exact Nat.le_max_right _ _
      · exact Nat.le_trans (f q m) (Nat.le_max_left _ _)
  obtain ⟨n, f⟩ := f
  obtain ⟨a, _, b⟩ := app1_ok w im f ha
  exact ⟨a, b⟩
/-- one edit and what leads back from it -/
theorem undo1 {g h : Hs} {e : Ed} (w : Wf g) (ha : app1 g e = .ok h) : ∃ r, app1 h (inv1 g e) = .ok r ∧ cpH r = cpH g := by
  cases q : lk g e.key with
  | none =>
    simp only [app1, q] at ha
    cases ha
  | some t =>
    have wt := w.tab _ (lk_mem q)
    have m : e.key ∈ nms g := mem_nms (lk_mem q)
    obtain ⟨t1, rfl, nd1, ht1⟩ : ∃ t1, h = put g e.key t1 ∧ (nms t1).Nodup ∧ ∀ x, x ≠ e.name → lk t1 x = lk t x := by
      cases e with
      | put k n x =>
        simp only [app1, q] at ha
        cases ha
        exact ⟨_, rfl, nd_put wt.1 _ _, fun y hy => by rw [lk_put]; exact if_neg hy⟩
      | drop k n =>
        by_cases hn : n ∈ nms t
        · simp only [app1, q, if_pos hn] at ha
          cases ha
          exact ⟨_, rfl, nd_del wt.1 _, fun y hy => by rw [lk_del wt.1]; exact if_neg hy⟩
        · simp only [app1, q, if_neg hn] at ha
          cases ha
    have lh : lk (put g e.key t1) e.key = some t1 := by rw [lk_put, if_pos rfl]
    have key : ∀ u, ord u = ord t → cpH (put (put g e.key t1) e.key u) = cpH g := fun u hu => by
      have m2 : e.key ∈ nms (put g e.key t1) := mem_nms (lk_mem lh)
      refine cp_eq (by rw [nms_put_of m2, nms_put_of m]; exact w.nd) (by rw [nms_put_of m2, nms_put_of m]) fun x => ?_
      rw [lk_put, lk_put]
      by_cases c : x = e.key
      · rw [if_pos c, c, q]
        exact congrArg some hu
      · rw [if_neg c, if_neg c]
    cases q2 : lk t e.name with
    | some d =>
      have hi : inv1 g e = .put e.key e.name d := by simp only [inv1, q, q2]
      refine ⟨_, ?_, key (put t1 e.name d) (ord_perm (nd_put nd1 _ _) wt.1 fun x => ?_)⟩
      · rw [hi]
        unfold app1
        rw [show (Ed.put e.key e.name d).key = e.key from rfl, lh]
      · rw [lk_put]
        by_cases c : x = e.name
        · rw [if_pos c, c, q2]
        · rw [if_neg c, ht1 x c]
    | none =>
      have hi : inv1 g e = .drop e.key e.name := by simp only [inv1, q, q2]
      have hin : e.name ∈ nms t1 := by
        cases e with
        | put k n x =>
          simp only [app1, q] at ha
          have e1 : put g k (put t n x) = put g k t1 := Except.ok.inj ha
          have e2 : lk (put g k (put t n x)) k = lk (put g k t1) k := by rw [e1]
          rw [lk_put, lk_put, if_pos rfl, if_pos rfl] at e2
          rw [← Option.some.inj e2]
          exact mem_nms (lk_mem (v := x) (by rw [lk_put]; exact if_pos rfl))
        | drop k n =>
          have hn : n ∉ nms t := lk_none.mp q2
          simp only [app1, q, if_neg hn] at ha
          cases ha
      refine ⟨_, ?_, key (del t1 e.name) (ord_perm (nd_del nd1 _) wt.1 fun x => ?_)⟩
      · rw [hi]
        unfold app1
        rw [show (Ed.drop e.key e.name).key = e.key from rfl, lh]
        exact if_pos hin
      · rw [lk_del nd1]
        by_cases c : x = e.name
        · rw [if_pos c, c, q2]
        · rw [if_neg c, ht1 x c]
theorem appAll_cp : ∀ {es : List Ed} {g g' h : Hs}, (∀ e ∈ es, e.Imm) → Wf g → Wf g' → cpH g = cpH g' → appAll g es = .ok h → ∃ h', appAll g' es = .ok h' ∧ cpH h = cpH h'
  | [], g, g', h, im, w, w', hc, ha => by
    cases ha
    exact ⟨g', rfl, hc⟩
  | e :: es, g, g', h, im, w, w', hc, ha => by
    rw [appAll_cons] at ha
    cases q : app1 g e with
    | error x =>
      rw [q] at ha
      cases ha
    | ok g1 =>
      rw [q] at ha
      obtain ⟨g2, q2, hc2⟩ := app1_cp w w' hc q
      have im1 := im e List.mem_cons_self
      obtain ⟨h', a, b⟩ := appAll_cp (fun x hx => im x (List.mem_cons_of_mem _ hx)) (app1_wf w im1 q).1 (app1_wf w' im1 q2).1 hc2 ha
      exact ⟨h', by rw [appAll_cons, q2]; exact a, b⟩
theorem appAll_wf : ∀ {es : List Ed} {g h : Hs}, (∀ e ∈ es, e.Imm) → Wf g → appAll g es = .ok h → Wf h ∧ nms h = nms g
  | [], g, h, im, w, ha => by
    cases ha
    exact ⟨w, rfl⟩
  | e :: es, g, h, im, w, ha => by
    rw [appAll_cons] at ha
    cases q : app1 g e with
    | error x =>
      rw [q] at ha
      cases ha
    | ok g1 =>
      rw [q] at ha
      obtain ⟨w1, n1⟩ := app1_wf w (im e List.mem_cons_self) q
      obtain ⟨w2, n2⟩ := appAll_wf (fun x hx => im x (List.mem_cons_of_mem _ hx)) w1 ha
      exact ⟨w2, n2.trans n1⟩
theorem invs_imm : ∀ {es : List Ed} {g : Hs}, (∀ e ∈ es, e.Imm) → Wf g → ∀ e ∈ invs g es, e.Imm
  | [], g, im, w, e, he => nomatch he
  | e :: es, g, im, w, x, hx => by
    unfold invs at hx
    rcases List.mem_cons.mp hx with rfl | hx
    · exact inv1_imm w e
    · cases q : app1 g e with
      | error z =>
        rw [q] at hx
        cases hx
      | ok g1 =>
        rw [q] at hx
        exact invs_imm (fun x hx => im x (List.mem_cons_of_mem _ hx)) (app1_wf w (im e List.mem_cons_self) q).1 x hx
theorem invs_cp : ∀ {es : List Ed} {g g' h : Hs}, (∀ e ∈ es, e.Imm) → Wf g → Wf g' → cpH g = cpH g' → appAll g es = .ok h → invs g es = invs g' es
  | [], g, g', h, im, w, w', hc, ha => rfl
  | e :: es, g, g', h, im, w, w', hc, ha => by
    rw [appAll_cons] at ha
    cases q : app1 g e with
    | error x =>
      rw [q] at ha
      cases ha
    | ok g1 =>
      rw [q] at ha
      obtain ⟨g2, q2, hc2⟩ := app1_cp w w' hc q
      have im1 := im e List.mem_cons_self
      have := invs_cp (fun x hx => im x (List.mem_cons_of_mem _ hx)) (app1_wf w im1 q).1 (app1_wf w' im1 q2).1 hc2 ha
      unfold invs
      rw [q, q2, inv1_cp hc]
      exact congrArg _ this
/-- all the edits, and all that lead back -/
theorem undoAll : ∀ {es : List Ed} {g h : Hs}, (∀ e ∈ es, e.Imm) → Wf g → appAll g es = .ok h → ∃ r, appAll h (invs g es).reverse = .ok r ∧ cpH r = cpH g
  | [], g, h, im, w, ha => by
    cases ha
    exact ⟨g, rfl, rfl⟩
  | e :: es, g, h, im, w, ha => by
    rw [appAll_cons] at ha
    cases q : app1 g e with
    | error x =>
      rw [q] at ha
      cases ha
    | ok g1 =>
      rw [q] at ha
      have im1 := im e List.mem_cons_self
      have ims : ∀ x ∈ es, x.Imm := fun x hx => im x (List.mem_cons_of_mem _ hx)
      have w1 := (app1_wf w im1 q).1
      obtain ⟨r1, a1, b1⟩ := undoAll ims w1 ha
      obtain ⟨r2, a2, b2⟩ := undo1 w q
      have wh := (appAll_wf ims w1 ha).1
      have wr1 : Wf r1 := (appAll_wf (fun x hx => invs_imm ims w1 x (List.mem_reverse.mp hx)) wh a1).1
      obtain ⟨r3, a3, b3⟩ := app1_cp w1 wr1 b1.symm a2
      refine ⟨r3, ?_, b3.symm.trans b2⟩
      have hi : invs g (e :: es) = inv1 g e :: invs g1 es := by
        conv => lhs; unfold invs
        rw [q]
      rw [hi, List.reverse_cons, appAll_append, a1]
      exact (appAll_one r1 _).trans a3
end TU

set_option Elab.async false
set_option linter.all false
set_option maxRecDepth 100000
namespace TU
open PySem PySem.Spec PyProof.Rows L2
/-- except Unknown as error: return (error.what, error.name) -/
theorem catchU {K : PySem.W.Frag} {C : Addr} {w n : Str} {i : Nat} {Wout : WX} {D : Ends} {σ : L2.St} {H1 : Hp} (te : PySem.W.exmOne K (.ref C) (.ref C) = some true) (hi : i < σ.length) (h : ∀ p H', Same H1 H' → H' p = some (.tup [.str w, .str n]) → D.rt (.ref p) H') :
    XUnk C w n H1 (WE (wAs K (.ref C) i (fun a cls d => tRet (tTup (tCons (tXf a cls d C "what" (tVar i)) (tCons (tXf a cls d C "name" (tVar i)) tNil)))) Wout D) σ) := by
  intro d H' s e
  refine ⟨true, te, fun _ a ha => ?_, fun z => by cases z⟩
  have hv : (σ.set i (some (V.ref a)))[i]? = some (some (V.ref a)) := by
    rw [List.getElem?_set_self hi]
  refine q_ret (q_tup (q_cons ?_))
  refine ⟨_, hv, rfl, rfl, d, _, .str w, rfl, e, rfl, ?_⟩
  refine q_cons ⟨_, hv, rfl, rfl, d, _, .str n, rfl, e, rfl, ?_⟩
  refine q_nil (q_size (show 2 ≤ 1000 by decide) fun p hp => ?_)
  exact h p _ (s.trans (same_new hp)) upd_same
theorem last_of {K : PySem.W.Frag} {H : Hp} {N : Addr → Prop} {xs : List V} {es : List Ed} (t : Ts K H N xs (es.map Ed.tr)) (h : 1 ≤ es.length) : ∃ u e, atI xs ((xs.length : Int) - 1) = some u ∧ es.getLast? = some e ∧ T K H N u e.tr := by
  have hl : xs.length = es.length := by rw [t.length, List.length_map]
  have hk : xs.length - 1 < xs.length := by omega
  have hu := List.getElem?_eq_getElem hk
  obtain ⟨d, g1, g2⟩ := t.gets hu
  obtain ⟨e, he, rfl⟩ := map_at g1
  refine ⟨_, e, ?_, ?_, g2⟩
  · have e1 : ((xs.length : Int) - 1) = (xs.length - 1 : Nat) := by omega
    rw [e1]
    exact atI_nat hu
  · rw [List.getLast?_eq_getElem?, ← hl]
    exact he
/-- the error that one call raises, as a pair; ("", "") where none -/
def refOf (h : Hs) (es : List Ed) (how : Int) : Str × Str :=
  if how = 0 ∨ how = 1 then (match appAll (cpH h) es with | .ok _ => ("", "") | .error x => x)
  else if how = 2 ∨ how = 3 then (match es.getLast? with | none => ("", "") | some e => (match app1 (cpH h) e with | .ok _ => ("", "") | .error x => x))
  else (if (lk h "x9").isSome = true then ("", "") else ("table", "x9"))

theorem q_neP {K : PySem.W.Frag} {H : Hp} {Q : VK} {p q : Addr} {a b : Str} (hp : SqT K H p [.str a, .str b]) (hq : SqT K H q [.str a, .str b]) (k : Q (.bl false) H) : rNeU K (.ref p) (.ref q) H Q := by
  refine q_neT (P := ff) (d := .tup [.str a, .str b]) (e := .tup [.str a, .str b]) (.tup hp (.cons (.str _) (.cons (.str _) .nil))) (.tup hq (.cons (.str _) (.cons (.str _) .nil))) rfl rfl (show (1 : Nat) ≤ 60 by decide) ?_
  rw [eqb_refl rfl]
  exact k
theorem q_eqP {K : PySem.W.Frag} {H : Hp} {Q : VK} {p q : Addr} {a b : Str} (hp : SqT K H p [.str a, .str b]) (hq : SqT K H q [.str a, .str b]) (k : Q (.bl true) H) : rEqU K (.ref p) (.ref q) H Q := by
  refine q_eqT (P := ff) (d := .tup [.str a, .str b]) (e := .tup [.str a, .str b]) (.tup hp (.cons (.str _) (.cons (.str _) .nil))) (.tup hq (.cons (.str _) (.cons (.str _) .nil))) rfl rfl (show (1 : Nat) ≤ 60 by decide) ?_
  rw [eqb_refl rfl]
  exact k
/-- all names are of a list -/
def Nam (L : List Str) (h : Hs) : Prop := ∀ q ∈ h, ∀ x ∈ q.2, x.1 ∈ L
theorem Nam.cp {L : List Str} {h : Hs} (n : Nam L h) : Nam L (cpH h) := fun q hq x hx => by
  obtain ⟨p, hp, rfl⟩ := List.mem_map.mp hq
  have m : x.1 ∈ nms (ord p.2) := mem_nms hx
  rw [nms_ord] at m
  obtain ⟨y, hy, e⟩ := List.mem_map.mp ((srt_perm _).mem_iff.mp m)
  rw [← e]
  exact n p hp y hy
theorem app1_nam {L : List Str} {h h' : Hs} {e : Ed} (n : Nam L h) (hn : e.name ∈ L) (ha : app1 h e = .ok h') : Nam L h' := by
  cases q : lk h e.key with
  | none =>
    simp only [app1, q] at ha
    cases ha
  | some t =>
    have hm := lk_mem q
    cases e with
    | put k m d =>
      simp only [app1, q] at ha
      cases ha
      intro p hp x hx
      rcases mem_put hp with c | c
      · exact n p c x hx
      · rw [c] at hx
        rcases mem_put hx with c2 | c2
        · exact n _ hm x c2
        · rw [c2]
          exact hn
    | drop k m =>
      by_cases hin : m ∈ nms t
      · simp only [app1, q, if_pos hin] at ha
        cases ha
        intro p hp x hx
        rcases mem_put hp with c | c
        · exact n p c x hx
        · rw [c] at hx
          exact n _ hm x (mem_del hx)
      · simp only [app1, q, if_neg hin] at ha
        cases ha
theorem appAll_nam {L : List Str} : ∀ {es : List Ed} {h h' : Hs}, Nam L h → (∀ e ∈ es, e.name ∈ L) → appAll h es = .ok h' → Nam L h'
  | [], h, h', n, hn, ha => by
    cases ha
    exact n
  | e :: es, h, h', n, hn, ha => by
    rw [appAll_cons] at ha
    cases q : app1 h e with
    | error x =>
      rw [q] at ha
      cases ha
    | ok h1 =>
      rw [q] at ha
      exact appAll_nam (app1_nam n (hn e List.mem_cons_self) q) (fun x hx => hn x (List.mem_cons_of_mem _ hx)) ha
theorem app1_tab {h : Hs} {e : Ed} (m : e.key ∉ nms h) : app1 h e = .error ("table", e.key) := by
  have q := lk_none.mpr m
  simp only [app1, q]
theorem app1_drop {L : List Str} {h : Hs} {k n : Str} (m : k ∈ nms h) (nm : Nam L h) (hn : n ∉ L) : app1 h (.drop k n) = .error (k, n) := by
  obtain ⟨t, q⟩ := lk_mem_nms m
  have c : n ∉ nms t := fun z => by
    obtain ⟨x, hx, e⟩ := List.mem_map.mp z
    rw [← e] at hn
    exact hn (nm _ (lk_mem q) x hx)
  unfold app1
  rw [show (Ed.drop k n).key = k from rfl, q]
  exact if_neg c
theorem ref_how {h f : Hs} {es : List Ed} {e : Ed} {x : Str × Str} {how : Nat} (ha : appAll (cpH h) es = .ok f) (hf : app1 f e = .error x) (hh : app1 (cpH h) e = .error x) (hw : how < 4) : refOf h (es ++ [e]) (0 + how) = x := by
  unfold refOf
  by_cases c : ((0 : Int) + how = 0 ∨ (0 : Int) + how = 1)
  · rw [if_pos c, appAll_append, ha]
    show (match appAll f [e] with | .ok _ => ("", "") | .error x => x) = x
    rw [appAll_one, hf]
  · rw [if_neg c, if_pos (by omega), List.getLast?_concat]
    simp only [hh]
end TU

set_option Elab.async false
set_option linter.all false
set_option maxRecDepth 100000
namespace TU
open PySem PySem.Spec PyProof.Rows L2
/-! ### the outermost call: there no repr runs, so that its guards are known -/
def TopOk (P : Program) (w : World) (K : PySem.W.Frag) (mg : Str → Option Value) (base : Heap) (fa : Addr) (sp : Sp) : Prop := ∀ (z : Shared) (G : Hp) (a : Addr) (Q : VK) (E : XK), Env0 P w K mg base callerA [] z G → sp [.ref a] G Q E →
  codeAny (model P w) callerA (.call (.ref fa) ⟨[.ref a], []⟩) (CR (L2.CX P w) [] P w G z Q E) z
theorem top_ok {P : Program} {w : World} {K : PySem.W.Frag} {mg : Str → Option Value} {base : Heap} {x y : Str} {st : Stmt} {N : List Str} {k : Nat} {sp : Sp} (F : TopF K mg x st [y]) (S : FnScope N [y] (defScope st)) (hr : Room (k + 1) callerA)
    (hbody : ∀ (f : Addr) (cdv : Value) (A : Around) (s : Shared) (H : Hp) (vs : List V) (Q : VK) (E : XK), A.guards = some [] → Room k (A.deeper (envOfC x (defScope st) s.heap.objs.size f cdv)) → sp vs H Q E →
      ∃ t, PSs (cxOf (L2.CX P w) P w K mg base N x (defScope st) f cdv A [] s H E) (defBody st) t ∧ t { nx := fun _ H' => Q .non H', rt := Q } (L2.start N vs) H) : ∃ fa, mg x = some (.ref fa) ∧ TopOk P w K mg base fa sp := by
  obtain ⟨f, fd, F0, hm, hb⟩ := F.ex
  obtain ⟨oc, od, kV, doc, pm, an, cdv, ct, osl, rfl, lk, hcd⟩ := F0.ex
  refine ⟨f, hm, fun z G a Q E e0 h => ?_⟩
  have old := fun b o e => (e0.bs b o e).1
  have kin := e0.mod.kin.keeps old
  have fit : ∀ p ∈ [y].zip [Value.ref a], (defScope st).names.lookup p.1 = some .local ∨ ((defScope st).names.lookup p.1 = some .cell ∧ ((cellsFrom (z.heap.objs.size + 1) (defScope st).names []).lookup p.1).isSome = true) := by
    rintro ⟨n, v⟩ m
    exact (S.par n (List.of_mem_zip m).1).imp id fun q => ⟨q, PySem.W.cellsFrom_some _ _ _ (.inl q)⟩
  refine codeAny_call_function hr.depth (kin _ _ lk) rfl S.co S.gen rfl (PySem.W.codeRec_of kin hcd) ?_
  refine hb z [.ref a] kin rfl _ _ _ _ ?_
  refine wpAny_newFunctionEnv_cells S.kind fit fun env he z1 x1 => ?_
  subst he
  refine ⟨(e0.mod.nolimit.keeps old).keeps x1.toInCall.keep, codeAny_func ?_⟩
  obtain ⟨t, ht, hq⟩ := hbody f cdv callerA z G [.ref a] Q E rfl (hr.deeper _) h
  refine wpAny_mono (ht.run [] z1 (L2.start N [.ref a]) G _ (inv_start S hr.hd e0 rfl (.cons rfl .nil) x1) hq) (fun fl z2 hs => ?_) fun _ _ hs => hs
  cases fl with
  | ret u =>
    obtain ⟨v, _, G2, J, rv, q⟩ := hs
    exact ⟨v, G2, J.os, J.bare, J.base, J.hok, rv, q⟩
  | next =>
    obtain ⟨_, G2, J, q⟩ := hs
    exact ⟨.non, G2, J.os, J.bare, J.base, J.hok, rfl, q⟩
  | brk => exact hs.elim fun _ r => r.elim fun _ r => r.2.elim
  | cont => exact hs.elim fun _ r => r.elim fun _ r => r.2.elim
/-- a law's promise: True of a list of up to 63 numbers -/
def spLaw (K : PySem.W.Frag) : Sp := fun vs H Q _ => ∃ (a : Addr) (ns : List Int), vs = [.ref a] ∧ SqL K H a (ns.map V.int) ∧ ns.length ≤ 63 ∧ ∀ H', Q (.bl true) H'
theorem top_walk {l : PySem.W.OpenLaw} {q : Program} {loose : List Str} {XP : (Str → Option Value) → Heap → Prop} {YP : World → Heap → Prop} {d : DefRec} {K : Params → PySem.W.Frag} (hn : l.most = some 63) (hdf : d.params.defaults = [])
    (hY : ∀ (w : World) (h : Heap), YP w h → (K w.params).In h)
    (F : ∀ (w : World) (mg : Str → Option Value) (fa : Addr) (h : Heap), (K w.params).In h → h.Ns mainGlobals mg → mg d.name = some (.ref fa) →
      ∀ base : Heap, (K w.params).In base → base.Ns mainGlobals mg → TopOk l.prog w (K w.params) mg base fa (spLaw (K w.params))) :
    PySem.W.WalkO q loose XP YP l.row.toRowW d [] (fun f vs => PySem.call f vs) := by
  refine Att.attach_call hn hdf fun w z0 z mg mb fa o pm cd doc a vs ns G Y ho hd hcd hmg hobj hints hlen hg => ?_
  have kin := hY w _ Y
  have size : ns.length ≤ sizeLine := Nat.le_trans hlen (by decide)
  have rel := vals_ints hints
  have obj : ObjOk l.prog w (fun b => if b = a then some (HO.frz { cls := .type "list", data := .seq vs.toArray } (.lst (ns.map V.int))) else none) z.heap a (.frz { cls := .type "list", data := .seq vs.toArray } (.lst (ns.map V.int))) := ⟨hobj, by rw [List.length_map]; exact size, vs, _, rel, hobj⟩
  -- the tracked heap: the script alone, or nothing where the module knows it
  obtain ⟨T, t1, t2, t3, t4⟩ : ∃ T : Hp, SqL (K w.params) T a (ns.map V.int) ∧ HOk l.prog w T z.heap ∧ (∀ b u, T b = some u → b = a ∧ ∃ o xs, u = .frz o (.lst xs)) ∧ (T a ≠ none → (K w.params).lookup a = none) := by
    cases lk : (K w.params).lookup a with
    | none =>
      refine ⟨fun b => if b = a then some (HO.frz { cls := .type "list", data := .seq vs.toArray } (.lst (ns.map V.int))) else none, .inl (.inr ⟨{ cls := .type "list", data := .seq vs.toArray }, if_pos rfl⟩), fun b u e => ?_, fun b u e => ?_, fun _ => rfl⟩
      all_goals
        by_cases c : b = a
        · have e2 := (if_pos c).symm.trans e
          cases e2
          subst c
          first | exact obj | exact ⟨rfl, _, _, rfl⟩
        · have e2 := (if_neg c).symm.trans e
          cases e2
    | some u =>
      have e := kin a u lk
      rw [hobj] at e
      cases e
      exact ⟨fun _ => none, .inr ⟨_, vs.toArray, _, lk, rfl, rfl, rfl, by rw [List.size_toArray, hints.length]; exact size, by simpa using rel⟩, (fun _ _ e => nomatch e), (fun _ _ e => nomatch e), fun c => absurd rfl c⟩
  have dic : ∀ {b : Addr} {ob : Obj} {es : Array DictEntry} {n : Nat}, z.heap.get? b = some ob → ob.data = .dict es n → T b = none := fun {b ob es n} e1 e2 => by
    cases c : T b with
    | none => rfl
    | some u =>
      have e3 := (t3 b u c).1
      subst e3
      rw [hobj] at e1
      cases e1
      exact nomatch e2
  have ns1 : ∀ {b : Addr} {m : Str → Option Value}, z.heap.Ns b m → (hidT z.heap T).Ns b m := fun ⟨ob, es, n, e1, e2, r⟩ => ⟨ob, es, n, hidT_get e1 (dic e1 e2), e2, r⟩
  have kin1 : (K w.params).In (hidT z.heap T) := fun b ob e => hidT_get (kin b ob e) (by
    cases c : T b with
    | none => rfl
    | some u =>
      have e3 := (t3 b u c).1
      subst e3
      rw [t4 (by rw [c]; exact fun z => nomatch z)] at e
      cases e)
  have env : Env0 l.prog w (K w.params) mg (hidT z.heap T) callerA [] z T := by
    refine ⟨rfl, ⟨kin1, ns1 G.T.g, ⟨mb, ns1 G.T.b, G.T.builtins⟩, ?_⟩, fun b ob e => of_hidT e, Nat.le_of_eq (hidT_size _ _), trivial, (fun b m => nomatch (show b ∈ ([] : List Addr) from m)), t2, .of_eq hg⟩
    obtain ⟨mc, h1, h2⟩ := G.T.nolimit
    exact ⟨mc, ns1 h1, h2⟩
  refine codeAny_mono (F w mg fa _ kin G.T.g hmg _ kin1 (ns1 G.T.g) z T a (fun v _ => v = .bl true) (fun _ _ _ => False) env ⟨a, ns, rfl, t1, hlen, fun _ => rfl⟩) fun r z2 hr => ?_
  match r, hr with
  | .error e, hr => exact False.elim (by
      obtain ⟨_, _, _, _, _, _, _, _, _, _, _, _, x⟩ := hr
      exact x)
  | .ok .next, hr => exact hr.elim
  | .ok .brk, hr => exact hr.elim
  | .ok .cont, hr => exact hr.elim
  | .ok (.ret u), ⟨v, T2, os, bare, un, ok2, rv, hv⟩ =>
    have hv2 : v = .bl true := hv
    subst hv2
    have e : u = Value.bool true := rv
    subst e
    refine ⟨rfl, OldK.of_keep fun b ob e => ?_, os, bare⟩
    cases c : T b with
    | none => exact un.keep b ob e c (fun m => nomatch (show b ∈ ([] : List Addr) from m)) (fun m => nomatch (show b ∈ ([] : List Addr) from m))
    | some u =>
      obtain ⟨_, o2, xs, rfl⟩ := t3 b u c
      obtain ⟨g1, _⟩ := t2 b _ c
      obtain ⟨g2, _⟩ := ok2 b _ (un.frzs b o2 _ c)
      rw [e] at g1
      cases g1
      exact g2
end TU

set_option Elab.async false
set_option linter.all false
set_option maxRecDepth 100000
namespace TU
open PySem PySem.Spec PyProof.Rows L2
/-! ### what repr shows, and how long that may be -/
/-- of size n, depth m; j: no list within -/
structure Vw (n m : Nat) (j : Bool) (d : Tr) : Prop where
  sh : (py d).showable = true
  sl : (py d).leavesShort 13 = true
  bk : (py d).bulk ≤ n
  dp : dep d ≤ m
  nl : j = true → nol d = true
theorem Vw.le {n m n' m' : Nat} {j : Bool} {d : Tr} (v : Vw n m j d) (h : n ≤ n') (h' : m ≤ m') : Vw n' m' j d := ⟨v.sh, v.sl, Nat.le_trans v.bk h, Nat.le_trans v.dp h', v.nl⟩
structure Vws (n m : Nat) (j : Bool) (ds : List Tr) : Prop where
  sh : PyData.showableAll (pys ds) = true
  sl : PyData.leavesShortAll 13 (pys ds) = true
  bk : PyData.bulkAll (pys ds) ≤ n
  dp : deps ds ≤ m
  nl : j = true → nols ds = true
theorem Vws.nil {m : Nat} {j : Bool} : Vws 0 m j [] := ⟨rfl, rfl, Nat.le_refl _, Nat.zero_le _, fun _ => rfl⟩
theorem Vws.cons {a b m : Nat} {j : Bool} {d : Tr} {ds : List Tr} (v : Vw a m j d) (vs : Vws b m j ds) : Vws (a + 1 + b) m j (d :: ds) := by
  refine ⟨?_, ?_, ?_, Nat.max_le.mpr ⟨v.dp, vs.dp⟩, fun h => ?_⟩
  · simp only [pys, PyData.showableAll, v.sh, vs.sh, Bool.and_self]
  · simp only [pys, PyData.leavesShortAll, v.sl, vs.sl, Bool.and_self]
  · have := v.bk
    have := vs.bk
    simp only [pys, PyData.bulkAll]
    omega
  · simp only [nols, v.nl h, vs.nl h, Bool.and_self]
theorem Vws.all {a m : Nat} {j : Bool} : ∀ {ds : List Tr}, (∀ d ∈ ds, Vw a m j d) → Vws ((a + 1) * ds.length) m j ds
  | [], _ => .nil
  | d :: ds, h => by
    have v := Vws.cons (h d List.mem_cons_self) (Vws.all fun x hx => h x (List.mem_cons_of_mem _ hx))
    rw [List.length_cons, Nat.mul_add, Nat.mul_one, Nat.add_comm]
    exact v
theorem Vw.tup {n m : Nat} {j : Bool} {ds : List Tr} (v : Vws n m j ds) : Vw n (m + 1) j (.tup ds) := ⟨by simp only [py, PyData.showable]; exact v.sh, by simp only [py, PyData.leavesShort]; exact v.sl, by simp only [py, PyData.bulk]; exact v.bk, Nat.succ_le_succ v.dp, fun h => by simp only [nol]; exact v.nl h⟩
theorem Vw.lst {n m : Nat} {j : Bool} {ds : List Tr} (v : Vws n m j ds) : Vw n (m + 1) false (.lst ds) := ⟨by simp only [py, PyData.showable]; exact v.sh, by simp only [py, PyData.leavesShort]; exact v.sl, by simp only [py, PyData.bulk]; exact v.bk, Nat.succ_le_succ v.dp, fun h => nomatch h⟩
theorem Vw.bl {b j : Bool} : Vw 0 0 j (.bl b) := ⟨rfl, rfl, Nat.le_refl _, Nat.le_refl _, fun _ => rfl⟩
theorem Vw.non {j : Bool} : Vw 0 0 j .non := ⟨rfl, rfl, Nat.le_refl _, Nat.le_refl _, fun _ => rfl⟩
/-- a text: each sign a sign -/
def Pla (n : Nat) (s : Str) : Prop := (s.cps.toList.all fun c => decide (c < 16 ^ 8)) = true ∧ s.cps.size ≤ n
instance (n : Nat) (s : Str) : Decidable (Pla n s) := inferInstanceAs (Decidable (_ ∧ _))
theorem Vw.str {n : Nat} {j : Bool} {s : Str} (h : Pla n s) : Vw n 0 j (.str s) := ⟨rfl, h.1, h.2, Nat.le_refl _, fun _ => rfl⟩
def Sho (i : Int) : Prop := i.natAbs.log2 < 1920 ∧ (PyData.shown (.int i)).length ≤ 13
instance (i : Int) : Decidable (Sho i) := inferInstanceAs (Decidable (_ ∧ _))
theorem Vw.int {j : Bool} {i : Int} (h : Sho i) : Vw 0 0 j (.int i) := ⟨decide_eq_true h.1, decide_eq_true h.2, Nat.le_refl _, Nat.le_refl _, fun _ => rfl⟩
theorem small_sho : ∀ k : Fin 1000, Sho (k.val : Int) := by decide +kernel
theorem sho_of {i : Int} (h0 : 0 ≤ i) (h1 : i < 1000) : Sho i := by
  have := small_sho ⟨i.toNat, by omega⟩
  rw [show (i : Int) = ((⟨i.toNat, by omega⟩ : Fin 1000).val : Int) from by show i = (i.toNat : Int); omega]
  exact this
/-- a dict whose keys are texts -/
structure Vwk (n m : Nat) (j : Bool) (ks : List (Key × Tr)) : Prop where
  sh : PyData.showableKv (pyk ks) = true
  sl : PyData.leavesShortKv 13 (pyk ks) = true
  bk : PyData.bulkKv (pyk ks) ≤ n
  dp : depk ks ≤ m
  nl : j = true → nolk ks = true
theorem Vwk.all {c a m : Nat} {j : Bool} : ∀ {ks : List (Key × Tr)}, (∀ p ∈ ks, (∃ s, p.1 = .inr s ∧ Pla c s) ∧ Vw a m j p.2) → Vwk ((c + a + 2) * ks.length) m j ks
  | [], _ => ⟨rfl, rfl, Nat.le_refl _, Nat.zero_le _, fun _ => rfl⟩
  | (k, d) :: ks, h => by
    obtain ⟨⟨s, e, ps⟩, v⟩ := h _ List.mem_cons_self
    have e' : k = .inr s := e
    subst e'
    have vs := Vwk.all fun p hp => h p (List.mem_cons_of_mem _ hp)
    refine ⟨?_, ?_, ?_, Nat.max_le.mpr ⟨v.dp, vs.dp⟩, fun q => ?_⟩
    · simp only [pyk, PyData.showableKv, PyData.showable, v.sh, vs.sh, Bool.and_self]
    · have e : (PyData.str s).leavesShort 13 = true := ps.1
      simp only [pyk, PyData.leavesShortKv, e, v.sl, vs.sl, Bool.and_self]
    · have b1 := v.bk
      have b2 := vs.bk
      have b3 := ps.2
      rw [List.length_cons, Nat.mul_add, Nat.mul_one]
      simp only [pyk, PyData.bulkKv, PyData.bulk]
      simp only at b1
      omega
    · simp only [nolk, v.nl q, vs.nl q, Bool.and_self]
theorem Vw.dic {n m : Nat} {j : Bool} {ks : List (Key × Tr)} (v : Vwk n m j ks) : Vw n (m + 1) j (.dic ks) := ⟨by simp only [py, PyData.showable]; exact v.sh, by simp only [py, PyData.leavesShort]; exact v.sl, by simp only [py, PyData.bulk]; exact v.bk, Nat.succ_le_succ v.dp, fun h => by simp only [nol]; exact v.nl h⟩
theorem Vw.len {n m : Nat} {j : Bool} {d : Tr} (v : Vw n m j d) : (py d).shown.length ≤ 15 * n + 13 := by
  have h := PyData.shown_le_bulk 13 (by decide) (py d) v.sl
  have : (13 + 2) * (py d).bulk ≤ 15 * n := Nat.mul_le_mul (by decide) v.bk
  omega
section
variable {K : PySem.W.Frag} {H : Hp} {Q : VK} {N : Addr → Prop} {a : Addr}
/-- repr of a tree without dicts, or without lists -/
theorem q_reprN {n m : Nat} {d : Tr} (t : T K H N (.ref a) d) (v : Vw n m true d) (hn : n ≤ 100000) (hm : m ≤ 60) (q : Q (.str (py d).shown) H) : rReprT K [.ref a] H Q :=
  ⟨N, a, d, rfl, t, v.sh, fun _ => v.nl rfl, Nat.le_trans v.dp hm, Nat.le_trans v.len (Nat.le_trans (show 15 * n + 13 ≤ 15 * 100000 + 13 by omega) (by decide)), q⟩
theorem q_reprL {n m : Nat} {j : Bool} {d : Tr} (t : T K H N (.ref a) d) (v : Vw n m j d) (nd : (py d).hasDict = false) (hn : n ≤ 100000) (hm : m ≤ 60) (q : Q (.str (py d).shown) H) : rReprT K [.ref a] H Q :=
  ⟨N, a, d, rfl, t, v.sh, (fun z => absurd (nd.symm.trans z) (by decide)), Nat.le_trans v.dp hm, Nat.le_trans v.len (Nat.le_trans (show 15 * n + 13 ≤ 15 * 100000 + 13 by omega) (by decide)), q⟩
mutual
theorem hasDict_py : ∀ d : Tr, nod d = true → (py d).hasDict = false
  | .non, _ => rfl
  | .bl _, _ => rfl
  | .int _, _ => rfl
  | .str _, _ => rfl
  | .lst xs, h => by
    simp only [py, PyData.hasDict]
    exact hasDict_pys xs (by simpa [nod] using h)
  | .tup xs, h => by
    simp only [py, PyData.hasDict]
    exact hasDict_pys xs (by simpa [nod] using h)
  | .dic _, h => by simp [nod] at h
theorem hasDict_pys : ∀ ds : List Tr, nods ds = true → PyData.hasDictAll (pys ds) = false
  | [], _ => rfl
  | x :: xs, h => by
    have h' : nod x = true ∧ nods xs = true := by simpa [nods] using h
    simp only [pys, PyData.hasDictAll, hasDict_py x h'.1, hasDict_pys xs h'.2, Bool.or_self]
end
end
end TU

set_option Elab.async false
set_option linter.all false
set_option maxRecDepth 100000
namespace TU
open PySem PySem.Spec PyProof.Rows L2
/-- all entries are such -/
def All (P : Tr → Prop) (h : Hs) : Prop := ∀ q ∈ h, ∀ x ∈ q.2, P x.2
def EdP (P : Tr → Prop) (e : Ed) : Prop := ∀ k n d, e = .put k n d → P d
section
variable {P : Tr → Prop}
theorem All.lk {h : Hs} (a : All P h) {k n : Str} {t : Tab} {d : Tr} (e : lk h k = some t) (e2 : lk t n = some d) : P d := a _ (lk_mem e) _ (lk_mem e2)
theorem All.cp {h : Hs} (a : All P h) : All P (cpH h) := fun q hq x hx => by
  obtain ⟨p, hp, rfl⟩ := List.mem_map.mp hq
  obtain ⟨n, hn, e⟩ := List.mem_map.mp (show x ∈ (srt (nms p.2)).map fun n => (n, (TU.lk p.2 n).getD default) from hx)
  have m : n ∈ nms p.2 := (srt_perm _).mem_iff.mp hn
  obtain ⟨d, hd⟩ := lk_mem_nms m
  rw [← e]
  show P ((TU.lk p.2 n).getD default)
  rw [hd]
  exact a p hp _ (lk_mem hd)
theorem app1_all {h h' : Hs} {e : Ed} (a : All P h) (b : EdP P e) (ha : app1 h e = .ok h') : All P h' := by
  cases q : TU.lk h e.key with
  | none =>
    simp only [app1, q] at ha
    cases ha
  | some t =>
    have hm := lk_mem q
    cases e with
    | put k m d =>
      simp only [app1, q] at ha
      cases ha
      intro p hp x hx
      rcases mem_put hp with c | c
      · exact a p c x hx
      · rw [c] at hx
        rcases mem_put hx with c2 | c2
        · exact a _ hm x c2
        · rw [c2]
          exact b _ _ _ rfl
    | drop k m =>
      by_cases hin : m ∈ nms t
      · simp only [app1, q, if_pos hin] at ha
        cases ha
        intro p hp x hx
        rcases mem_put hp with c | c
        · exact a p c x hx
        · rw [c] at hx
          exact a _ hm x (mem_del hx)
      · simp only [app1, q, if_neg hin] at ha
        cases ha
theorem appAll_all : ∀ {es : List Ed} {h h' : Hs}, All P h → (∀ e ∈ es, EdP P e) → appAll h es = .ok h' → All P h'
  | [], h, h', n, hn, ha => by
    cases ha
    exact n
  | e :: es, h, h', n, hn, ha => by
    rw [appAll_cons] at ha
    cases q : app1 h e with
    | error x =>
      rw [q] at ha
      cases ha
    | ok h1 =>
      rw [q] at ha
      exact appAll_all (app1_all n (hn e List.mem_cons_self) q) (fun x hx => hn x (List.mem_cons_of_mem _ hx)) ha
theorem inv1_all {h : Hs} {e : Ed} (a : All P h) : EdP P (inv1 h e) := fun k n d z => by
  unfold inv1 at z
  cases q : TU.lk h e.key with
  | none =>
    rw [q] at z
    cases z
  | some t =>
    rw [q] at z
    cases q2 : TU.lk t e.name with
    | none =>
      simp only [q2] at z
      cases z
    | some d2 =>
      simp only [q2] at z
      cases z
      exact a.lk q q2
end
theorem nods_all : ∀ {ds : List Tr}, (∀ d ∈ ds, TU.nod d = true) → nods ds = true
  | [], _ => rfl
  | d :: ds, h => by
    have h1 := h d List.mem_cons_self
    have h2 := nods_all fun x hx => h x (List.mem_cons_of_mem _ hx)
    simp only [nods, h1, h2, Bool.and_self]
theorem Ed.nod {e : Ed} (i : e.Imm) : TU.nod e.tr = true := by
  cases e with
  | put k n d =>
    have := nod_of_imm (show imm d = true from i)
    simp only [Ed.tr, TU.nod, nods, this, Bool.and_self]
  | drop k n => rfl
theorem deps_all {n : Nat} : ∀ {ds : List Tr}, (∀ d ∈ ds, TU.dep d ≤ n) → deps ds ≤ n
  | [], _ => Nat.zero_le _
  | d :: ds, h => Nat.max_le.mpr ⟨h d List.mem_cons_self, deps_all fun x hx => h x (List.mem_cons_of_mem _ hx)⟩
theorem invs_all {P : Tr → Prop} : ∀ {es : List Ed} {h : Hs}, All P h → (∀ e ∈ es, EdP P e) → ∀ e ∈ invs h es, EdP P e
  | [], h, a, b, e, m => nomatch m
  | e :: es, h, a, b, x, m => by
    unfold invs at m
    rcases List.mem_cons.mp m with rfl | m
    · exact inv1_all a
    · cases q : app1 h e with
      | error z =>
        rw [q] at m
        cases m
      | ok h1 =>
        rw [q] at m
        exact invs_all (app1_all a (b e List.mem_cons_self) q) (fun y hy => b y (List.mem_cons_of_mem _ hy)) x m
theorem Ed.dep {e : Ed} (i : EdP (fun d => TU.dep d ≤ 50) e) : TU.dep e.tr ≤ 51 := by
  cases e with
  | put k n d =>
    have := i _ _ _ rfl
    simp only [Ed.tr, TU.dep, deps]
    omega
  | drop k n => exact (by decide : 1 ≤ 51)
section
variable {K : PySem.W.Frag} {H : Hp} {Q : VK}
theorem q_neR {x y : V} {d : Tr} (hx : T K H ff x d) (hy : T K H ff y d) (n : nod d = true) (m : dep d ≤ 60) (k : Q (.bl false) H) : rNeU K x y H Q := by
  refine q_neT hx hy n n m ?_
  rw [eqb_refl n]
  exact k
theorem q_eqR {x y : V} {d : Tr} (hx : T K H ff x d) (hy : T K H ff y d) (n : nod d = true) (m : dep d ≤ 60) (k : Q (.bl true) H) : rEqU K x y H Q := by
  refine q_eqT hx hy n n m ?_
  rw [eqb_refl n]
  exact k
theorem q_eqSS {s : Str} (k : Q (.bl true) H) : rEqU K (.str s) (.str s) H Q := q_eqS (by rw [decide_eq_true rfl]; exact k)
theorem q_neSS {s : Str} (k : Q (.bl false) H) : rNeU K (.str s) (.str s) H Q := q_neS (by rw [decide_eq_true rfl]; exact k)
end
/-- one edit, in all the forms that the laws ask for -/
structure Step (s : Hs) (e : Ed) (g u : Hs) : Prop where
  a1 : app1 s e = .ok g
  a2 : app1 (cpH s) e = .ok g
  b : app1 (cpH (cpH g)) (inv1 s e) = .ok u
  c : cpH u = s
theorem step_of {f f' : Hs} {e : Ed} (w : Wf f) (im : e.Imm) (h : app1 f e = .ok f') : ∃ g u, Step (cpH f) e g u ∧ cpH f' = cpH g ∧ Wf g ∧ Wf u ∧ nms g = nms f ∧ nms u = nms f := by
  obtain ⟨g, hg, hc⟩ := app1_cp w w.cp (cp_cp w).symm h
  obtain ⟨wg, ng⟩ := app1_wf w.cp im hg
  obtain ⟨u, hu, hcu⟩ := undo1 w.cp hg
  obtain ⟨v, hv, hcv⟩ := app1_cp wg wg.cp (cp_cp wg).symm hu
  obtain ⟨wv, nv⟩ := app1_wf wg.cp (inv1_imm w.cp e) hv
  rw [nms_cp] at ng nv
  refine ⟨g, v, ⟨hg, by rw [cp_cp w]; exact hg, by rw [cp_cp wg]; exact hv, ?_⟩, hc, wg, wv, ng, nv.trans ng⟩
  rw [← hcv, hcu, cp_cp w]
theorem appAll_next {h f hz : Hs} {es : List Ed} {i : Nat} {e : Ed} (he : es[i]? = some e) (ha : appAll h (es.take i) = .ok f) (hz : appAll h es = .ok hz) : ∃ f', app1 f e = .ok f' := by
  cases q : app1 f e with
  | ok f' => exact ⟨f', rfl⟩
  | error x =>
    rw [appAll_stop he ha q] at hz
    cases hz
theorem nt_rd {H : Hp} {a : Addr} {kvs : List (Key × V)} {xs : List V} (h : Rd H a (.dK kvs)) (h' : Rd H a (.tup xs)) : False := by
  rcases h with e | ⟨o, e⟩ <;> rcases h' with e' | ⟨o', e'⟩ <;> (rw [e] at e'; cases e')
end TU

set_option Elab.async false
set_option linter.all false
set_option maxRecDepth 100000
namespace TU
open PySem PySem.Spec PyProof.Rows L2
/-! ### what the top has written -/
theorem top_mk {K : PySem.W.Frag} {h : Heap} {mg : Str → Option Value} {x : Str} {st : Stmt} {ps : List Str} {f : Addr} {oc : Value} {od an : Option Addr} {osl : Array (Option Value)} {kV doc pm cdv ct : Value} (X : K.In h) (G : h.Ns mainGlobals mg)
    (ha : PySem.W.nsIn K mainGlobals x = some (some (.ref f))) (hl : K.lookup f = some ⟨oc, od, .func (PySem.W.fnOf x x (defArgs st) (defBody st) (defScope st) .none kV doc pm an cdv ct), osl⟩) (hc : PySem.W.codeIn K cdv x = true) (hk : PySem.W.keepIn K (.ref f) = true)
    (hb : ∀ (kV doc pm : Value) (an : Option Addr) (cdv ct : Value) (us : List Value), us.length = ps.length → bindArgs (PySem.W.fnOf x x (defArgs st) (defBody st) (defScope st) .none kV doc pm an cdv ct) ⟨us, []⟩ = pure (ps.zip us)) : TopF K mg x st ps :=
  ⟨f, _, fun_mk hl hc hk, PySem.W.mg_of X G ha, (fun_mk hl hc hk).binds hb⟩
/-- an error of its own class is caught by it -/
theorem exm_me {K : PySem.W.Frag} {C : Addr} (h1 : PySem.W.subIn K (.ref C) (.type "BaseException") = some true) (h2 : PySem.W.isClsIn K C = true) (h3 : PySem.W.typeIn K (.ref C) = some (.type "type")) (h4 : PySem.W.subIn K (.ref C) (.ref C) = some true) :
    PySem.W.exmOne K (.ref C) (.ref C) = some true := by
  have c1 : (PySem.W.clsIn K C).isSome = true := h2
  have c2 : ((PySem.W.clsIn K C).isSome && PySem.W.typeIn K (.ref C) == some (.type "type")) = true := by
    rw [c1, h3]
    rfl
  have c3 : (PySem.W.subIn K (.ref C) (.type "BaseException") == some true) = true := by
    rw [h1]
    rfl
  unfold PySem.W.exmOne
  simp only [c3, if_true]
  unfold PySem.W.kitCls
  simp only [c2, if_true]
  exact h4
theorem xc_mk2 {P : Program} {w : World} {K : PySem.W.Frag} {h : Heap} {mg : Str → Option Value} {base : Heap} {x qual f1 f2 : Str} {st : Stmt} {C f : Addr} (X : K.In h) (G : h.Ns mainGlobals mg)
    {nm q : Str} {N : Addr} {bs bm : List Value} {sn : List Str} {sub : List Value} {ab : Bool} {col : Option Bool} {dd : Option Addr} {m0 m1 m2 m3 m5 : Option Value}
    {od an : Option Addr} {sl : Array (Option Value)} {oc kV dc pm cd ct : Value} {p1 p2 p3 p4 q1 q2 q3 q4 : Pos}
    (aC : PySem.W.nsIn K mainGlobals x = some (some (.ref C))) (xL : K.lookup C = some (excClassObj nm q C N bs bm true sn sub ab col dd m0 m1 m2 m3 m5 "ValueError.__new__")) (xb : PySem.HandSPX.refsVE bm = true)
    (sa : PySem.W.findIn K (.ref C) "__setattr__" = some (some (.builtin "object.__setattr__"))) (ga : PySem.W.findIn K (.ref C) "__getattribute__" = some (some (.builtin "BaseException.__getattribute__"))) (gg : PySem.W.findIn K (.ref C) "__getattr__" = some none)
    (n1 : PySem.W.findIn K (.ref C) f1 = some none) (n2 : PySem.W.findIn K (.ref C) f2 = some none)
    (a1 : PySem.W.findIn K (.ref C) "__init__" = some (some (.ref f))) (t1 : PySem.W.typeIn K (.ref f) = some (.type "function"))
    (l1 : K.lookup f = some ⟨oc, od, .func (PySem.W.fnOf "__init__" qual (defArgs st) (defBody st) (defScope st) .none kV dc pm an cd ct), sl⟩) (c1 : PySem.W.codeIn K cd qual = true) (k1 : PySem.W.keepIn K (.ref f) = true)
    (kC : PySem.W.keepIn K (.ref C) = true) (eC : PySem.W.subIn K (.ref C) (.type "BaseException") = some true) (tC : PySem.W.typeIn K (.ref C) = some (.type "type")) (hC : PySem.W.hasDictIn K C = true) (iC : PySem.W.isClsIn K C = true) (sC : PySem.W.subIn K (.ref C) (.ref C) = some true)
    (S : FnScope ["self", f1, f2] ["self", f1, f2] (defScope st)) (hb : defBody st = [.Assign [.Attribute (.Name "self" p1) f1 p2] (.Name f1 p3) p4, .Assign [.Attribute (.Name "self" q1) f2 q2] (.Name f2 q3) q4])
    (d1 : (f1 == ("__debug__" : Str)) = false) (d2 : (f1 == ("__classdict__" : Str)) = false) (e1 : (f2 == ("__debug__" : Str)) = false) (e2 : (f2 == ("__classdict__" : Str)) = false)
    (v0 : Vis (defScope st) "self") (v1 : Vis (defScope st) f1) (v2 : Vis (defScope st) f2)
    (bi : ∀ (kV doc pm : Value) (an : Option Addr) (cdv ct : Value) (us : List Value), us.length = 3 → bindArgs (PySem.W.fnOf "__init__" qual (defArgs st) (defBody st) (defScope st) .none kV doc pm an cdv ct) ⟨us, []⟩ = pure ((["self", f1, f2] : List Str).zip us)) :
    Xc P w K mg base x [f1, f2] C := by
  have T : OexC K C := ⟨⟨nm, q, N, bs, bm, sn, sub, ab, col, dd, m0, m1, m2, m3, m5, xL, xb⟩, sa, eC, tC, kC⟩
  have F := fun_mk (st := st) l1 c1 k1
  refine ⟨T, ⟨ga, gg, eC, hC⟩, PySem.W.mg_of X G aC, fun y hy => ?_, exm_me eC iC tC sC, f, _, a1, t1, ok_init2 F S hb T n1 n2 d1 d2 e1 e2 v0 v1 v2, F.binds bi⟩
  rcases List.mem_cons.mp hy with rfl | hy
  · exact n1
  · rw [List.mem_singleton.mp hy]
    exact n2
end TU

set_option Elab.async false
set_option linter.all false
set_option maxRecDepth 100000
namespace TU
open PySem PySem.Spec PyProof.Rows L2
/-! ### sorted lists of pairs of texts -/
abbrev SP := Str × Str
def lexS (p q : SP) : Bool := if p.1 = q.1 then ltS p.2 q.2 else ltS p.1 q.1
theorem lexS_eq {p q : SP} (h : p.1 = q.1) : lexS p q = ltS p.2 q.2 := if_pos h
theorem lexS_ne {p q : SP} (h : ¬ p.1 = q.1) : lexS p q = ltS p.1 q.1 := if_neg h
theorem lexS_asymm {p q : SP} (h : lexS p q = true) : lexS q p = false := by
  by_cases e : p.1 = q.1
  · rw [lexS_eq e] at h
    rw [lexS_eq e.symm]
    exact ltS_asymm h
  · rw [lexS_ne e] at h
    rw [lexS_ne (Ne.symm e)]
    exact ltS_asymm h
theorem lexS_tri {p q : SP} (h1 : lexS p q = false) (h2 : lexS q p = false) : p = q := by
  by_cases e : p.1 = q.1
  · rw [lexS_eq e] at h1
    rw [lexS_eq e.symm] at h2
    exact Prod.ext e (ltS_tri h1 h2)
  · rw [lexS_ne e] at h1
    rw [lexS_ne (Ne.symm e)] at h2
    exact absurd (ltS_tri h1 h2) e
theorem lexS_trans {p q r : SP} (h1 : lexS p q = true) (h2 : lexS q r = true) : lexS p r = true := by
  by_cases e : p.1 = q.1
  · rw [lexS_eq e] at h1
    by_cases e2 : q.1 = r.1
    · rw [lexS_eq e2] at h2
      rw [lexS_eq (e.trans e2)]
      exact ltS_trans h1 h2
    · rw [lexS_ne e2] at h2
      rw [lexS_ne (by rw [e]; exact e2), e]
      exact h2
  · rw [lexS_ne e] at h1
    by_cases e2 : q.1 = r.1
    · rw [lexS_ne (by rw [← e2]; exact e), ← e2]
      exact h1
    · rw [lexS_ne e2] at h2
      have h3 := ltS_trans h1 h2
      rw [lexS_ne fun z => ?_]
      · exact h3
      · rw [z, ltS_irr] at h3
        cases h3
theorem swo_lexS {α : Type} (k : α → SP) : SrtO.Swo fun v u => lexS (k v) (k u) := by
  refine ⟨fun x y h => lexS_asymm h, fun x y z h1 h2 => ?_⟩
  cases q : lexS (k z) (k x) with
  | false => rfl
  | true =>
    cases q2 : lexS (k x) (k y) with
    | true =>
      have := lexS_trans q q2
      rw [show lexS (k z) (k y) = false from h2] at this
      cases this
    | false =>
      have e := lexS_tri q2 h1
      rw [e] at q
      rw [show lexS (k z) (k y) = false from h2] at q
      cases q
def insP (x : SP) : List SP → List SP
  | [] => [x]
  | y :: r => if lexS y x = true then y :: insP x r else x :: y :: r
def srtP : List SP → List SP
  | [] => []
  | x :: r => insP x (srtP r)
theorem insP_perm (x : SP) : ∀ l : List SP, (insP x l).Perm (x :: l)
  | [] => List.Perm.refl _
  | y :: r => by
    unfold insP
    by_cases h : lexS y x = true
    · rw [if_pos h]
      exact ((insP_perm x r).cons y).trans (List.Perm.swap x y r)
    · rw [if_neg h]
theorem srtP_perm : ∀ l : List SP, (srtP l).Perm l
  | [] => List.Perm.refl _
  | x :: r => (insP_perm x (srtP r)).trans ((srtP_perm r).cons x)
/-- no later one is below an earlier one -/
def AscP (l : List SP) : Prop := l.Pairwise fun x y => lexS y x = false
theorem insP_asc (x : SP) : ∀ {l : List SP}, AscP l → AscP (insP x l)
  | [], _ => List.pairwise_singleton _ _
  | y :: r, h => by
    have hc := List.pairwise_cons.mp h
    unfold insP
    by_cases c : lexS y x = true
    · rw [if_pos c]
      refine List.pairwise_cons.mpr ⟨fun z hz => ?_, insP_asc x hc.2⟩
      rcases List.mem_cons.mp ((insP_perm x r).mem_iff.mp hz) with e | hz
      · rw [e]
        exact lexS_asymm c
      · exact hc.1 z hz
    · rw [if_neg c]
      have c' : lexS y x = false := by cases q : lexS y x with
        | true => exact absurd q c
        | false => rfl
      refine List.pairwise_cons.mpr ⟨fun z hz => ?_, h⟩
      rcases List.mem_cons.mp hz with e | hz
      · rw [e]
        exact c'
      · exact (swo_lexS (fun x : SP => x)).tr _ _ _ c' (hc.1 z hz)
theorem srtP_asc : ∀ l : List SP, AscP (srtP l)
  | [] => List.Pairwise.nil
  | x :: r => insP_asc x (srtP_asc r)
theorem ascP_uniq : ∀ {l m : List SP}, AscP l → AscP m → l.Perm m → l = m
  | [], m, _, _, p => (List.nil_perm.mp p).symm
  | x :: l, [], _, _, p => absurd (List.perm_nil.mp p) (by simp)
  | x :: l, y :: m, hl, hm, p => by
    have h1 := List.pairwise_cons.mp hl
    have h2 := List.pairwise_cons.mp hm
    have e : x = y := by
      rcases List.mem_cons.mp (p.mem_iff.mp List.mem_cons_self) with e | mx
      · exact e
      · rcases List.mem_cons.mp (p.mem_iff.mpr (List.mem_cons_self (a := y) (l := m))) with e | my
        · exact e.symm
        · exact lexS_tri (h2.1 x mx) (h1.1 y my)
    subst e
    rw [ascP_uniq h1.2 h2.2 p.cons_inv]
theorem srtP_is {l m : List SP} (p : m.Perm l) (h : AscP m) : m = srtP l := ascP_uniq h (srtP_asc l) (p.trans (srtP_perm l).symm)
theorem srtP_of {l m : List SP} (p : l.Perm m) : srtP l = srtP m := ascP_uniq (srtP_asc l) (srtP_asc m) (((srtP_perm l).trans p).trans (srtP_perm m).symm)
/-! the values -/
def IsPS (h : Heap) (v : Value) (p : SP) : Prop := ∃ a o t u n, v = .ref a ∧ h.get? a = some o ∧ o.cls = .type "tuple" ∧ o.data = .seq #[.str p.1 t, .str p.2 u] n
theorem IsPS.keeps {h h' : Heap} {v : Value} {p : SP} (x : IsPS h v p) (k : ∀ b o, h.get? b = some o → o.cls = .type "tuple" → h'.get? b = some o) : IsPS h' v p := by
  obtain ⟨a, o, t, u, n, e, ho, hc, hd⟩ := x
  exact ⟨a, o, t, u, n, e, k _ _ ho hc, hc, hd⟩
theorem IsPS.uniq {h : Heap} {v : Value} {p q : SP} (x : IsPS h v p) (y : IsPS h v q) : p = q := by
  obtain ⟨a, o, t, u, n, e, ho, hc, hd⟩ := x
  obtain ⟨a', o', t', u', n', e', ho', hc', hd'⟩ := y
  subst e
  cases e'
  rw [ho] at ho'
  cases ho'
  rw [hd] at hd'
  have e2 := (Data.seq.inj hd').1
  have e3 : [Value.str p.1 t, .str p.2 u] = [Value.str q.1 t', .str q.2 u'] := congrArg Array.toList e2
  have e4 := List.cons.inj e3
  have e5 := (List.cons.inj e4.2).1
  exact Prod.ext (Value.str.inj e4.1).1 (Value.str.inj e5).1
theorem firstsS {h : Heap} {k : Value → SP} : ∀ {vs : List Value}, (∀ v ∈ vs, IsPS h v (k v)) → ∃ fs : List Value, PySem.W.KatTups h vs fs ∧ fs.length = vs.length ∧ ∀ f ∈ fs, ∃ x t, f = Value.str x t
  | [], _ => ⟨[], PySem.W.KatTups.nil, rfl, fun _ m => nomatch m⟩
  | v :: vs, hp => by
    obtain ⟨fs, h1, h2, h3⟩ := firstsS (vs := vs) fun y m => hp y (List.mem_cons_of_mem _ m)
    obtain ⟨a, o, t, u, n, e, ho, hc, hd⟩ := hp v List.mem_cons_self
    refine ⟨.str (k v).1 t :: fs, ?_, congrArg Nat.succ h2, fun f m => ?_⟩
    · have z : PySem.W.KatTups h (.ref a :: vs) (.str (k v).1 t :: fs) := .cons ho hc hd rfl h1
      rw [← e] at z
      exact z
    · rcases List.mem_cons.mp m with c | c
      · exact ⟨_, _, c⟩
      · exact h3 f c
section
variable {prog : Program} {w : World} {A : Around} {E : Value → Shared → Prop} {s : Shared}
theorem pairS_cmp {vs : List Value} {k : Value → SP} (hp : ∀ v ∈ vs, IsPS s.heap v (k v)) : SrtO.Cmp prog w A s (tuples' true) (fun p => p.1 ∈ vs) (SrtO.lt2 fun v u => lexS (k v) (k u)) := by
  intro p q m1 m2
  have h1 := hp _ m1
  have h2 := hp _ m2
  show wpAny (model prog w) A (keyLt' (tuples' true) p.1 q.1) (fun r z => z = s ∧ r = lexS (k p.1) (k q.1)) (fun _ _ => False) s
  generalize k p.1 = x at h1 ⊢
  generalize k q.1 = y at h2 ⊢
  obtain ⟨a, o, t, u, n, e, ho, hc, hd⟩ := h1
  obtain ⟨b, o2, t2, u2, n2, e2, ho2, hc2, hd2⟩ := h2
  rw [e, e2]
  refine PySem.W.kat_lt ho hd ho2 hd2 ?_
  show PySem.W.KatLex prog w A true (decide (2 < 2)) _ [(.str x.1 t, .str y.1 t2), (.str x.2 u, .str y.2 u2)] 0 s
  refine PySem.W.kat_cons (SeqAt.EqAt.str_str x.1 t y.1 t2 prog w _ _ ?_)
  refine PySem.W.kat_go (fun c => ?_) (fun c => ?_)
  · have c1 : x.1 = y.1 := by simpa using c
    refine PySem.W.kat_yes (PySem.W.kat_cons (SeqAt.EqAt.str_str x.2 u y.2 u2 prog w _ _ ?_))
    refine PySem.W.kat_go (fun d => ?_) (fun d => ?_)
    · have c2 : x.2 = y.2 := by simpa using d
      refine PySem.W.kat_yes (PySem.W.kat_nil ⟨rfl, ?_⟩)
      rw [lexS_eq c1, c2, ltS_irr]
      rfl
    · refine PySem.W.kat_no (oneLt_any_str ⟨rfl, ?_⟩)
      rw [lexS_eq c1]
      exact (Bool.eq_iff_iff.mpr (by rw [decide_eq_true_eq, ltS_iff]))
  · have c1 : ¬ x.1 = y.1 := by simpa using c
    refine PySem.W.kat_no (oneLt_any_str ⟨rfl, ?_⟩)
    rw [lexS_ne c1]
    exact (Bool.eq_iff_iff.mpr (by rw [decide_eq_true_eq, ltS_iff]))
theorem pairS_sortable {a : Addr} {vs : List Value} {k : Value → SP} (h0 : 0 < vs.length) (hp : ∀ v ∈ vs, IsPS s.heap v (k v)) (ha : ∀ o, s.heap.get? a = some o → o.cls ≠ .type "tuple") : SrtO.SortableO prog w A s a vs fun v u => lexS (k v) (k u) := by
  intro h1 keep
  have hq : ∀ v ∈ vs, IsPS h1 v (k v) := fun v m => (hp v m).keeps fun b o e c => keep b o (fun z => by subst z; exact ha o e c) e
  obtain ⟨fs, f1, f2, f3⟩ := firstsS hq
  refine ⟨tuples' true, fun Q E hh => ?_, pairS_cmp hq⟩
  refine PySem.W.kat_kind (T := .type "str") f1 (by omega) (fun f m => ?_) (by rfl) ?_
  · obtain ⟨x, t, rfl⟩ := f3 f m
    exact PySem.W.Looks.now
  · rw [show (Value.type "str" != Value.type "tuple") = true by first | rfl | decide +kernel]
    exact hh
end
def pr (p : SP) : Tr := .tup [.str p.1, .str p.2]
/-- sorted(c), c a list of pairs of texts -/
def rSortP (K : PySem.W.Frag) : List V → Hp → VK → Prop := fun vs H Q => ∃ (a : Addr) (xs : List V) (ps : List SP), vs = [.ref a] ∧ SqL K H a xs ∧ Ts K H ff xs (ps.map pr) ∧
  ∀ ys p, Ts K H ff ys ((srtP ps).map pr) → H p = none → Q (.ref p) (upd H p (.lst ys))
theorem T.pair {X : Cx} {pins : List (Addr × Obj)} {σ : L2.St} {H : Hp} {s : Shared} (I : Inv X pins σ H s) {x : V} {v : Value} {p : SP} (t : T X.K H ff x (pr p)) (r : RelV x v) : (∃ b, x = .ref b) ∧ IsPS s.heap v p := by
  obtain ⟨p1, p2⟩ := p
  cases t with
  | @tup b ws _ hq ts =>
    refine ⟨⟨b, rfl⟩, ?_⟩
    have e : v = .ref b := r
    subst e
    obtain ⟨its, rv, ht, hz⟩ := I.tuple hq
    cases ts with
    | cons t1 ts =>
      cases ts with
      | cons t2 ts =>
        cases ts
        cases t1
        cases t2
        obtain ⟨u1, u2, rfl, ri, rj⟩ := vals2 rv
        obtain ⟨k1, rfl⟩ := ri
        obtain ⟨k2, rfl⟩ := rj
        obtain ⟨o, ho, hc, n, hd⟩ := ht
        exact ⟨b, o, k1, k2, n, rfl, ho, hc, hd⟩
theorem call_sortP {X : Cx} : CallR X (.builtin "sorted") (rSortP X.K) := by
  intro pins s σ H vs us Q I r h
  obtain ⟨a, xs, ps, rfl, hs, ht, q⟩ := h
  obtain ⟨its, rv, hl, hz⟩ := I.list hs
  obtain ⟨u, rfl, ru⟩ := vals1 r
  obtain rfl : u = Value.ref a := ru
  haveI dec : ∀ v, Decidable (∃ p, IsPS s.heap v p) := fun v => Classical.propDecidable _
  let k : Value → SP := fun v => if c : ∃ p, IsPS s.heap v p then Classical.choose c else ("", "")
  have kis : ∀ {v p}, IsPS s.heap v p → k v = p := fun {v p} x => by
    have c : ∃ p, IsPS s.heap v p := ⟨p, x⟩
    show (if c : ∃ p, IsPS s.heap v p then Classical.choose c else ("", "")) = p
    rw [dif_pos c]
    exact (Classical.choose_spec c).uniq x
  have all : ∀ {xs : List V} {its : List Value} {ps : List SP}, Vals xs its → Ts X.K H ff xs (ps.map pr) → its.map k = ps ∧ (∀ v ∈ its, IsPS s.heap v (k v)) ∧ ∀ v ∈ its, T X.K H ff (backV v) (pr (k v)) := by
    intro xs its ps rv
    induction rv generalizing ps with
    | nil =>
      intro h
      cases ps with
      | nil => exact ⟨rfl, (fun v m => nomatch m), fun v m => nomatch m⟩
      | cons p ps => cases h
    | @cons x u xs its r1 r2 ih =>
      intro h
      cases ps with
      | nil => cases h
      | cons p ps =>
        cases h with
        | cons t1 t2 =>
          obtain ⟨⟨b, eb⟩, ip⟩ := T.pair I t1 r1
          obtain ⟨i1, i2, i3⟩ := ih t2
          subst eb
          have eu : u = .ref b := r1
          subst eu
          have ek := kis ip
          refine ⟨?_, fun v m => ?_, fun v m => ?_⟩
          · rw [List.map_cons, ek, i1]
          · rcases List.mem_cons.mp m with c | c
            · rw [c, ek]
              exact ip
            · exact i2 v c
          · rcases List.mem_cons.mp m with c | c
            · rw [c, ek]
              exact t1
            · exact i3 v c
  obtain ⟨a1, a2, a3⟩ := all rv ht
  have refs : ∀ v ∈ its, ∃ b, v = Value.ref b := fun v m => by
    obtain ⟨b, _, _, _, _, e, _⟩ := a2 v m
    exact ⟨b, e⟩
  refine SrtO.sorted_ord (swo_lexS k) hl.isList (by rw [← rv.length]; exact hz) (fun h2 h1 d hd kk => ?_) fun out o1 o2 => ?_
  · refine pairS_sortable (s := { s with heap := h1 }) (by omega) (fun v m => (a2 v m).keeps fun b o e _ => (kk b o e).2) fun o e c => ?_
    have e2 : some o = some (seqObj "list" its.toArray 0) := e.symm.trans hd
    cases e2
    exact absurd (Value.type.inj c) (by decide)
  · have mem : ∀ v ∈ out, v ∈ its := fun v m => o2.perm.mem_iff.mp m
    have ok : out.map k = srtP ps := by
      refine srtP_is ?_ (List.pairwise_map.mpr o1)
      rw [← a1]
      exact o2.perm.map k
    have build : ∀ {l : List Value}, (∀ v ∈ l, v ∈ its) → Ts X.K H ff (l.map backV) ((l.map k).map pr) := by
      intro l
      induction l with
      | nil => exact fun _ => .nil
      | cons v l ih => exact fun m => .cons (a3 v (m v List.mem_cons_self)) (ih fun y hy => m y (List.mem_cons_of_mem _ hy))
    have tb := build mem
    rw [ok] at tb
    have hd : s.heap.objs.size ≤ s.heap.objs.size + 1 := Nat.le_succ _
    obtain ⟨n, hn⟩ := sortedAll_at s.heap its out.toArray
    refine ⟨.ref (s.heap.objs.size + 1), upd H (s.heap.objs.size + 1) (.lst (out.map backV)), I.laid (t' := s.toks) (fun b o e => sortedAll_old e) hd ⟨?_, out, n, vals_back fun v m => refs v (mem v m), hn⟩, rfl, q _ _ tb (I.hok.fresh hd)⟩
    rw [List.length_map, o2.perm.length_eq, ← rv.length]
    exact hz
theorem k_sortP {X : Cx} {K : PySem.W.Frag} (h : X.K = K) : CallR X (.builtin "sorted") (rSortP K) := h ▸ call_sortP
theorem q_sortP {K : PySem.W.Frag} {H : Hp} {Q : VK} {a : Addr} {xs : List V} {ps : List SP} (h : SqL K H a xs) (t : Ts K H ff xs (ps.map pr)) (q : ∀ ys p, Ts K H ff ys ((srtP ps).map pr) → H p = none → Q (.ref p) (upd H p (.lst ys))) : rSortP K [.ref a] H Q := ⟨a, xs, ps, rfl, h, t, q⟩
end TU

set_option Elab.async false
set_option linter.all false
set_option maxRecDepth 100000
namespace TU
open PySem PySem.Spec PyProof.Rows L2
open PySem.SeqAt PySem.MeetsSeq PySem.MeetsSeq2 PySem.MeetsSeq3 PySem.SeqRoads2
open PySem.AutoSeq1 (wpAny_loadPart')
/-! ### houses told to be equal, in a pair with a list -/
theorem ne_tupIn {prog : Program} {w : World} (l b : Addr) (xs ys : Array Value) (n m : Nat) (dx dy : Option Addr) (sx sy : Array (Option Value)) : MeetsIn prog w (Builtin.«tuple.__ne__» ⟨[.ref l, .ref b], []⟩)
    (fun A R s => s.heap.get? l = some { cls := .type "tuple", dict := dx, data := .seq xs n, slots := sx } ∧ s.heap.get? b = some { cls := .type "tuple", dict := dy, data := .seq ys m, slots := sy } ∧ xs.size = ys.size ∧
      (∀ j (h1 : j < xs.size) (h2 : j < ys.size), EqIn prog w A.in1 s xs[j] ys[j] true) ∧ R (.ok (.ret (.bool false))) s) :=
  .of_wp fun A R s h => by
    obtain ⟨hp, g, d, tk, os⟩ := s
    obtain ⟨hl, hb, hsz, he, h⟩ := h
    have f2 := AutoSeq1.sub_tuple_tuple
    have hZ : (xs.toList.zip ys.toList).length = xs.size := by simp [hsz]
    wp_walk using wpAny_loadPart' hl, wpAny_loadPart' hb, wpAny_forIn_list _ (fun rest c z => c.1 = none ∧ z = ⟨hp, g, d, tk, os⟩ ∧ ∃ i, rest = (xs.toList.zip ys.toList).drop i) _
    case turn =>
      rintro ⟨y, x⟩ rest c z ⟨hc, rfl, i, hz⟩
      have hi : i < (xs.toList.zip ys.toList).length := by
        rcases Nat.lt_or_ge i (xs.toList.zip ys.toList).length with q | q
        · exact q
        · rw [List.drop_of_length_le q] at hz
          cases hz
      have h1 : i < xs.size := hZ ▸ hi
      have h2 : i < ys.size := hsz ▸ h1
      rw [List.drop_eq_getElem_cons hi] at hz
      injection hz with hyx hrest
      have e1 : y = xs[i] := by simpa using congrArg Prod.fst hyx
      have e2 : x = ys[i] := by simpa using congrArg Prod.snd hyx
      subst e1 e2
      refine wpAny_bind (he i h1 h2 _ _ ?_)
      wp_walk
      exact ⟨rfl, rfl, i + 1, hrest⟩
    case fin =>
      rintro ⟨c1, c2⟩ z ⟨hc, rfl, i, hz⟩
      simp only at hc
      subst hc
      wp_walk
      exact ⟨_, rfl, by simpa [Builtin.Tuple.tupleCompareSizes, hsz] using h⟩
    case h => exact ⟨rfl, rfl, 0, rfl⟩
theorem ne_tupsT {prog : Program} {w : World} {A : Around} {E : Value → Shared → Prop} {s : Shared} {l b : Addr} {xs ys : Array Value} {n : Nat} {Q : Value → Shared → Prop} (hl : s.heap.IsTuple l xs) (hb : s.heap.IsTuple b ys) (hsz : xs.size = ys.size)
    (t : ∀ j (h1 : j < xs.size) (h2 : j < ys.size), PySem.W.EqTree prog w s n xs[j] ys[j] true) (hu : A.units + (n + 1) < cLine) (h : Q (.bool false) s) : wpAny (model prog w) A (compareOp .NotEq (.ref l) (.ref b)) Q E s := by
  obtain ⟨⟨cls, dd, data, sl⟩, ho, hc, k, hd⟩ := id hl
  obtain ⟨⟨cls2, dd2, data2, sl2⟩, ho2, hc2, k2, hd2⟩ := id hb
  simp only at hc hd hc2 hd2
  subst hc hd hc2 hd2
  exact wpAny_richCompare_same_room (T := "tuple") (op := .NotEq) ⟨_, ho, rfl⟩ ⟨_, ho2, rfl⟩ F.slot_tuple_ne (call_meetsIn F.slot_tuple_ne ⟨_, ho, rfl⟩ F.entry_tuple_ne (F.args_tuple_ne_2 _ _) (ne_tupIn l b xs ys k k2 dd dd2 sl sl2)
    ⟨ho, ho2, hsz, fun j h1 h2 => (t j h1 h2).at A.in1 (by show A.units + 1 + _ < cLine; omega), show Value.bool false ≠ Value.notImplemented ∧ Q (.bool false) s from ⟨(fun z => nomatch z), h⟩⟩) (by omega)
theorem kv_mem {vk : List (Key × V)} {va : List (Key × Value)} (r : KV vk va) : ∀ {k : Key} {v : Value}, (k, v) ∈ va → ∃ x, (k, x) ∈ vk ∧ RelV x v := by
  unfold KV at r
  induction r with
  | nil => exact fun m => nomatch m
  | @cons p q ps qs h t ih =>
    intro k v m
    obtain ⟨e1, e2⟩ := h
    rcases List.mem_cons.mp m with c | c
    · rw [← c] at e1 e2
      obtain ⟨k2, x⟩ := p
      have e3 : k2 = k := e1
      subst e3
      exact ⟨x, List.mem_cons_self, e2⟩
    · obtain ⟨x, m2, rx⟩ := ih c
      exact ⟨x, List.mem_cons_of_mem _ m2, rx⟩
theorem Tk.mem {K : PySem.W.Frag} {H : Hp} {P : Addr → Prop} : ∀ {vk : List (Key × V)} {ks : List (Key × Tr)} {k : Key} {x : V}, Tk K H P vk ks → (k, x) ∈ vk → ∃ d, (k, d) ∈ ks ∧ T K H P x d
  | _, _, _, _, .nil, m => nomatch m
  | _, _, k, x, .cons h t, m => by
    rcases List.mem_cons.mp m with c | c
    · cases c
      exact ⟨_, List.mem_cons_self, h⟩
    · obtain ⟨d, m2, td⟩ := Tk.mem t c
      exact ⟨d, List.mem_cons_of_mem _ m2, td⟩
section
variable {X : Cx} {pins : List (Addr × Obj)} {σ : L2.St} {H : Hp} {s : Shared} {P P' : Addr → Prop}
theorem tree_leaf (I : Inv X pins σ H s) {x y : V} {v u : Value} {d : Tr} (hx : T X.K H P x d) (hy : T X.K H P' y d) (n : nod d = true) (m : dep d ≤ 60) (rx : RelV x v) (ry : RelV y u) : PySem.W.EqTree X.prog X.w s 60 v u true := by
  obtain ⟨as, q1, _⟩ := T.reads I d x v hx rx
  obtain ⟨bs, q2, _⟩ := T.reads I d y u hy ry
  refine .leaf fun A hu => ?_
  have z := SeqAt.eqAt_plain _ _ A s v u _ _ q1 q2 (plain_py d n) (plain_py d n) (by
    rw [depth_py, Nat.min_self]
    omega)
  rw [show PyData.eqv (py d) (py d) = true from eqb_refl n] at z
  exact z
theorem tree_dict (I : Inv X pins σ H s) {a b : Addr} {vk vl : List (Key × V)} {ks ls : List (Key × Tr)} {n : Nat} (ha : Rd H a (.dK vk)) (hb : Rd H b (.dK vl)) (ta : Tk X.K H P vk ks) (tb : Tk X.K H P' vl ls) (hl : ks.length = ls.length) (ne : a ≠ b)
    (hs : ∀ k d x v, (k, d) ∈ ks → T X.K H P x d → RelV x v → ∃ e, getD ls k = some e ∧ ∀ y u, T X.K H P' y e → RelV y u → PySem.W.EqTree X.prog X.w s n v u true) : PySem.W.EqTree X.prog X.w s (n + 1) (.ref a) (.ref b) true := by
  obtain ⟨_, ya, va, ra, da⟩ := dk_rd I.hok ha
  obtain ⟨_, yb, vb, rb, db⟩ := dk_rd I.hok hb
  have get : ∀ k v, (k, v) ∈ va → ∃ y u, valueAt vb k = some u ∧ RelV y u ∧ PySem.W.EqTree X.prog X.w s n v u true := fun k v m => by
    obtain ⟨x, m2, rx⟩ := kv_mem ra m
    obtain ⟨d, m3, td⟩ := Tk.mem ta m2
    obtain ⟨e, g, f⟩ := hs k d x v m3 td rx
    obtain ⟨y, z1, z2⟩ := tb.gets g
    have rr := rb.val k
    rw [z1] at rr
    obtain ⟨u, hu, ru⟩ := rr.some_of
    exact ⟨y, u, hu, ru, f y u z2 ru⟩
  have tr : PySem.W.EqTree X.prog X.w s (n + 1) (.ref a) (.ref b) (va.length == vb.length && va.all fun p => (valueAt vb p.1).isSome && true) :=
    .dicts (e := fun _ => true) ne ya yb da db fun k v y m hv => by
      obtain ⟨_, u, hu, _, t⟩ := get k v m
      rw [hv] at hu
      cases hu
      exact t
  have e1 : va.length = vb.length := by rw [← ra.length, ta.length, hl, ← tb.length, rb.length]
  have e2 : (va.all fun p => (valueAt vb p.1).isSome && true) = true := by
    rw [List.all_eq_true]
    intro p m
    obtain ⟨_, u, hu, _⟩ := get p.1 p.2 m
    rw [hu]
    rfl
  rw [e1, e2] at tr
  simpa using tr
/-- two houses, equal up to the order of names -/
theorem tree_house (I : Inv X pins σ H s) {a b : Addr} {h g : Hs} (ta : T X.K H P (.ref a) (.dic (hK h))) (tb : T X.K H P' (.ref b) (.dic (hK g))) (dis : ∀ x, P x → ¬ P' x) (wh : Wf h) (wg : Wf g) (sm : Sml h) (e : cpH h = cpH g) : PySem.W.EqTree X.prog X.w s 62 (.ref a) (.ref b) true := by
  obtain ⟨a', vk, ea, pa, ra, ka⟩ := ta.dicAt
  cases ea
  obtain ⟨b', vl, eb, pb, rb, kb⟩ := tb.dicAt
  cases eb
  refine tree_dict (n := 61) I ra rb ka kb ?_ (fun z => dis a pa (by rw [z]; exact pb)) fun k d x v m tx rx => ?_
  · unfold hK
    rw [List.length_map, List.length_map, ← len_cp h, e, len_cp]
  · obtain ⟨p, hp, ep⟩ := List.mem_map.mp m
    cases ep
    have l1 : lk h p.1 = some p.2 := lk_of_mem wh.nd hp
    obtain ⟨t2, l2, ho⟩ := cp_lk e l1
    refine ⟨.dic (tK t2), by rw [get_hK, l2]; rfl, fun y u ty ry => ?_⟩
    obtain ⟨q, es, ex, pq, rq, kq⟩ := tx.dicAt
    subst ex
    obtain ⟨q2, es2, ey, pq2, rq2, kq2⟩ := ty.dicAt
    subst ey
    have ev : v = .ref q := rx
    have eu : u = .ref q2 := ry
    subst ev eu
    have wt := wh.tab p hp
    refine tree_dict (n := 60) I rq rq2 kq kq2 ?_ (fun z => dis q pq (by rw [z]; exact pq2)) fun k d x v m tx rx => ?_
    · unfold tK
      rw [List.length_map, List.length_map, ← len_ord p.2, ho, len_ord]
    · obtain ⟨r, hr, er⟩ := List.mem_map.mp m
      cases er
      have l3 : lk p.2 r.1 = some r.2 := lk_of_mem wt.1 hr
      rw [ord_lk ho] at l3
      exact ⟨r.2, by rw [get_tK, l3], fun y u ty ry => tree_leaf I tx ty (nod_of_imm (wt.2 r hr)) (sm p hp r hr) rx ry⟩
end
/-- (house, list) != (house, list), both equal -/
def rNeH (K : PySem.W.Frag) : R2 := fun x y H Q => ∃ (p q a b : Addr) (v u : V) (h g : Hs) (d : Tr) (N1 N2 M1 M2 : Addr → Prop), x = .ref p ∧ y = .ref q ∧ SqT K H p [.ref a, v] ∧ SqT K H q [.ref b, u] ∧ T K H N1 (.ref a) (.dic (hK h)) ∧ T K H N2 (.ref b) (.dic (hK g)) ∧
  (∀ z, N1 z → ¬ N2 z) ∧ Wf h ∧ Wf g ∧ Sml h ∧ cpH h = cpH g ∧ T K H M1 v d ∧ T K H M2 u d ∧ nod d = true ∧ dep d ≤ 60 ∧ Q (.bl false) H
theorem op_neH {X : Cx} (hu : X.A.units + 64 < cLine) : OpR X (compareOp .NotEq) (rNeH X.K) := by
  intro pins s σ H x y v u Q I rx ry h
  obtain ⟨p, q, a, b, v1, u1, h, g, d, N1, N2, M1, M2, rfl, rfl, sp, sq, ta, tb, dis, wh, wg, sm, e, td, te, nd, dd, k⟩ := h
  cases (show v = Value.ref p from rx)
  cases (show u = Value.ref q from ry)
  obtain ⟨its, r1, t1, _⟩ := I.tuple sp
  obtain ⟨jts, r2, t2, _⟩ := I.tuple sq
  obtain ⟨i1, i2, rfl, ri1, ri2⟩ := vals2 r1
  obtain ⟨j1, j2, rfl, rj1, rj2⟩ := vals2 r2
  have ei : i1 = Value.ref a := ri1
  have ej : j1 = Value.ref b := rj1
  subst ei ej
  have tr := tree_house I ta tb dis wh wg sm e
  have tl := tree_leaf I td te nd dd ri2 rj2
  refine ne_tupsT (n := 62) (xs := #[Value.ref a, i2]) (ys := #[Value.ref b, j2]) t1 t2 rfl (fun j h1 h2 => ?_) (by omega) ⟨.bl _, H, I, rfl, k⟩
  have t62 : PySem.W.EqTree X.prog X.w s 62 i2 j2 true := by
    refine .leaf fun A hu => ?_
    obtain ⟨as, q1, _⟩ := T.reads I d v1 i2 td ri2
    obtain ⟨bs, q2, _⟩ := T.reads I d u1 j2 te rj2
    have z := SeqAt.eqAt_plain _ _ A s i2 j2 _ _ q1 q2 (plain_py d nd) (plain_py d nd) (by
      rw [depth_py, Nat.min_self]
      omega)
    rw [show PyData.eqv (py d) (py d) = true from eqb_refl nd] at z
    exact z
  match j, h1, h2 with
  | 0, _, _ => exact tr
  | 1, _, _ => exact t62
/-- != of anything, of such pairs too -/
def rNeV (K : PySem.W.Frag) : R2 := fun x y H Q => rNeU K x y H Q ∨ rNeH K x y H Q
theorem k_neV {X : Cx} {K : PySem.W.Frag} (h : X.K = K) (hu : X.A.units + 64 < cLine) : OpR X (compareOp .NotEq) (rNeV K) := h ▸ (op_neU hu).or (op_neH hu)
end TU

set_option Elab.async false
set_option linter.all false
set_option maxRecDepth 100000
namespace TU
open PySem PySem.Spec PyProof.Rows L2
/-! ### merges -/
section
variable {K : PySem.W.Frag} {H : Hp} {Q : VK}
theorem q_isB {a b : Bool} (q : Q (.bl (decide (a = b))) H) : rIsB (.bl a) (.bl b) H Q := ⟨a, b, rfl, rfl, q⟩
theorem q_notB {a b : Bool} (q : Q (.bl (!decide (a = b))) H) : rNotB (.bl a) (.bl b) H Q := ⟨a, b, rfl, rfl, q⟩
theorem q_gtup {σ : L2.St} {n : Nat} {t : TGs} {a : Addr} {xs : List V} {R : L2.St → Hp → Prop} (hs : SqT K H a xs) (hn : xs.length = n) (h : t xs σ H R) : gTup K n t (.ref a) σ H R := ⟨a, xs, rfl, hs, hn, h⟩
theorem q_isiBl {b : Bool} (q : Q (.bl true) H) : rIsi K [.bl b, .ty "bool"] H Q := ⟨.bl b, .ty "bool", .type "bool", .type "bool", true, rfl, .ty _, .base (.bl b), kit_ty (by decide +kernel), q⟩
theorem q_gcons {σ : L2.St} {t : TG} {u : TGs} {v : V} {r : List V} {R : L2.St → Hp → Prop} (h : t v σ H fun σ' H' => u r σ' H' R) : gCons t u (v :: r) σ H R := ⟨v, r, rfl, h⟩
theorem q_gnil {σ : L2.St} {R : L2.St → Hp → Prop} (h : R σ H) : gNil [] σ H R := ⟨rfl, h⟩
end
theorem eqb_strs : ∀ (xs ys : List Str), eqb (.lst (xs.map Tr.str)) (.lst (ys.map Tr.str)) = decide (xs = ys) := by
  have key : ∀ xs ys : List Str, PyData.eqvAll (pys (xs.map Tr.str)) (pys (ys.map Tr.str)) = decide (xs = ys) := by
    intro xs
    induction xs with
    | nil =>
      intro ys
      cases ys <;> simp [pys, PyData.eqvAll]
    | cons x xs ih =>
      intro ys
      cases ys with
      | nil => simp [pys, PyData.eqvAll]
      | cons y ys =>
        simp only [List.map_cons, pys, py, PyData.eqvAll, PyData.eqv, ih ys]
        by_cases h : x = y <;> by_cases h' : xs = ys <;> simp [h, h']
  intro xs ys
  unfold eqb
  simp only [py, PyData.eqv]
  exact key xs ys
theorem q_eqSs {K : PySem.W.Frag} {H : Hp} {Q : VK} {p q : Addr} {ss ts : List Str} (hp : SqL K H p (ss.map V.str)) (hq : SqL K H q (ts.map V.str)) (k : Q (.bl (decide (ss = ts))) H) : rEqU K (.ref p) (.ref q) H Q := by
  refine q_eqT (P := fun _ => True) (d := .lst (ss.map Tr.str)) (e := .lst (ts.map Tr.str)) (.lst trivial hp (Ts.strs ss)) (.lst trivial hq (Ts.strs ts)) (by simp only [TU.nod]; exact nods_strs ss) (by simp only [TU.nod]; exact nods_strs ts) (by simp only [TU.dep]; rw [deps_strs]; decide) ?_
  rw [eqb_strs]
  exact k
/-- a name is met -/
def addN (l : List Str) (n : Str) : List Str := if n ∈ l then l else l ++ [n]
def uni (ts : List Tab) : List Str := ts.foldl (fun acc t => (nms t).foldl addN acc) []
theorem addN_mem {l : List Str} {n x : Str} : x ∈ addN l n ↔ x ∈ l ∨ x = n := by
  unfold addN
  by_cases h : n ∈ l
  · rw [if_pos h]
    exact ⟨.inl, fun z => z.elim id fun e => by rw [e]; exact h⟩
  · rw [if_neg h, List.mem_append, List.mem_singleton]
theorem addN_nd {l : List Str} {n : Str} (h : l.Nodup) : (addN l n).Nodup := by
  unfold addN
  by_cases c : n ∈ l
  · rw [if_pos c]
    exact h
  · rw [if_neg c]
    exact List.nodup_append.mpr ⟨h, by simp, fun a ha b hb e => c (by rw [List.mem_singleton] at hb; rw [← hb, ← e]; exact ha)⟩
theorem foldN_mem : ∀ {ns l : List Str} {x : Str}, x ∈ ns.foldl addN l ↔ x ∈ l ∨ x ∈ ns
  | [], l, x => by simp
  | n :: ns, l, x => by
    rw [List.foldl_cons, foldN_mem, addN_mem, List.mem_cons, or_assoc]
theorem foldN_nd : ∀ {ns l : List Str}, l.Nodup → (ns.foldl addN l).Nodup
  | [], l, h => h
  | n :: ns, l, h => foldN_nd (ns := ns) (addN_nd h)
theorem foldT_mem : ∀ {ts : List Tab} {l : List Str} {x : Str}, x ∈ ts.foldl (fun acc t => (nms t).foldl addN acc) l ↔ x ∈ l ∨ ∃ t ∈ ts, x ∈ nms t
  | [], l, x => by simp
  | t :: ts, l, x => by
    rw [List.foldl_cons, foldT_mem, foldN_mem, or_assoc]
    refine or_congr Iff.rfl ⟨fun z => ?_, fun z => ?_⟩
    · rcases z with h | ⟨u, hu, hx⟩
      · exact ⟨t, List.mem_cons_self, h⟩
      · exact ⟨u, List.mem_cons_of_mem _ hu, hx⟩
    · obtain ⟨u, hu, hx⟩ := z
      rcases List.mem_cons.mp hu with e | hu
      · rw [e] at hx
        exact .inl hx
      · exact .inr ⟨u, hu, hx⟩
theorem foldT_nd : ∀ {ts : List Tab} {l : List Str}, l.Nodup → (ts.foldl (fun acc t => (nms t).foldl addN acc) l).Nodup
  | [], l, h => h
  | t :: ts, l, h => foldT_nd (ts := ts) (foldN_nd h)
theorem uni_mem {ts : List Tab} {x : Str} : x ∈ uni ts ↔ ∃ t ∈ ts, x ∈ nms t := by
  unfold uni
  rw [foldT_mem]
  simp
theorem uni_nd (ts : List Tab) : (uni ts).Nodup := foldT_nd List.nodup_nil
theorem addN_len (l : List Str) (n : Str) : (addN l n).length ≤ l.length + 1 := by
  unfold addN
  by_cases h : n ∈ l
  · rw [if_pos h]
    omega
  · rw [if_neg h, List.length_append]
    exact Nat.le_refl _
theorem foldN_len : ∀ (ns l : List Str), (ns.foldl addN l).length ≤ l.length + ns.length
  | [], l => Nat.le_refl _
  | n :: ns, l => by
    have h1 := foldN_len ns (addN l n)
    have h2 := addN_len l n
    rw [List.foldl_cons, List.length_cons]
    omega
theorem keys_putN {kvs : List (Key × V)} {l : List Str} {n : Str} {v : V} (h : kvs.map (·.1) = l.map Sum.inr) : (putK kvs (.inr n) v).map (·.1) = (addN l n).map Sum.inr := by
  by_cases c : n ∈ l
  · have hm : (Sum.inr n : Key) ∈ kvs.map (·.1) := by rw [h]; exact inr_mem.mpr c
    unfold putK addN
    rw [if_pos c, if_pos, ← h]
    · rw [List.map_map]
      refine List.map_congr_left fun p hp => ?_
      show (if _ then _ else _ : Key × V).1 = p.1
      split
      · rename_i e
        simpa using Eq.symm (by simpa using e)
      · rfl
    · rw [List.any_eq_true]
      obtain ⟨p, hp, e⟩ := List.mem_map.mp hm
      exact ⟨p, hp, by simpa using e⟩
  · have hm : (Sum.inr n : Key) ∉ kvs.map (·.1) := by rw [h]; exact fun z => c (inr_mem.mp z)
    rw [putK_fresh hm]
    unfold addN
    rw [if_neg c, List.map_append, List.map_append, h]
    rfl
/-- a table is put, its dict known already -/
theorem Own.push2 {K : PySem.W.Frag} {H : Hp} {N N' : Addr → Prop} {r q : Addr} {h : Hs} {k : Str} {t : Tab} {es : List (Key × V)} (o : Own K N' H r h) (nk : k ∉ nms h) (hq' : ¬ N' q) (sub : ∀ b, N' b → N b) (hq : N q) (e : H q = some (.dK es)) (tk : Tk K H ff es (tK t)) :
    ∃ kvs, H r = some (.dK kvs) ∧ kvs.length = h.length ∧ Own K N (upd H r (.dK (putK kvs (.inr k) (.ref q)))) r (h ++ [(k, t)]) := by
  obtain ⟨qs, kvs, h1, h2, h3, h4⟩ := o.ex
  have nd := List.nodup_cons.mp h3
  have hr : r ≠ q := fun z => hq' (by rw [← z]; exact h4 r List.mem_cons_self)
  have nq' : q ∉ qs := fun m => hq' (h4 q (List.mem_cons_of_mem _ m))
  refine ⟨kvs, h1, h2.len, qs ++ [q], _, upd_same, ?_, ?_, fun a m => ?_⟩
  · rw [putK_fresh (by rw [h2.keys]; exact fun z => nk (inr_mem.mp z))]
    refine (h2.snoc (k := k) e tk).keep keeps_upd (no_tup h1) fun a m z => ?_
    rw [z] at m
    rcases List.mem_append.mp m with m | m
    · exact nd.1 m
    · exact hr (List.mem_singleton.mp m)
  · refine List.nodup_cons.mpr ⟨fun m => ?_, List.nodup_append.mpr ⟨nd.2, by simp, fun a ha b hb e => nq' (by
      rw [List.mem_singleton] at hb
      rw [← hb, ← e]
      exact ha)⟩⟩
    rcases List.mem_append.mp m with m | m
    · exact nd.1 m
    · exact hr (List.mem_singleton.mp m)
  · rcases List.mem_cons.mp m with e | m
    · rw [e]
      exact sub _ (h4 r List.mem_cons_self)
    · rcases List.mem_append.mp m with m | m
      · exact sub _ (h4 a (List.mem_cons_of_mem _ m))
      · rw [List.mem_singleton.mp m]
        exact hq
/-- == of two houses, table by table -/
def eqTb (g : Hs) (p : Str × Tab) : Bool := match lk g p.1 with
  | some t => eqk (tK p.2) (tK t)
  | none => false
def eqHs (h g : Hs) : Bool := decide (srt (nms h) = srt (nms g)) && h.all (eqTb g)
/-- an entry, or none -/
abbrev En := Option Tr
def enc : En → Tr
  | some d => .tup [.bl true, d]
  | none => .tup [.bl false, .non]
def eqO (a b : En) : Bool := eqb (enc a) (enc b)
def set1 (b o t : En) : Bool × En := if eqO o t = true ∨ eqO t b = true then (false, o) else if eqO o b = true then (false, t) else (true, b)
def ent (h : Hs) (k n : Str) : En := (lk h k).bind fun t => lk t n
def tabs (k : Str) (gs : List Hs) : List Tab := gs.map fun g => (lk g k).getD []
def mN (b o t : Hs) (k : Str) : List Str := srt (uni (tabs k [b, o, t]))
def mS (b o t : Hs) (k n : Str) : Bool × En := set1 (ent b k n) (ent o k n) (ent t k n)
def mTab (b o t : Hs) (k : Str) : Tab := (mN b o t k).filterMap fun n => (mS b o t k n).2.map fun d => (n, d)
def mCon (b o t : Hs) (k : Str) : List SP := (mN b o t k).filterMap fun n => if (mS b o t k n).1 = true then some (k, n) else none
def mHs (b o t : Hs) : Hs := (nms b).map fun k => (k, mTab b o t k)
def mCs (b o t : Hs) : List SP := (nms b).flatMap fun k => mCon b o t k
theorem fm_one {α β : Type} (f : α → Option β) (x : α) : [x].filterMap f = (f x).toList := by
  cases e : f x <;> simp [e]
/-- a test, what follows it written once -/
theorem q_then {c : TT} {t u : TS} {D : Ends} {σ : L2.St} {H : Hp} (P : L2.St → Hp → Prop) (h3 : ∀ σ' H', P σ' H' → D.nx σ' H') (h1 : (∀ σ' H', P σ' H' → D.nx σ' H') → tIfS c t u D σ H) : tIfS c t u D σ H := h1 h3
/-- a statement under a test, what follows written once -/
theorem q_opt {c : Bool} {te : TE} {D : Ends} {σ : L2.St} {H : Hp} (P : Hp → Prop) (h3 : ∀ H', P H' → D.nx σ H') (h1 : (∀ H', P H' → D.nx σ H') → c = true → te σ H fun _ H' => D.nx σ H') (h2 : c = false → P H) : if c = true then tDrop te D σ H else tNext D σ H := by
  cases e : c with
  | true => exact q_t (h1 h3 e)
  | false => exact q_f (h3 H (h2 e))
theorem nms_fm (g : Str → En) : ∀ ns : List Str, (nms (ns.filterMap fun x => (g x).map fun d => (x, d))).Sublist ns
  | [] => List.Sublist.refl _
  | n :: ns => by
    rw [List.filterMap_cons]
    cases e : g n with
    | none => exact (nms_fm g ns).cons n
    | some d => exact (nms_fm g ns).cons_cons n
theorem mN_nd (b o t : Hs) (k : Str) : (mN b o t k).Nodup := (srt_perm _).nodup_iff.mpr (uni_nd _)
theorem uni_len : ∀ (ts : List Tab) (l : List Str), (ts.foldl (fun acc t => (nms t).foldl addN acc) l).length ≤ l.length + (ts.map List.length).sum
  | [], l => Nat.le_refl _
  | t :: ts, l => by
    have h1 := uni_len ts ((nms t).foldl addN l)
    have h2 := foldN_len (nms t) l
    rw [nms_len] at h2
    rw [List.foldl_cons, List.map_cons, List.sum_cons]
    omega
theorem nms_mHs (b o t : Hs) : nms (mHs b o t) = nms b := by
  unfold mHs nms
  rw [List.map_map]
  exact List.map_id' _
end TU

set_option Elab.async false
set_option linter.all false
set_option maxRecDepth 100000
namespace TU
open PySem PySem.Spec PyProof.Rows L2
/-! ### repr of trees with lists and dicts -/
/-- sys.modules stands in the heap, a dict -/
structure SysM (h : Heap) : Prop where
  ex : ∃ o es n, h.get? sysModules = some o ∧ o.data = .dict es n
theorem SysM.no_seq {h : Heap} (x : SysM h) {o : Obj} {xs : Array Value} {n : Nat} (e : h.get? sysModules = some o) (d : o.data = .seq xs n) : False := by
  obtain ⟨o2, es, m, e2, d2⟩ := x.ex
  rw [e] at e2
  cases e2
  rw [d] at d2
  cases d2
section
variable {X : Cx} {pins : List (Addr × Obj)} {σ : L2.St} {H : Hp} {s : Shared} {P : Addr → Prop}
theorem SysM.on (x : SysM X.base) (I : Inv X pins σ H s) : SysM s.heap := by
  obtain ⟨o, es, n, e, d⟩ := x.ex
  exact ⟨o, es, n, I.bk _ _ e, d⟩
mutual
/-- a tree is read, and sys.modules is none of its objects: that is a dict of the module's own -/
theorem T.reads2 (I : Inv X pins σ H s) (hS : SysM s.heap) : ∀ (d : Tr) (v : V) (u : Value), T X.K H P v d → RelV v u → ∃ as, Reads s.heap u (py d) as ∧ sysModules ∉ as
  | .non, _, _, h, r => by
    cases h
    cases r
    exact ⟨_, Reads.none, fun h => nomatch h⟩
  | .bl b, _, _, h, r => by
    cases h
    cases r
    exact ⟨_, Reads.bool b, fun h => nomatch h⟩
  | .int i, _, _, h, r => by
    cases h
    obtain ⟨t, rfl⟩ := r
    exact ⟨_, Reads.int i t, fun h => nomatch h⟩
  | .str x, _, _, h, r => by
    cases h
    obtain ⟨t, rfl⟩ := r
    exact ⟨_, Reads.str x t, fun h => nomatch h⟩
  | .lst ds, _, _, h, r => by
    cases h with
    | lst p hs ha =>
      cases r
      obtain ⟨its, rv, ⟨o, n, ho, hc, _, hd⟩, _⟩ := I.list hs
      obtain ⟨as, hr, hn⟩ := Ts.reads2 I hS ds _ its ha rv
      refine ⟨_, Reads.list ho hc hd hr, fun q => ?_⟩
      rcases List.mem_cons.mp q with e | q
      · exact hS.no_seq (by rw [e]; exact ho) hd
      · exact hn q
  | .tup ds, _, _, h, r => by
    cases h with
    | tup hs ha =>
      cases r
      obtain ⟨its, rv, ⟨o, ho, hc, n, hd⟩, _⟩ := I.tuple hs
      obtain ⟨as, hr, hn⟩ := Ts.reads2 I hS ds _ its ha rv
      exact ⟨_, Reads.tuple ho hc hd hr, hn⟩
  | .dic ds, _, _, h, r => by
    cases h with
    | @dic a kvs _ p hs ha =>
      cases r
      obtain ⟨z, hd, vs, rel, o, es, ep, ho, hx, hdat, hk, hp, nd⟩ := dk_rd I.hok hs
      have hkeys : vs.map (·.1) = ds.map (·.1) := rel.keys.symm.trans ha.keys
      obtain ⟨bs, hr, hn⟩ := Tk.reads2 I hS ds kvs vs ha rel
      have e2 : es.toList.map (·.val) = vs.map (·.2) := vals_of_pairs hp
      rw [← e2, ← pyk_snd] at hr
      have hd' : a ≠ sysModules := by simpa using hd
      refine ⟨_, Reads.dict ho hx.1 hdat (reads_keys hp hkeys) hr, ?_⟩
      simp only [List.cons_append, List.nil_append, List.mem_cons, not_or]
      exact ⟨fun z => hd' z.symm, hn⟩
theorem Ts.reads2 (I : Inv X pins σ H s) (hS : SysM s.heap) : ∀ (ds : List Tr) (vs : List V) (us : List Value), Ts X.K H P vs ds → Vals vs us → ∃ as, ReadsAll s.heap us (pys ds) as ∧ sysModules ∉ as
  | [], _, _, h, r => by
    cases h
    cases r
    exact ⟨_, ReadsAll.nil, fun h => nomatch h⟩
  | d :: ds, _, _, h, r => by
    cases h with
    | cons h1 h2 =>
      cases r with
      | cons r1 r2 =>
        obtain ⟨as, q1, n1⟩ := T.reads2 I hS d _ _ h1 r1
        obtain ⟨bs, q2, n2⟩ := Ts.reads2 I hS ds _ _ h2 r2
        refine ⟨_, ReadsAll.cons q1 q2, ?_⟩
        rw [List.mem_append, not_or]
        exact ⟨n1, n2⟩
theorem Tk.reads2 (I : Inv X pins σ H s) (hS : SysM s.heap) : ∀ (ds : List (Key × Tr)) (kvs : List (Key × V)) (vs : List (Key × Value)), Tk X.K H P kvs ds → KV kvs vs → ∃ as, ReadsAll s.heap (vs.map (·.2)) (pys (ds.map (·.2))) as ∧ sysModules ∉ as
  | [], _, _, h, r => by
    cases h
    cases r
    exact ⟨_, ReadsAll.nil, fun h => nomatch h⟩
  | d :: ds, _, _, h, r => by
    cases h with
    | cons h1 h2 =>
      cases r with
      | cons r1 r2 =>
        obtain ⟨as, q1, n1⟩ := T.reads2 I hS _ _ _ h1 r1.2
        obtain ⟨bs, q2, n2⟩ := Tk.reads2 I hS ds _ _ h2 r2
        refine ⟨_, ReadsAll.cons q1 q2, ?_⟩
        rw [List.mem_append, not_or]
        exact ⟨n1, n2⟩
end
end
def rReprS (K : PySem.W.Frag) : List V → Hp → VK → Prop := fun xs H Q => ∃ P a d, xs = [.ref a] ∧ T K H P (.ref a) d ∧ (py d).showable = true ∧ dep d ≤ 60 ∧ (py d).shown.length ≤ sizeLine ∧ Q (.str (py d).shown) H
theorem call_reprS {X : Cx} (hS : SysM X.base) (hg : X.A.guards = some []) (hu : X.A.units + 64 < cLine) : CallR X (.builtin "repr") (rReprS X.K) := by
  intro pins s σ H xs us Q I r h
  obtain ⟨P, a, d, rfl, ht, hs, hd, hz, q⟩ := h
  obtain ⟨u, rfl, rx⟩ := vals1 r
  cases (show u = Value.ref a from rx)
  obtain ⟨as, r1, na⟩ := T.reads2 I (hS.on I) d _ _ ht rfl
  exact repr_of_reads' r1 hs (fun _ => na) hg (by rw [depth_py]; omega) (fun _ _ e => e) (fun h' u tk k => ⟨.str _, H, I.kept (t' := tk) k, ⟨u, rfl⟩, q⟩) hz
theorem k_reprS {X : Cx} {K : PySem.W.Frag} (h : X.K = K) (hS : SysM X.base) (hg : X.A.guards = some []) (hu : X.A.units + 64 < cLine) : CallR X (.builtin "repr") (rReprS K) := h ▸ call_reprS hS hg hu
theorem q_reprS {K : PySem.W.Frag} {H : Hp} {Q : VK} {N : Addr → Prop} {a : Addr} {n m : Nat} {j : Bool} {d : Tr} (t : T K H N (.ref a) d) (v : Vw n m j d) (hn : n ≤ 100000) (hm : m ≤ 60) (q : Q (.str (py d).shown) H) : rReprS K [.ref a] H Q :=
  ⟨N, a, d, rfl, t, v.sh, Nat.le_trans v.dp hm, Nat.le_trans v.len (Nat.le_trans (show 15 * n + 13 ≤ 15 * 100000 + 13 by omega) (by decide)), q⟩
/-- the outermost call, where sys.modules is known to stand in the base -/
theorem sysM_of {l : PySem.W.OpenLaw} {q : Program} {loose : List Str} {XP : (Str → Option Value) → Heap → Prop} {w : World} {z0 : Shared} {mg mb : Str → Option Value} {h : Heap} (G : PySem.W.Ground q loose [] XP w z0 mg mb h) (hi : importsNone q = true) : SysM h := by
  obtain ⟨m, hm, _⟩ := (G.T.seer hi).mods
  obtain ⟨o, es, n, e, d, _⟩ := hm
  exact ⟨o, es, n, e, d⟩
end TU

set_option Elab.async false
set_option linter.all false
set_option maxRecDepth 100000
namespace TU
open PySem PySem.Spec PyProof.Rows L2
/-! ### sets: what their laying and their walk need, whatever the members -/
def fshO (w : World) : Obj := { cls := .type "set", dict := none, data := .set #[] 0 (.fresh 0 0 (!w.params.followText "set-order")) }
/-- V h v k: the value v bears the member k; M h a L: the set at a has the values and members L -/
structure SetLaw (P : Program) (w : World) {κ : Type} (V : Heap → Value → κ → Prop) (M : Heap → Addr → List (Value × κ) → Prop) : Prop where
  mo : ∀ {h h' a L}, M h a L → (∀ o, h.get? a = some o → h'.get? a = some o) → M h' a L
  vk : ∀ {h h' v x}, V h v x → (∀ b o, h.get? b = some o → h'.get? b = some o) → V h' v x
  nw : ∀ {h a}, h.get? a = some (fshO w) → M h a []
  ad : ∀ {A : Around} {E : Value → Shared → Prop} {s : Shared} {a : Addr} {L : List (Value × κ)} {v : Value} {x : κ} {Q : Bool → Shared → Prop}, M s.heap a L → (∀ z ∈ L, V s.heap z.1 z.2) → V s.heap v x → L.length + 1 < 64 → A.units < cLine →
    (∀ b h' L' tk, Heap.SameBut a s.heap h' → s.toks ≤ tk → M h' a L' → (x ∈ L.map (·.2) → L' = L) → (x ∉ L.map (·.2) → L'.Perm ((v, x) :: L)) → Q b { s with heap := h', toks := tk }) → wpAny (model P w) A (setAdd a v) Q E s
  ot : ∀ {h a L}, M h a L → ∃ o es ep t, h.get? a = some o ∧ o.ExactSet ∧ o.data = .set es ep t ∧ t.fits es.size = true ∧ es.size < scanBound ∧ Ris t.place.toList ∧ (w.params.followText "set-order" = true ∨ t.led = true) ∧ es.toList.map (·.2) = L.map (·.1)
  nd : ∀ {h a L}, M h a L → (L.map (·.2)).Nodup
/-- what came of the first i items -/
structure Gath {κ : Type} (ks : List (Value × κ)) (i : Nat) (L : List (Value × κ)) : Prop where
  sub : ∀ p ∈ L, p ∈ ks.take i
  all : ∀ p ∈ ks.take i, p.2 ∈ L.map (·.2)
  len : L.length ≤ i
section
variable {κ : Type} {ks L L' : List (Value × κ)} {i : Nat} {x : Value × κ}
theorem Gath.old (g : Gath ks i L) (h : ks[i]? = some x) (hm : x.2 ∈ L.map (·.2)) : Gath ks (i + 1) L := by
  refine ⟨fun p hp => ?_, fun p hp => ?_, Nat.le_succ_of_le g.len⟩
  · rw [take_more h]
    exact List.mem_append_left _ (g.sub p hp)
  · rw [take_more h] at hp
    rcases List.mem_append.mp hp with c | c
    · exact g.all p c
    · rw [List.mem_singleton.mp c]
      exact hm
theorem Gath.add (g : Gath ks i L) (h : ks[i]? = some x) (pm : L'.Perm (x :: L)) : Gath ks (i + 1) L' := by
  have mem : ∀ k, k ∈ L'.map (·.2) ↔ k = x.2 ∨ k ∈ L.map (·.2) := fun k => by
    rw [(pm.map (·.2)).mem_iff, List.map_cons, List.mem_cons]
  refine ⟨fun p hp => ?_, fun p hp => ?_, by rw [pm.length_eq]; exact Nat.succ_le_succ g.len⟩
  · rw [take_more h]
    rcases List.mem_cons.mp (pm.mem_iff.mp hp) with c | c
    · rw [c]
      exact List.mem_append_right _ (List.mem_singleton.mpr rfl)
    · exact List.mem_append_left _ (g.sub p c)
  · rw [take_more h] at hp
    refine (mem _).mpr ?_
    rcases List.mem_append.mp hp with c | c
    · exact .inr (g.all p c)
    · exact .inl (by rw [List.mem_singleton.mp c])
end
section
variable {P : Program} {w : World} {κ : Type} {V : Heap → Value → κ → Prop} {M : Heap → Addr → List (Value × κ) → Prop}
/-- the loop of update -/
theorem SetLaw.loop (Z : SetLaw P w V M) {A : Around} {J d : Addr} {fp wr : List Addr} {G : Array GenState → Array GenState → Prop} {n : Nat} {Pv : Nat → Value → Prop} {St : Nat → Shared → Prop} {R : Result → Shared → Prop}
    (Wk : WalksS P w A.in1 J fp wr G n Pv St) (hd : d ∉ fp) (ks : List (Value × κ)) (hn : n = ks.length) (few : ks.length < 64) (val : ∀ i v, Pv i v → ∃ p, ks[i]? = some p ∧ v = p.1)
    (h0 : Heap) (hk : ∀ p ∈ ks, V h0 p.1 p.2) (hd0 : h0.get? d = none) (hw0 : ∀ b ∈ wr, h0.get? b = none) (hu : A.in1.units < cLine) :
    ∀ (m i : Nat) (s : Shared), n - i = m → i ≤ n → St i s → (∀ b o, h0.get? b = some o → s.heap.get? b = some o) → (∃ L, M s.heap d L ∧ Gath ks i L) →
      (∀ s' L, Moved (d :: wr) G s s' → M s'.heap d L → Gath ks n L → (∀ b o, h0.get? b = some o → s'.heap.get? b = some o) → R (.ok (.ret .none)) s') →
      codeAny (model P w) A (.builtin "set.update.loop" ⟨[.ref d, .ref J], []⟩) R s := by
  have dw : d ∉ wr := fun c => hd (Wk.sub _ c)
  have up : ∀ b ∈ wr, b ∈ d :: wr := fun b c => List.mem_cons_of_mem _ c
  have kp : ∀ {s s' : Shared}, Moved wr G s s' → (∀ b o, h0.get? b = some o → s.heap.get? b = some o) → ∀ b o, h0.get? b = some o → s'.heap.get? b = some o := fun mv k b o e =>
    mv.heap b o (fun c => by rw [hw0 b c] at e; cases e) (k b o e)
  intro m
  induction m with
  | zero =>
    rintro i s hm hi st k0 ⟨L, hL, g⟩ fin
    obtain rfl : i = n := by omega
    refine codeAny_builtin PyProof.Rows.F.entry_set_update_loop ?_
    rw [Around.under_plainId PyProof.Rows.F.plain_set_update_loop _]
    show wpAny _ A.in1 (pyNext (.ref J) >>= _) _ _ s
    refine wpAny_bind (Wk.done s _ _ st fun s' mv => ?_)
    show wpAny _ A.in1 (ret Value.none) _ _ s'
    exact wpAny_pure (fin s' L (mv.mono up) (Z.mo hL fun o e => mv.heap d o dw e) g (kp mv k0))
  | succ m ih =>
    rintro i s hm hi st k0 ⟨L, hL, g⟩ fin
    have lt : i < n := by omega
    refine codeAny_builtin PyProof.Rows.F.entry_set_update_loop ?_
    rw [Around.under_plainId PyProof.Rows.F.plain_set_update_loop _]
    show wpAny _ A.in1 (pyNext (.ref J) >>= _) _ _ s
    refine wpAny_bind (Wk.item i s _ _ lt st fun v s' hP st' mv => ?_)
    obtain ⟨p, hp, rfl⟩ := val i v hP
    have k1 := kp mv k0
    have sub : ∀ q ∈ L, q ∈ ks := fun q c => List.mem_of_mem_take (g.sub q c)
    show wpAny _ A.in1 (holding [p.1] (setAdd d p.1) >>= _) _ _ s'
    refine wpAny_bind (wpAny_holding (Z.ad (Z.mo hL fun o e => mv.heap d o dw e) (fun q c => Z.vk (hk q (sub q c)) k1) (Z.vk (hk p (List.mem_of_getElem? hp)) k1) (by have := g.len; omega) hu fun b h' L' tk sb ht hL' c1 c2 => ?_))
    have g' : Gath ks (i + 1) L' := by
      rcases Classical.em (p.2 ∈ L.map (·.2)) with c | c
      · rw [c1 c]
        exact g.old hp c
      · exact g.add hp (c2 c)
    have k2 : ∀ b o, h0.get? b = some o → h'.get? b = some o := fun b o e => (sb.2 b fun c => by rw [c, hd0] at e; cases e).trans (k1 b o e)
    refine wpAny_pure ⟨plainId_quiet PyProof.Rows.F.plain_set_update_loop _, ih (i + 1) _ (by omega) lt (Wk.frame _ s' _ _ st' ht fun b hb o e => ?_) k2 ⟨L', hL', g'⟩ fun s2 L2 mv2 hL2 g2 k3 => ?_⟩
    · exact (sb.2 b fun c => hd (by rw [← c]; exact hb)).trans e
    · refine fin s2 L2 (Moved.trans Wk.gtrans ((mv.mono up).then_heap ht fun b o hb e => ?_) mv2) hL2 g2 k3
      exact (sb.2 b fun c => hb (by rw [c]; exact List.mem_cons_self)).trans e
end
end TU

set_option Elab.async false
set_option linter.all false
set_option maxRecDepth 100000
namespace TU
open PySem PySem.Spec PyProof.Rows L2
section
variable {P : Program} {w : World} {κ : Type} {V : Heap → Value → κ → Prop} {M : Heap → Addr → List (Value × κ) → Prop} {A : Around} {E : Value → Shared → Prop} {s : Shared}
theorem fresh_none (h : Heap) {b : Addr} (hb : h.objs.size ≤ b) : h.get? b = none := by
  cases e : h.get? b with
  | none => rfl
  | some o => exact absurd (Heap.lt_size e) (Nat.not_lt.mpr hb)
theorem get_push (h : Heap) {b : Addr} {o u : Obj} (e : h.get? b = some o) : (h.push u).get? b = some o := Heap.get?_push_of_some _ e
theorem size_push2 (h : Heap) (u : Obj) : (h.push u).objs.size = h.objs.size + 1 := Heap.size_push h u
theorem get_own (h : Heap) {u : Obj} (f : u.isFreed = false := by rfl) : (h.push u).get? h.objs.size = some u := Heap.get?_push_size _ f
set_option maxHeartbeats 3200000 in
/-- set(xs), xs a list -/
theorem SetLaw.call (Z : SetLaw P w V M) {l : Addr} {its : Array Value} (ks : List (Value × κ)) {Q : Value → Shared → Prop} (hh : A.handled = none) (hl : s.heap.IsList l its) (hit : its.toList = ks.map (·.1)) (hk : ∀ p ∈ ks, V s.heap p.1 p.2) (few : ks.length < 64) (hu : A.units + 3 < cLine)
    (fin : ∀ (h' : Heap) (tk : Nat) L, M h' s.heap.objs.size L → Gath ks ks.length L → (∀ b o, s.heap.get? b = some o → h'.get? b = some o) → Q (.ref s.heap.objs.size) { s with heap := h', toks := tk }) :
    wpAny (model P w) A (call (.type "set") [.ref l]) Q E s := by
  have len : its.size = ks.length := by
    have e := congrArg List.length hit
    rwa [Array.length_toList, List.length_map] at e
  obtain ⟨cc, cl, mro⟩ := PySem.F.called_set.mro
  have made := PySem.F.called_set.made
  have sub := PySem.F.called_set.sub
  refine wpAny_call (codeAny_of_tree ?_)
  show wpAny _ _ (callAny (.type "set") ⟨[.ref l], []⟩) _ _ _
  refine wpAny_pure ⟨Code.quiet_builtin _ (by decide +kernel), codeAny_builtin PySem.F.entry_type_call ?_⟩
  rw [Around.under_plain (weight_type_call_type "set" [.ref l] []) rfl]
  have nt := PySem.F.called_set.notType
  have cr := PySem.F.called_set.canCreate
  have tc := PySem.F.typeCall_set_1 (.ref l)
  repeat (any_goals (first | assumption | wp_step))
  refine codeAny_mono (code_set_led1 (.ref l) (E := E) (Q₁ := fun x z => x = .ref s.heap.objs.size ∧ z = { s with heap := s.heap.push (fshO w) }) ⟨rfl, rfl⟩) fun r z hr => ?_
  match r, hr with
  | .error e, hr => exact hr
  | .ok .next, hr => exact hr.elim
  | .ok .brk, hr => exact hr.elim
  | .ok .cont, hr => exact hr.elim
  | .ok (.ret x), ⟨ex, ez⟩ =>
    subst ex ez
    have own := get_own s.heap (u := fshO w)
    have ty : Shared.TypeIs { s with heap := s.heap.push (fshO w) } (.ref s.heap.objs.size) "set" := ⟨_, own, rfl⟩
    have li := PySem.F.called_set.init.lookup
    have bi := PySem.F.called_set.init.bind (.ref s.heap.objs.size)
    repeat (any_goals (first | assumption | wp_step))
    refine codeAny_mono (codeAny_call_builtin (R := wants (fun r z => r = .none ∧ ∃ h' tk L, z = { s with heap := h', toks := tk } ∧ M h' s.heap.objs.size L ∧ Gath ks ks.length L ∧ ∀ b o, s.heap.get? b = some o → h'.get? b = some o) E) PySem.F.called_set.init.plain PySem.F.entry_set_init (check_set_init_1 ty ?_)) fun r z hr => ?_
    · obtain ⟨ol, hol, hcl, nl, hdl⟩ := id hl
      have hol2 := get_push s.heap hol (u := fshO w)
      have sl := PySem.F.sub_list_set
      have sf := PySem.F.sub_list_frozenset
      have ne : (Value.type "list" == Value.type "dict") = false := by decide
      have hl2 : (s.heap.push (fshO w)).IsList l its := ⟨_, hol2, hcl, nl, hdl⟩
      obtain ⟨ocls, od, odata, oslots⟩ := ol
      simp only at hcl hdl
      subst hcl hdl
      unfold Builtin.«set.__init__» noKeywords Builtin.Frozenset.updateFrom
      generalize hy : pyIter = PI
      wp_walk
      subst hy
      refine wpAny_pyIter_list hl2 (wpAny_bind (wpAny_runValue ?_))
      have lt : l < s.heap.objs.size := Heap.lt_size hol
      have sz := size_push2 s.heap (fshO w)
      have nh : A.in1.in1.in1.handled = none := by simp [hh]
      have lne : l ≠ (s.heap.push (fshO w)).objs.size := by
        rw [sz]
        exact Nat.ne_of_lt (Nat.lt_succ_of_lt lt)
      have dn : s.heap.objs.size ∉ [(s.heap.push (fshO w)).objs.size, l] := by
        rw [sz]
        intro c
        rcases List.mem_cons.mp c with c | c
        · exact absurd c (Nat.ne_of_lt (Nat.lt_succ_self _))
        · exact absurd (List.mem_singleton.mp c) (Nat.ne_of_gt lt)
      refine Z.loop ((Walks.list nh _ l lne its).toS) dn ks len few (fun i v hv => ?_) s.heap hk (fresh_none _ (Nat.le_refl _)) (fun b hb => fresh_none _ (by rw [List.mem_singleton.mp hb, sz]; exact Nat.le_succ _)) hu (its.size - 0) 0 _ (by omega) (Nat.zero_le _)
        ⟨⟨_, Heap.get?_push_size _ rfl, rfl, rfl⟩, hl2.push _⟩ (fun b o e => get_push _ (get_push _ e)) ⟨[], Z.nw (get_push _ own), ⟨(fun p hp => nomatch hp), (fun p hp => nomatch hp), Nat.le_refl _⟩⟩ fun z L mv hM g k => ?_
      · have e : its.toList[i]? = some v := by rw [Array.getElem?_toList]; exact hv
        rw [hit] at e
        obtain ⟨p, hp, rfl⟩ := map_at e
        exact ⟨p, hp, rfl⟩
      · obtain ⟨h', g2, d2, tk, o2⟩ := z
        have eg : g2 = s.gens := mv.gens
        have ed : d2 = s.drawn := mv.drawn
        have eo : o2 = s.os := mv.os
        subst eg ed eo
        show wpAny _ _ _ _ _ _
        refine wpAny_pure ?_
        show wpAny _ _ (ret Value.none) _ _ _
        rw [len] at g
        exact wpAny_pure ⟨rfl, h', tk, L, rfl, hM, g, k⟩
    · match r, hr with
      | .error e, hr => exact hr
      | .ok .next, hr => exact hr.elim
      | .ok .brk, hr => exact hr.elim
      | .ok .cont, hr => exact hr.elim
      | .ok (.ret x), ⟨ex, h', tk, L, ez, hM, g, k⟩ =>
        subst ex ez
        repeat (any_goals (first | assumption | wp_step))
        exact fin _ _ _ hM g k
end
end TU

set_option Elab.async false
set_option linter.all false
set_option maxRecDepth 100000
namespace TU
open PySem PySem.Spec PyProof.Rows L2
/-- what is in another order than a list's images is the images in another order -/
theorem perm_img {α β : Type} {f : α → β} : ∀ {l : List β} {m : List α}, l.Perm (m.map f) → ∃ m' : List α, m'.Perm m ∧ l = m'.map f
  | [], m, p => by
    have : m = [] := List.length_eq_zero_iff.mp (by have := p.length_eq; rw [List.length_map] at this; exact this.symm)
    exact ⟨[], by rw [this], rfl⟩
  | y :: l, m, p => by
    obtain ⟨x, hx, rfl⟩ := List.mem_map.mp (p.mem_iff.mp List.mem_cons_self)
    obtain ⟨a, b, rfl⟩ := List.append_of_mem hx
    have q : (a ++ x :: b).Perm (x :: (a ++ b)) := List.perm_middle
    have p2 : l.Perm ((a ++ b).map f) := (p.trans (q.map f)).cons_inv
    obtain ⟨m', h1, h2⟩ := perm_img p2
    exact ⟨x :: m', (h1.cons x).trans q.symm, by rw [List.map_cons, h2]⟩
/-! ### sets of texts -/
def VT (_ : Heap) (v : Value) (x : Str) : Prop := ∃ t, v = .str x t
def rowT (P : Program) (w : World) (z : Value × Str) : Int × Value := ((strKind P w).hash z.2, z.1)
structure MTR (P : Program) (w : World) (L : List (Value × Str)) (es : Array (Int × Value)) (t : SetTable) : Prop where
  rows : es.toList = L.map (rowT P w)
  txt : ∀ z ∈ L, ∃ tk, z.1 = .str z.2 tk
  nd : (L.map (·.2)).Nodup
  few : es.size < scanBound
  fit : t.fits es.size = true
  ris : Ris t.place.toList
  led : w.params.followText "set-order" = true ∨ t.led = true
def MT (P : Program) (w : World) (h : Heap) (a : Addr) (L : List (Value × Str)) : Prop := ∃ o es ep t, h.get? a = some o ∧ o.ExactSet ∧ o.data = .set es ep t ∧ MTR P w L es t
section
variable {P : Program} {w : World} {L : List (Value × Str)} {es : Array (Int × Value)} {t : SetTable}
theorem MTR.len (R : MTR P w L es t) : es.size = L.length := by
  rw [← Array.length_toList, R.rows, List.length_map]
theorem MTR.elems (R : MTR P w L es t) : ElemsOf (strKind P w) es.toList := fun e he => by
  rw [R.rows] at he
  obtain ⟨z, hz, rfl⟩ := List.mem_map.mp he
  obtain ⟨tk, e⟩ := R.txt z hz
  refine ⟨⟨z.2, ?_, rfl⟩, ?_⟩
  · show (strKind P w).is z.2 z.1 = true
    rw [e]
    exact strKind_is P w _ _
  · show z.1.scannable = true
    rw [e]
    rfl
theorem is_txt {x y : Str} {tk : Tok} : (strKind P w).is x (.str y tk) = true ↔ y = x := by
  constructor
  · intro e
    obtain ⟨t, ev⟩ := Value.isStrOf_shape (x := x) (v := .str y tk) e
    injection ev
  · rintro rfl
    exact strKind_is P w _ _
theorem MTR.has (R : MTR P w L es t) (x : Str) : x ∈ L.map (·.2) ↔ ∃ e ∈ es.toList, (strKind P w).is x e.2 = true := by
  rw [R.rows]
  constructor
  · intro h
    obtain ⟨z, hz, rfl⟩ := List.mem_map.mp h
    obtain ⟨tk, e⟩ := R.txt z hz
    exact ⟨_, List.mem_map.mpr ⟨z, hz, rfl⟩, by show (strKind P w).is z.2 z.1 = true; rw [e]; exact strKind_is P w _ _⟩
  · rintro ⟨e, he, q⟩
    obtain ⟨z, hz, rfl⟩ := List.mem_map.mp he
    obtain ⟨tk, e⟩ := R.txt z hz
    have q2 : (strKind P w).is x z.1 = true := q
    rw [e] at q2
    exact List.mem_map.mpr ⟨z, hz, is_txt.mp q2⟩
variable {A : Around} {E : Value → Shared → Prop} {s : Shared} {a : Addr}
/-- the last steps: what is stored, laid anew where it is too full -/
theorem mt_tail {g : Bool → Sem Unit} (hg : ∀ (b : Bool) (z : Shared) (Q' : Unit → Shared → Prop), Q' () z → wpAny (model P w) A (g b) Q' E z) {o : Obj} {es : Array (Int × Value)} {ep : Nat} {t : SetTable} (hob : s.heap.get? a = some o) (hx : o.ExactSet) (hda : o.data = .set es ep t)
    {es1 : Array (Int × Value)} {t2 : SetTable} {L1 : List (Value × Str)} (R1 : MTR P w L1 es1 t2) {wd : Bool} {R : Option Bool → Shared → Prop}
    (fin : ∀ h' L', Heap.SameBut a s.heap h' → MT P w h' a L' → L'.Perm L1 → R (some true) { s with heap := h' }) :
    wpAny (model P w) A (do
        storeSet a es1 t2
        if (!wd && t2.tooFull) = true then do
            g (relayAll t2 es1 (SetTable.grown es1.size)).2.2
            storeSet a (relayAll t2 es1 (SetTable.grown es1.size)).1 (relayAll t2 es1 (SetTable.grown es1.size)).2.1
            pure (some true)
          else pure (some true)) R E s := by
  refine wpAny_bind (wpAny_storeSet_of hob hda ?_ (fits_of_scanBound R1.few))
  have ob1 := store_at (es' := es1) (t' := t2) hob hda
  have b1 := Heap.SameBut.update s.heap a (Obj.putSet es1 t2)
  split
  · have y1 := relayAll_perm t2 es1 (SetTable.grown es1.size)
    have y2 := relayAll_fits t2 es1 (SetTable.grown es1.size)
    have y3 := relayAll_ris t2 es1 (SetTable.grown es1.size)
    have y4 := relayAll_led t2 es1 (SetTable.grown es1.size)
    generalize relayAll t2 es1 (SetTable.grown es1.size) = Y at y1 y2 y3 y4 ⊢
    obtain ⟨es2, t3, gv⟩ := Y
    dsimp only at y1 y2 y3 y4 ⊢
    rw [R1.rows] at y1
    obtain ⟨L', z1, z2⟩ := perm_img y1
    have sz : es2.size = es1.size := by rw [← Array.length_toList, z2, List.length_map, z1.length_eq, R1.len]
    have R2 : MTR P w L' es2 t3 := ⟨z2, fun q hq => R1.txt q (z1.mem_iff.mp hq), (z1.map (·.2)).nodup_iff.mpr R1.nd, by rw [sz]; exact R1.few, y2, y3, R1.led.imp id fun q => by rw [y4]; exact q⟩
    refine wpAny_bind (hg _ _ _ (wpAny_bind (wpAny_storeSet_of ob1 rfl ?_ (fits_of_scanBound R2.few))))
    have ob2 := store_at (es' := es2) (t' := t3) ob1 rfl
    exact wpAny_pure (fin _ L' (b1.trans (Heap.SameBut.update _ a _)) ⟨_, es2, _, t3, ob2, hx, rfl, R2⟩ z1)
  · exact wpAny_pure (fin _ L1 b1 ⟨_, es1, _, t2, ob1, hx, rfl, R1⟩ (List.Perm.refl _))
theorem mt_add {L : List (Value × Str)} {x : Str} {tk : Tok} {Q : Bool → Shared → Prop} (hM : MT P w s.heap a L) (few : L.length + 1 < scanBound)
    (fin : ∀ b h' L', Heap.SameBut a s.heap h' → MT P w h' a L' → (x ∈ L.map (·.2) → L' = L) → (x ∉ L.map (·.2) → L'.Perm ((.str x tk, x) :: L)) → Q b { s with heap := h' }) :
    wpAny (model P w) A (setAddHashed a (.str x tk) ((strKind P w).hash x)) Q E s := by
  obtain ⟨o, es, ep, t, hob, hx, hda, R⟩ := hM
  have ky : (strKind P w).is x (.str x tk) = true := strKind_is P w _ _
  have scn : (Value.str x tk).scannable = true := rfl
  unfold setAddHashed setAddHashedIn
  refine wpAny_holding (wpAny_bind (wpAny_setState_of hob hda R.fit ?_))
  dsimp only
  rw [byScan_of scn R.few R.elems]
  simp only [↓reduceIte]
  unfold setAddByScan
  refine wpAny_bind (wpAny_bind (wpAny_rule (wpAny_bind (wpAny_setScan_of ky hob hda R.fit R.elems ?_))))
  cases fi : List.findIdx? (fun e => (strKind P w).is x e.2) es.toList with
  | some j =>
    dsimp only
    obtain ⟨hj, pj, _⟩ := List.findIdx?_eq_some_iff_getElem.mp fi
    have m : x ∈ L.map (·.2) := (R.has x).mpr ⟨_, List.getElem_mem hj, pj⟩
    exact wpAny_pure (wpAny_pure (fin false s.heap L (Heap.SameBut.refl a s.heap) ⟨o, es, ep, t, hob, hx, hda, R⟩ (fun _ => rfl) fun c => absurd m c))
  | none =>
    dsimp only
    have nm : x ∉ L.map (·.2) := fun c => by
      obtain ⟨e, he, q⟩ := (R.has x).mp c
      have c := List.findIdx?_eq_none_iff.mp fi e he
      rw [q] at c
      cases c
    have give : ∀ (b : Bool) {z : Shared} {Q' : Unit → Shared → Prop}, Q' () z → wpAny (model P w) A (match b with | true => rule "set.scan.the-table-gave-way" | false => pure ()) Q' E z := fun b z Q' q => by
      cases b <;> first | exact wpAny_pure q | exact wpAny_rule q
    have y1 := layNew_perm t es ((strKind P w).hash x) (.str x tk)
    have y2 := layNew_fits t es ((strKind P w).hash x) (.str x tk)
    have y3 := layNew_ris t es ((strKind P w).hash x) (.str x tk) R.ris
    have y4 := layNew_led t es ((strKind P w).hash x) (.str x tk)
    generalize layNew t es ((strKind P w).hash x) (.str x tk) = Y at y1 y2 y3 y4 ⊢
    obtain ⟨es1, t1, wd, gv⟩ := Y
    dsimp only at y1 y2 y3 y4 ⊢
    rw [Array.toList_push] at y1
    have y5 : es1.toList.Perm (((Value.str x tk, x) :: L).map (rowT P w)) := by
      rw [List.map_cons, ← R.rows]
      exact y1.trans (List.perm_append_singleton _ _)
    obtain ⟨L1, z1, z2⟩ := perm_img y5
    have sz : es1.size = L.length + 1 := by rw [← Array.length_toList, z2, List.length_map, z1.length_eq, List.length_cons]
    have R1 : ∀ t2 : SetTable, t2.fits es1.size = true → Ris t2.place.toList → (w.params.followText "set-order" = true ∨ t2.led = true) → MTR P w L1 es1 t2 := fun t2 f r l =>
      ⟨z2, fun q hq => by
        rcases List.mem_cons.mp (z1.mem_iff.mp hq) with c | c
        · rw [c]
          exact ⟨tk, rfl⟩
        · exact R.txt q c, (z1.map (·.2)).nodup_iff.mpr (List.nodup_cons.mpr ⟨nm, R.nd⟩), by rw [sz]; exact few, f, r, l⟩
    have lled : w.params.followText "set-order" = true ∨ t1.led = true := R.led.imp id fun q => by rw [y4]; exact q
    refine wpAny_bind (give _ ?_)
    split
    · refine wpAny_bind ?_
      rw [hashByValue_scannable 8 scn]
      refine wpAny_pure ?_
      refine mt_tail (L1 := L1) ?_ hob hx hda (R1 _ ?_ ?_ ?_) ?_
      · intro b z Q' q
        cases b <;> first | exact wpAny_pure q | exact wpAny_rule q
      · first | (split <;> first | exact y2 | exact SetTable.fits_plain_off y2) | exact y2
      · first | (split <;> exact y3) | exact y3
      · first | (split <;> exact lled) | exact lled
      · intro h' L' sb hM pm
        dsimp only
        exact wpAny_pure (fin true h' L' sb hM (fun c => absurd c nm) fun _ => pm.trans z1)
    · refine wpAny_bind (wpAny_pure ?_)
      simp only [↓reduceIte]
      refine mt_tail (L1 := L1) ?_ hob hx hda (R1 _ y2 y3 lled) ?_
      · intro b z Q' q
        cases b <;> first | exact wpAny_pure q | exact wpAny_rule q
      · intro h' L' sb hM pm
        dsimp only
        exact wpAny_pure (fin true h' L' sb hM (fun c => absurd c nm) fun _ => pm.trans z1)
end
theorem mt_law (P : Program) (w : World) : SetLaw P w VT (MT P w) where
  mo := fun ⟨o, es, ep, t, e, r⟩ k => ⟨o, es, ep, t, k o e, r⟩
  vk := fun h _ => h
  nw := fun e => ⟨_, #[], 0, _, e, ⟨rfl, rfl, rfl⟩, rfl, rfl, (fun z hz => nomatch hz), List.nodup_nil, by decide, rfl, List.Pairwise.nil, by
    show _ ∨ (!w.params.followText "set-order") = true
    cases w.params.followText "set-order"
    · exact .inr rfl
    · exact .inl rfl⟩
  ad := fun {A E s a L v x Q} hM _ hv few hu fin => by
    obtain ⟨tk, rfl⟩ := hv
    unfold setAdd
    refine wpAny_holding (wpAny_bind ((strKind P w).pyHash (k := x) (strKind_is P w _ _) ?_))
    exact mt_add (s := { s with toks := s.toks + 1 }) hM (by unfold scanBound; omega) fun b h' L' sb hM' c1 c2 => fin b h' L' _ sb (Nat.le_succ _) hM' c1 c2
  ot := fun ⟨o, es, ep, t, e, x, d, R⟩ => ⟨o, es, ep, t, e, x, d, R.fit, R.few, R.ris, R.led, by rw [R.rows, List.map_map]; rfl⟩
  nd := fun ⟨o, es, ep, t, e, x, d, R⟩ => R.nd
end TU

set_option Elab.async false
set_option linter.all false
set_option maxRecDepth 100000
namespace TU
open PySem PySem.Spec PyProof.Rows L2
/-- a set of texts: its members -/
def STO (P : Program) (w : World) (a : Addr) (ss : List Str) : HO := .ext fun h => ∃ L, MT P w h a L ∧ L.map (·.2) = ss
theorem sto_ok {P : Program} {w : World} {H : Hp} {h : Heap} {a : Addr} {L : List (Value × Str)} (m : MT P w h a L) : ObjOk P w H h a (STO P w a (L.map (·.2))) := by
  refine ⟨⟨L, m, rfl⟩, ?_, fun h1 h2 ⟨L', m', e⟩ k => ⟨L', (mt_law P w).mo m' k, e⟩⟩
  obtain ⟨o, _, _, _, e, _⟩ := m
  exact ⟨o, e⟩
theorem strs_zip : ∀ {vs : List Value} {ss : List Str}, StrsAre vs ss → ∃ ks : List (Value × Str), vs = ks.map (·.1) ∧ ss = ks.map (·.2) ∧ ∀ p ∈ ks, ∃ t, p.1 = .str p.2 t
  | _, _, .nil => ⟨[], rfl, rfl, fun _ m => nomatch m⟩
  | _, _, .cons y t r => by
    obtain ⟨ks, h1, h2, h3⟩ := strs_zip r
    refine ⟨(.str y t, y) :: ks, by rw [h1]; rfl, by rw [h2]; rfl, fun p m => ?_⟩
    rcases List.mem_cons.mp m with c | c
    · rw [c]
      exact ⟨t, rfl⟩
    · exact h3 p c
theorem zip_strs : ∀ {ks : List (Value × Str)}, (∀ p ∈ ks, ∃ t, p.1 = .str p.2 t) → StrsAre (ks.map (·.1)) (ks.map (·.2))
  | [], _ => .nil
  | p :: ks, h => by
    obtain ⟨t, e⟩ := h p List.mem_cons_self
    rw [List.map_cons, List.map_cons, e]
    exact .cons _ t (zip_strs fun q m => h q (List.mem_cons_of_mem _ m))
/-- set(xs), xs a list of texts -/
def rSetL (K : PySem.W.Frag) (P : Program) (w : World) : List V → Hp → VK → Prop := fun vs H Q => ∃ (l : Addr) (ss : List Str), vs = [.ref l] ∧ SqL K H l (ss.map V.str) ∧ ss.length < 64 ∧
  ∀ p zs, H p = none → zs.Nodup → (∀ x, x ∈ zs ↔ x ∈ ss) → zs.length ≤ ss.length → Q (.ref p) (upd H p (STO P w p zs))
theorem call_setL {X : Cx} (hc : X.calm = true) (hu : X.A.units + 64 < cLine) : CallR X (.type "set") (rSetL X.K X.prog X.w) := by
  intro pins s σ H vs us Q I r h
  obtain ⟨l, ss, rfl, hs, few, q⟩ := h
  obtain ⟨its, rv, hl, _⟩ := I.list hs
  rw [Vals.ref1 r]
  obtain ⟨ks, e1, e2, e3⟩ := strs_zip rv.strs
  subst e2
  rw [List.length_map] at few q
  refine (mt_law X.prog X.w).call (A := X.A) ks (I.ok.hd hc) hl.isList (by rw [e1]) e3 few (by omega) fun h' tk L m g k => ?_
  refine ⟨.ref _, _, I.laid (t' := tk) k (Nat.le_refl _) (sto_ok m), rfl, q _ _ (I.hok.fresh (Nat.le_refl _)) ((mt_law X.prog X.w).nd m) (fun x => ?_) (by rw [List.length_map]; exact g.len)⟩
  have tk : ks.take ks.length = ks := List.take_length
  constructor
  · intro hx
    obtain ⟨z, hz, rfl⟩ := List.mem_map.mp hx
    have := g.sub z hz
    rw [tk] at this
    exact List.mem_map.mpr ⟨z, this, rfl⟩
  · intro hx
    obtain ⟨z, hz, rfl⟩ := List.mem_map.mp hx
    exact g.all z (by rw [tk]; exact hz)
/-- sorted(s), s a set of texts -/
def rSortST (P : Program) (w : World) : List V → Hp → VK → Prop := fun vs H Q => ∃ (a : Addr) (zs : List Str), vs = [.ref a] ∧ H a = some (STO P w a zs) ∧ zs.length < 64 ∧ ∀ p, H p = none → Q (.ref p) (upd H p (.lst ((srt zs).map V.str)))
theorem call_sortST {X : Cx} (hc : X.calm = true) : CallR X (.builtin "sorted") (rSortST X.prog X.w) := by
  intro pins s σ H vs us Q I r h
  obtain ⟨a, zs, rfl, ha, few, q⟩ := h
  rw [Vals.ref1 r]
  obtain ⟨L, m, rfl⟩ := (I.hok a _ ha).1
  obtain ⟨o, es, ep, t, hob, hx, hda, fit, fw, ris, led, ev⟩ := (mt_law X.prog X.w).ot m
  have txt : ∀ p ∈ L, ∃ t, p.1 = .str p.2 t := by
    obtain ⟨_, _, _, _, _, _, _, R⟩ := m
    exact R.txt
  refine Calls.call_function_entry kind_sorted plain_sorted entry_sorted (args_sorted1 _) ?_
  unfold Builtin.«sorted»
  refine wpAny_bind (wpAny_pure ?_)
  refine wpAny_bind (collect_set (A := X.A.in1) (I.ok.hd hc) ⟨o, hob, hx.1, hda⟩ fit fw ris led fun s1 vs k1 z1 g1 o1 pm => ?_)
  rw [ev] at pm
  obtain ⟨L1, p1, e1⟩ := perm_img pm
  subst e1
  have sa : StrsAre (L1.map (·.1)) (L1.map (·.2)) := zip_strs fun p mp => txt p (p1.mem_iff.mp mp)
  have ln : L1.length < 64 := by
    rw [p1.length_eq]
    rwa [List.length_map] at few
  refine wpAny_bind (wpAny_newList ?_ (by rw [List.length_map, sizeLine_eq]; omega))
  have own := get_own s1.heap (u := seqObj "list" (L1.map (·.1)).toArray 0)
  show wpAny _ _ _ _ _ { s1 with heap := s1.heap.push (seqObj "list" (L1.map (·.1)).toArray 0) }
  refine wpAny_bind (wpAny_holding (wpAny_call_entry slot_list_sort ⟨_, own, rfl⟩ entry_list_sort (list_sort_treeK strKind_oneLt (s := { s1 with heap := s1.heap.push (seqObj "list" (L1.map (·.1)).toArray 0) }) own sa.keysOf (fun v1 v2 rest e => keyKind_strs (by rw [← e]; exact sa)) (by rw [List.length_map]; exact ln) fun st hp hs => ⟨_, rfl, ?_⟩) (args_list_sort _)))
  obtain ⟨ys, y1, y2, y3⟩ := sorted_out_str sa hp hs
  obtain ⟨n2, hn2⟩ := sortedHeap_at (vs := L1.map (·.1)) (out := (arrOf st).map (·.2)) own
  have ey : ys = srt (L.map (·.2)) := sorted_is (y2.trans (p1.map _)) y3
  have lz : (ys.map V.str).length ≤ sizeLine := by
    rw [List.length_map, y2.length_eq, List.length_map, sizeLine_eq]
    omega
  have es : s1 = { s with heap := s1.heap, gens := s1.gens, drawn := s1.drawn, toks := s1.toks } := by
    cases s1
    cases s
    cases o1
    rfl
  have old : ∀ b u, s.heap.get? b = some u → (sortedHeap (s1.heap.push (seqObj "list" (L1.map (·.1)).toArray 0)) s1.heap.objs.size (L1.map (·.1)) ((arrOf st).map (·.2))).get? b = some u := fun b u e => by
    have e2 := k1 b u e
    have hb : b < s1.heap.objs.size := Heap.lt_size e2
    rw [sortedHeap_old (Nat.ne_of_lt hb) (by rw [size_push']; exact Nat.lt_succ_of_lt hb)]
    exact get_push _ e2
  have hn : H s1.heap.objs.size = none := I.hok.fresh z1
  have J : Inv X pins σ (upd H s1.heap.objs.size (.lst (ys.map V.str))) { s with heap := sortedHeap (s1.heap.push (seqObj "list" (L1.map (·.1)).toArray 0)) s1.heap.objs.size (L1.map (·.1)) ((arrOf st).map (·.2)), gens := s1.gens, drawn := s1.drawn, toks := s1.toks } :=
    I.call (ch := []) (Un.laid old z1 hn) (I.hok.laid old z1 ⟨lz, ((arrOf st).map (·.2)).toList, n2, vals_of_strs y1, by rw [Array.toArray_toList]; exact hn2⟩) (by rw [g1]; exact I.bare) (fun _ z => nomatch z)
  refine wpAny_pure ⟨_, rfl, .ref s1.heap.objs.size, _, ?_, rfl, q _ hn⟩
  rw [← ey]
  have e3 : s1.os = s.os := o1
  rw [show ({ s1 with heap := sortedHeap (s1.heap.push (seqObj "list" (L1.map (·.1)).toArray 0)) s1.heap.objs.size (L1.map (·.1)) ((arrOf st).map (·.2)) } : Shared) = { s with heap := sortedHeap (s1.heap.push (seqObj "list" (L1.map (·.1)).toArray 0)) s1.heap.objs.size (L1.map (·.1)) ((arrOf st).map (·.2)), gens := s1.gens, drawn := s1.drawn, toks := s1.toks } from by rw [← e3]]
  exact J
section
variable {K : PySem.W.Frag} {H : Hp} {Q : VK} {P : Program} {w : World}
theorem k_setL {X : Cx} (h : X.K = K) (hp : X.prog = P) (hw : X.w = w) (hc : X.calm = true) (hu : X.A.units + 64 < cLine) : CallR X (.type "set") (rSetL K P w) := by
  subst h hp hw
  exact call_setL hc hu
theorem k_sortST {X : Cx} (hp : X.prog = P) (hw : X.w = w) (hc : X.calm = true) : CallR X (.builtin "sorted") (rSortST P w) := by
  subst hp hw
  exact call_sortST hc
end
end TU

set_option Elab.async false
set_option linter.all false
set_option maxRecDepth 100000
namespace TU
open PySem PySem.Spec PyProof.Rows L2
/-! ### classes: methods, calls that may raise, fields -/
structure Dm (P : Program) (w : World) (K : PySem.W.Frag) (mg : Str → Option Value) (base : Heap) (C : Addr) (m : Str) (ps : List Str) (k : Nat) (sp : Sp) : Prop where
  ex : ∃ f fd, FnOk P w K mg base (L2.CX P w) k f fd ps sp ∧ Meth K C m f ∧ Binds K fd ps []
structure TopM (K : PySem.W.Frag) (C : Addr) (m qual : Str) (st : Stmt) (ps : List Str) : Prop where
  ex : ∃ f fd, Fun K m qual st f fd ∧ Meth K C m f ∧ Binds K fd ps []
/-- a class: how it is made, what it has -/
structure Kl (K : PySem.W.Frag) (mg : Str → Option Value) (x : Str) (C : Addr) (fs : List Str) : Prop where
  cl : Cls K C
  g : mg x = some (.ref C)
  no : ∀ f ∈ fs, NoAttr K C f
  mks : PySem.W.makesIn K C = true
  kp : PySem.W.keepIn K (.ref C) = true
section
variable {P : Program} {w : World} {K : PySem.W.Frag} {mg : Str → Option Value} {base : Heap} {C : Addr}
theorem TopM.dm {m qual : Str} {st : Stmt} {N ps : List Str} {k : Nat} {sp : Sp} (F : TopM K C m qual st ps) (S : FnScope N ps (defScope st)) (len : ∀ vs H Q E, sp vs H Q E → vs.length = ps.length)
    (hbody : ∀ (f : Addr) (cdv : Value) (A : Around) (outer : List Env) (s : Shared) (H : Hp) (vs : List V) (Q : VK) (E : XK), Room k (A.deeper (envOfC qual (defScope st) s.heap.objs.size f cdv)) → sp vs H Q E →
      ∃ t, PSs (cxOf (L2.CX P w) P w K mg base N qual (defScope st) f cdv A outer s H E) (defBody st) t ∧ t { nx := fun _ H' => Q .non H', rt := Q } (start N vs) H) : Dm P w K mg base C m ps (k + 1) sp := by
  obtain ⟨f, fd, F0, hm, hb⟩ := F.ex
  exact ⟨f, fd, F0.okX S len fun cdv A outer s H vs Q E hr h => hbody f cdv A outer s H vs Q E hr h, hm, hb⟩
/-- o.m(e, ..), what is raised wished for at the slots -/
def tMethX (C : Addr) (m : Str) (sp : Sp) (E : L2.St → XK) (ta : TE) (t : TA) : TE := fun σ H Q => ta σ H fun x H1 => ∃ a dx fs, x = .ref a ∧ H1 a = some (.ins C dx fs) ∧ fs.lookup m = none ∧ t σ H1 fun vs H2 => sp (x :: vs) H2 Q (E σ)
end
section
variable {X : Cx} {C : Addr} {m x : Str} {k : Nat} {ps fs : List Str} {sp : Sp} {o e : Expr} {es : List Expr} {ta : TE} {t : TA} {pos apos p : Pos} {E : L2.St → XK}
theorem pe_dm {pl : Sem Bool} (he : PE X o ta) (c : Kl X.K X.mg x C fs) (F : Dm X.prog X.w X.K X.mg X.base C m ps k sp) (hr : Room k X.A) (hx : ∀ σ, PassesAt (L2.CX X.prog X.w) X σ (E σ)) (ha : PA X (e :: es) t)
    (hst : starEach (e :: es) X.env = (false, eval e X.env) :: starEach es X.env := by rfl) (hpl : (backTo pos (starEach es X.env)).any (·.1) = false := by rfl)
    (ht : eval (.Call (.Attribute o m apos) (e :: es) [] pos) X.env = (do
      let ov ← eval o X.env
      standAt apos.atName
      let (f, first) ← holding [ov] (getMethod ov m pl)
      callWith pos f first (backTo pos (starEach (e :: es) X.env)) (backToKw pos (keywordEach [] X.env))) := by rfl) :
    PE X (.Call (.Attribute o m apos) (e :: es) [] pos) (tMethX C m sp E ta t) := by
  obtain ⟨f, fd, F0, hm, hb⟩ := F.ex
  refine ⟨fun pins s σ H Q I h => PySem.W.methodCall_KW (pl := pl) (thn (he.run pins s σ H _ I h) fun u s1 ⟨x, H1, I1, rx, a, dx, fs, ex, ea, l, q⟩ => ?_) ht⟩
  subst ex
  cases (show u = Value.ref a from rx)
  refine getmeth_ok I1 ea c.cl hm l (PySem.W.callWith_K (first := [.ref a]) (h₀ := X.base) I.ok.mod.kin hm.kp (thn (ha.run pos pins s1 σ H1 _ I1 q) fun us s2 ⟨vs, H2, I2, r, q2⟩ => ⟨I2.kIn, ?_⟩) hst hpl)
  exact run_fnS (us := .ref a :: us) (vs := .ref a :: vs) F0 hr hb (hx σ) I2 (.cons rfl r) q2
theorem pe_dm0 {pl : Sem Bool} (he : PE X o ta) (c : Kl X.K X.mg x C fs) (F : Dm X.prog X.w X.K X.mg X.base C m ps k sp) (hr : Room k X.A) (hx : ∀ σ, PassesAt (L2.CX X.prog X.w) X σ (E σ))
    (ht : eval (.Call (.Attribute o m apos) [] [] pos) X.env = (do
      let ov ← eval o X.env
      standAt apos.atName
      let (f, first) ← holding [ov] (getMethod ov m pl)
      callWith pos f first (backTo pos (starEach [] X.env)) (backToKw pos (keywordEach [] X.env))) := by rfl) :
    PE X (.Call (.Attribute o m apos) [] [] pos) (tMethX C m sp E ta tNil) := by
  obtain ⟨f, fd, F0, hm, hb⟩ := F.ex
  refine ⟨fun pins s σ H Q I h => PySem.W.methodCall_KW (pl := pl) (thn (he.run pins s σ H _ I h) fun u s1 ⟨x, H1, I1, rx, a, dx, fs, ex, ea, l, q⟩ => ?_) ht⟩
  subst ex
  cases (show u = Value.ref a from rx)
  exact getmeth_ok I1 ea c.cl hm l (PySem.W.callWith_K0 (first := [.ref a]) I1.kIn hm.kp (run_fnS (us := [.ref a]) (vs := [.ref a]) F0 hr hb (hx σ) I1 (.cons rfl .nil) q))
/-- C(e, ..), nothing is raised -/
theorem pe_mkC (c : Kl X.K X.mg x C fs) (F : Dm X.prog X.w X.K X.mg X.base C "__init__" ps k sp) (hr : Room (k + 1) X.A) (ha : PA X (e :: es) t) (hg : Gl X x := by rfl)
    (hdb : (x == ("__debug__" : Str)) = false := by decide) (he : starEach (e :: es) X.env = (false, eval e X.env) :: starEach es X.env := by rfl) (hpl : (backTo pos (starEach es X.env)).any (·.1) = false := by rfl) :
    PE X (.Call (.Name x p) (e :: es) [] pos) (tMake C sp [] E0 t) := by
  obtain ⟨f, fd, F0, hm, hb⟩ := F.ex
  exact pe_make ⟨c.mks, hm.at_, hm.fn, c.kp⟩ F0 hr hg c.g hb .nil passL ha hdb he hpl
end
section
variable {K : PySem.W.Frag} {σ : L2.St} {H : Hp} {D : Ends} {Q : VK} {te ta tb tc : TE} {tr : TA} {C : Addr} {m : Str} {sp : Sp} {E : L2.St → XK}
theorem q_methX (h : ta σ H fun x H1 => ∃ a dx fs, x = .ref a ∧ H1 a = some (.ins C dx fs) ∧ fs.lookup m = none ∧ tr σ H1 fun vs H2 => sp (x :: vs) H2 Q (E σ)) : tMethX C m sp E ta tr σ H Q := h
theorem q_make {sp : Sp} (h : tr σ H fun vs H1 => ∀ x dx, H1 x = none → H1 dx = none → dx ≠ x → sp (.ref x :: (vs ++ [])) (upd (upd H1 dx (.own x)) x (.ins C dx [])) (fun v H2 => v = .non ∧ Q (.ref x) H2) E0) : tMake C sp [] E0 tr σ H Q := h
theorem q_fld {f : Str} (h : te σ H fun x H1 => ∃ a C dx fs v, x = .ref a ∧ H1 a = some (.ins C dx fs) ∧ Cls K C ∧ NoAttr K C f ∧ fs.lookup f = some v ∧ Q v H1) : tFld K te f σ H Q := h
theorem q_fldE {f : Str} {mg : Str → Option Value} {x : Str} {fl : List Str} {a dx : Addr} {fs : List (Str × V)} {v : V} {R : V → Prop} (c : Kl K mg x C fl) (e : H a = some (.ins C dx fs)) (hf : f ∈ fl) (l : fs.lookup f = some v) (q : R v) :
    ∃ b C dx fs v, V.ref a = .ref b ∧ H b = some (.ins C dx fs) ∧ Cls K C ∧ NoAttr K C f ∧ fs.lookup f = some v ∧ R v := ⟨a, C, dx, fs, v, rfl, e, c.cl, c.no f hf, l, q⟩
theorem q_sfld {f : Str} {tv : TE} (h : tv σ H fun y H1 => te σ H1 fun x H2 => ∃ a C dx fs, x = .ref a ∧ H2 a = some (.ins C dx fs) ∧ Cls K C ∧ NoAttr K C f ∧ fs.length < 1000 ∧ D.nx σ (upd H2 a (.ins C dx (putF f y fs)))) : sFld K te tv f D σ H := h
theorem q_sfldE {f : Str} {mg : Str → Option Value} {x : Str} {fl : List Str} {a dx : Addr} {fs : List (Str × V)} {v : V} {R : Hp → Prop} (c : Kl K mg x C fl) (e : H a = some (.ins C dx fs)) (hf : f ∈ fl) (l : fs.length < 1000) (q : R (upd H a (.ins C dx (putF f v fs)))) :
    ∃ b C dx fs, V.ref a = .ref b ∧ H b = some (.ins C dx fs) ∧ Cls K C ∧ NoAttr K C f ∧ fs.length < 1000 ∧ R (upd H b (.ins C dx (putF f v fs))) := ⟨a, C, dx, fs, rfl, e, c.cl, c.no f hf, l, q⟩
theorem q_chain {r r' : R2} (h : ta σ H fun x H1 => tb σ H1 fun y H2 => r x y H2 fun z H3 => ∃ k, z = .bl k ∧ (if k = true then tc σ H3 fun w' H4 => r' y w' H4 Q else Q (.bl false) H3)) : tChain r r' ta tb tc σ H Q := h
theorem q_blE {b : Bool} {R : Bool → Prop} (h : R b) : ∃ k, V.bl b = V.bl k ∧ R k := ⟨b, rfl, h⟩
theorem q_bm0 {T : String} {r : V → List V → Hp → VK → Prop} (h : ta σ H fun x H1 => tyV K T x H1 ∧ r x [] H1 Q) : tBM0 K T r ta σ H Q := h
theorem q_pop {l : Addr} {xs : List V} {y : V} (h : H l = some (.lst (xs ++ [y]))) (q : Q y (upd H l (.lst xs))) : rPop (.ref l) [] H Q := by
  refine ⟨l, xs ++ [y], y, rfl, rfl, h, ?_, ?_⟩
  · rw [List.length_append]
    show (xs ++ [y])[xs.length + 1 - 1]? = _
    rw [Nat.add_sub_cancel, List.getElem?_append_right (Nat.le_refl _), Nat.sub_self]
    rfl
  · rw [List.dropLast_concat]
    exact q
theorem q_extend {l b : Addr} {xs zs : List V} (h : H l = some (.lst xs)) (hb : H b = some (.lst zs)) (z : xs.length + zs.length ≤ sizeLine) (q : Q .non (upd H l (.lst (xs ++ zs)))) : rExtend (.ref l) [.ref b] H Q := ⟨l, b, xs, zs, rfl, rfl, h, hb, z, q⟩
end
section
variable {X : Cx} {K : PySem.W.Frag} {o e : Expr} {to : TE} {t : TA} {apos cpos pos : Pos}
theorem k_extend (h : X.K = K) (ho : PE X o to) (ha : PA X [e] t) (hbase : attributeBase o "extend" X.env (eval o X.env) = eval o X.env := by rfl)
    (hfew : ((backTo cpos (starEach [e] X.env)).all (fun x => !x.1) && (backToKw cpos (keywordEach [] X.env)).all (fun x => x.1.isSome) && decide (([e] : List Expr).length + ([] : List Keyword).length + (if ([] : List Keyword).isEmpty then 0 else 1) < 30)) = true := by rfl)
    (hline : (apos.endLine == cpos.line) = true := by rfl) (hs : starEach [e] X.env = (false, eval e X.env) :: starEach [] X.env := by rfl) (hplain : (backTo cpos (starEach [] X.env)).any (·.1) = false := by rfl) :
    PE X (.Call (.Attribute o "extend" apos) [e] [] cpos) (tBM K "list" rExtend to t) := h ▸ pe_bm PySem.F.plainAttrs_list PySem.F.slot_list_extend PySem.F.type_list_extend mt_extend ho ha hbase hfew hline hs hplain
theorem k_popL (h : X.K = K) (ho : PE X o to) (hbase : attributeBase o "pop" X.env (eval o X.env) = eval o X.env := by rfl) (hline : (apos.endLine == cpos.line) = true := by rfl) :
    PE X (.Call (.Attribute o "pop" apos) [] [] cpos) (tBM0 K "list" rPop to) := h ▸ pe_bm0 PySem.F.plainAttrs_list PySem.F.slot_list_pop PySem.F.type_list_pop mt_pop ho hbase hline
/-- a statement that is never reached -/
theorem ps_never {s : Stmt} : PS X s (fun _ _ _ => False) := ⟨fun _ _ _ _ _ _ h => h.elim⟩
theorem k_sortX {P : Program} {w : World} (h : X.K = K) (hp : X.prog = P) (hw : X.w = w) (hc : X.calm = true) : CallR X (.builtin "sorted") (fun vs H Q => rSortU K vs H Q ∨ rSortST P w vs H Q) := (k_sort h hc).or (k_sortST hp hw hc)
end
/-! ### what the top has written, of methods and classes -/
theorem top_mkM {K : PySem.W.Frag} {C : Addr} {m qual : Str} {st : Stmt} {ps : List Str} {f : Addr} {oc : Value} {od an : Option Addr} {osl : Array (Option Value)} {kV doc pm cdv ct : Value} (ha : PySem.W.findIn K (.ref C) m = some (some (.ref f))) (hi : PySem.W.isFn K (.ref f) = true)
    (hl : K.lookup f = some ⟨oc, od, .func (PySem.W.fnOf m qual (defArgs st) (defBody st) (defScope st) .none kV doc pm an cdv ct), osl⟩) (hc : PySem.W.codeIn K cdv qual = true) (hk : PySem.W.keepIn K (.ref f) = true)
    (hb : ∀ (kV doc pm : Value) (an : Option Addr) (cdv ct : Value) (us : List Value), us.length = ps.length → bindArgs (PySem.W.fnOf m qual (defArgs st) (defBody st) (defScope st) .none kV doc pm an cdv ct) ⟨us, []⟩ = pure (ps.zip us)) : TopM K C m qual st ps :=
  ⟨f, _, fun_mk hl hc hk, ⟨ha, hi, hk⟩, (fun_mk hl hc hk).binds hb⟩
theorem glob_int {K : PySem.W.Frag} {h : Heap} {mg : Str → Option Value} {x : Str} {i : Int} {t : Tok} (X : K.In h) (G : h.Ns mainGlobals mg) (ha : PySem.W.nsIn K mainGlobals x = some (some (.int i t))) : ∃ t, mg x = some (.int i t) := ⟨t, PySem.W.mg_of X G ha⟩
theorem xc_mk1 {P : Program} {w : World} {K : PySem.W.Frag} {h : Heap} {mg : Str → Option Value} {base : Heap} {x qual f1 : Str} {st : Stmt} {C f : Addr} (X : K.In h) (G : h.Ns mainGlobals mg)
    {nm q : Str} {N : Addr} {bs bm : List Value} {sn : List Str} {sub : List Value} {ab : Bool} {col : Option Bool} {dd : Option Addr} {m0 m1 m2 m3 m5 : Option Value}
    {od an : Option Addr} {sl : Array (Option Value)} {oc kV dc pm cd ct : Value} {p1 p2 p3 p4 : Pos}
    (aC : PySem.W.nsIn K mainGlobals x = some (some (.ref C))) (xL : K.lookup C = some (excClassObj nm q C N bs bm true sn sub ab col dd m0 m1 m2 m3 m5 "ValueError.__new__")) (xb : PySem.HandSPX.refsVE bm = true)
    (sa : PySem.W.findIn K (.ref C) "__setattr__" = some (some (.builtin "object.__setattr__"))) (ga : PySem.W.findIn K (.ref C) "__getattribute__" = some (some (.builtin "BaseException.__getattribute__"))) (gg : PySem.W.findIn K (.ref C) "__getattr__" = some none)
    (n1 : PySem.W.findIn K (.ref C) f1 = some none)
    (a1 : PySem.W.findIn K (.ref C) "__init__" = some (some (.ref f))) (t1 : PySem.W.typeIn K (.ref f) = some (.type "function"))
    (l1 : K.lookup f = some ⟨oc, od, .func (PySem.W.fnOf "__init__" qual (defArgs st) (defBody st) (defScope st) .none kV dc pm an cd ct), sl⟩) (c1 : PySem.W.codeIn K cd qual = true) (k1 : PySem.W.keepIn K (.ref f) = true)
    (kC : PySem.W.keepIn K (.ref C) = true) (eC : PySem.W.subIn K (.ref C) (.type "BaseException") = some true) (tC : PySem.W.typeIn K (.ref C) = some (.type "type")) (hC : PySem.W.hasDictIn K C = true) (iC : PySem.W.isClsIn K C = true) (sC : PySem.W.subIn K (.ref C) (.ref C) = some true)
    (S : FnScope ["self", f1] ["self", f1] (defScope st)) (hb : defBody st = [.Assign [.Attribute (.Name "self" p1) f1 p2] (.Name f1 p3) p4])
    (d1 : (f1 == ("__debug__" : Str)) = false) (d2 : (f1 == ("__classdict__" : Str)) = false)
    (v0 : Vis (defScope st) "self") (v1 : Vis (defScope st) f1)
    (bi : ∀ (kV doc pm : Value) (an : Option Addr) (cdv ct : Value) (us : List Value), us.length = 2 → bindArgs (PySem.W.fnOf "__init__" qual (defArgs st) (defBody st) (defScope st) .none kV doc pm an cdv ct) ⟨us, []⟩ = pure ((["self", f1] : List Str).zip us)) :
    Xc P w K mg base x [f1] C := by
  have T : OexC K C := ⟨⟨nm, q, N, bs, bm, sn, sub, ab, col, dd, m0, m1, m2, m3, m5, xL, xb⟩, sa, eC, tC, kC⟩
  have F := fun_mk (st := st) l1 c1 k1
  refine ⟨T, ⟨ga, gg, eC, hC⟩, PySem.W.mg_of X G aC, fun y hy => ?_, exm_me eC iC tC sC, f, _, a1, t1, ok_init1 F S hb T n1 d1 d2 v0 v1, F.binds bi⟩
  rw [List.mem_singleton.mp hy]
  exact n1
end TU

set_option Elab.async false
set_option linter.all false
set_option maxRecDepth 100000
namespace TU
open PySem PySem.Spec PyProof.Rows L2
theorem k_sfld {X : Cx} {K : PySem.W.Frag} {o value : Expr} {f : Str} {ta tv : TE} {pos pos' : Pos} (h : X.K = K) (ha : PE X o ta) (hv : PE X value tv) (hs : swapsWith value (some (.Attribute o f pos')) pos.line X.env = pure false) :
    PS X (.Assign [.Attribute o f pos'] value pos) (sFld K ta tv f) := h ▸ ps_fld ha hv hs
theorem no_nil {K : PySem.W.Frag} {C : Addr} : ∀ f ∈ ([] : List Str), NoAttr K C f := fun _ m => nomatch m
theorem no_cons {K : PySem.W.Frag} {C : Addr} {f : Str} {fs : List Str} (h : PySem.W.findIn K (.ref C) f = some none) (t : ∀ g ∈ fs, NoAttr K C g) : ∀ g ∈ f :: fs, NoAttr K C g := fun g m => by
  rcases List.mem_cons.mp m with c | c
  · rw [c]
    exact h
  · exact t g c
/-! ### a history at an address -/
def hfs (a b c d : V) : List (Str × V) := [("houses", a), ("labels", b), ("lists", c), ("now", d)]
section
variable {a b c d x : V}
theorem hfs_h : (hfs a b c d).lookup ("houses" : Str) = some a := by kernel_rfl
theorem hfs_b : (hfs a b c d).lookup ("labels" : Str) = some b := by kernel_rfl
theorem hfs_l : (hfs a b c d).lookup ("lists" : Str) = some c := by kernel_rfl
theorem hfs_n : (hfs a b c d).lookup ("now" : Str) = some d := by kernel_rfl
theorem hfs_sh : putF "houses" x (hfs a b c d) = hfs x b c d := by kernel_rfl
theorem hfs_sb : putF "labels" x (hfs a b c d) = hfs a x c d := by kernel_rfl
theorem hfs_sl : putF "lists" x (hfs a b c d) = hfs a b x d := by kernel_rfl
theorem hfs_sn : putF "now" x (hfs a b c d) = hfs a b c x := by kernel_rfl
theorem hfs_new : putF "now" d (putF "lists" c (putF "labels" b (putF "houses" a []))) = hfs a b c d := by kernel_rfl
theorem hfs_no {m : Str} (h : ¬ m = "houses" ∧ ¬ m = "labels" ∧ ¬ m = "lists" ∧ ¬ m = "now") : (hfs a b c d).lookup m = none := by
  have f : ∀ {y : Str}, ¬ m = y → (m == y) = false := fun h => beq_eq_false_iff_ne.mpr h
  simp only [hfs, List.lookup, f h.1, f h.2.1, f h.2.2.1, f h.2.2.2]
end
theorem putF_le (f : Str) (x : V) : ∀ fs : List (Str × V), (putF f x fs).length ≤ fs.length + 1
  | [] => Nat.le_refl _
  | p :: r => by
    have ih := putF_le f x r
    unfold putF
    split
    · exact Nat.le_succ _
    · rw [List.length_cons, List.length_cons]
      omega
theorem putF_small {f : Str} {x : V} {fs : List (Str × V)} {n : Nat} (h : fs.length ≤ n) (hn : n + 1 < 1000) : (putF f x fs).length < 1000 := by
  have := putF_le f x fs
  omega
/-- lists of lists of edits: their addresses satisfy N -/
inductive EL (K : PySem.W.Frag) (N : Addr → Prop) (H : Hp) : List V → List (List Ed) → Prop
  | nil : EL K N H [] []
  | cons {b : Addr} {zs : List V} {es : List Ed} {xs : List V} {ess : List (List Ed)} : N b → H b = some (.lst zs) → Ts K H ff zs (es.map Ed.tr) → EL K N H xs ess → EL K N H (.ref b :: xs) (es :: ess)
section
variable {K : PySem.W.Frag} {H H' : Hp} {N N' W : Addr → Prop}
theorem EL.keep (k : Keeps W H H') (nt : ∀ a xs, W a → ¬ Rd H a (.tup xs)) (hN : ∀ a, N a → N' a ∧ ¬ W a) : ∀ {xs : List V} {ess : List (List Ed)}, EL K N H xs ess → EL K N' H' xs ess
  | _, _, .nil => .nil
  | _, _, .cons n e t r => .cons (hN _ n).1 (k _ _ (hN _ n).2 e) (t.keep k nt fun _ z => z.elim) (EL.keep k nt hN r)
theorem EL.mono (s : Same H H') {xs : List V} {ess : List (List Ed)} (h : EL K N H xs ess) : EL K N H' xs ess := h.keep (W := ff) (.of_same s) (fun _ _ z => z.elim) fun _ n => ⟨n, fun z => z⟩
theorem EL.imp {xs : List V} {ess : List (List Ed)} (h : EL K N H xs ess) (i : ∀ a, N a → N' a) : EL K N' H xs ess := h.keep (W := ff) (.of_same (Same.refl H)) (fun _ _ z => z.elim) fun a n => ⟨i a n, fun z => z⟩
theorem EL.len : ∀ {xs : List V} {ess : List (List Ed)}, EL K N H xs ess → xs.length = ess.length
  | _, _, .nil => rfl
  | _, _, .cons _ _ _ r => congrArg Nat.succ (EL.len r)
theorem EL.append : ∀ {xs ys : List V} {es fs : List (List Ed)}, EL K N H xs es → EL K N H ys fs → EL K N H (xs ++ ys) (es ++ fs)
  | _, _, _, _, .nil, h => h
  | _, _, _, _, .cons n e t r, h => .cons n e t (EL.append r h)
theorem EL.at : ∀ {xs : List V} {ess : List (List Ed)} {i : Nat} {es : List Ed}, EL K N H xs ess → ess[i]? = some es → ∃ b zs, xs[i]? = some (.ref b) ∧ N b ∧ H b = some (.lst zs) ∧ Ts K H ff zs (es.map Ed.tr)
  | _, _, _, _, .nil, e => by simp at e
  | _, _, 0, _, .cons n h t r, e => by
    cases (show some _ = some _ from e)
    exact ⟨_, _, rfl, n, h, t⟩
  | _, _, i + 1, _, .cons n h t r, e => by
    obtain ⟨b, zs, h1, h2⟩ := EL.at (i := i) r (by simpa using e)
    exact ⟨b, zs, by simpa using h1, h2⟩
theorem EL.take (i : Nat) : ∀ {xs : List V} {ess : List (List Ed)}, EL K N H xs ess → EL K N H (xs.take i) (ess.take i) := by
  induction i with
  | zero => exact fun _ => .nil
  | succ i ih =>
    intro xs ess h
    cases h with
    | nil => exact .nil
    | cons n e t r => exact .cons n e t (ih r)
theorem Ts.take (i : Nat) {P : Addr → Prop} : ∀ {xs : List V} {ds : List Tr}, Ts K H P xs ds → Ts K H P (xs.take i) (ds.take i) := by
  induction i with
  | zero => exact fun _ => .nil
  | succ i ih =>
    intro xs ds h
    cases h with
    | nil => exact .nil
    | cons a b => exact .cons a (ih b)
end
/-- a version: its house, its label, its edits -/
structure Ver where
  h : Hs
  lb : Str
  es : List Ed
def vH (vs : List Ver) : List Tr := vs.map fun v => .dic (hK v.h)
def vL (vs : List Ver) : List (List Ed) := vs.map Ver.es
def vB (vs : List Ver) : List V := vs.map fun v => V.str v.lb
structure HiAt (C : Addr) (K : PySem.W.Frag) (N : Addr → Prop) (H : Hp) (p : Addr) (vs : List Ver) (now : Nat) : Prop where
  ex : ∃ dx lh ll le xh xe, H p = some (.ins C dx (hfs (.ref lh) (.ref ll) (.ref le) (.int now))) ∧ N lh ∧ N ll ∧ N le ∧ H lh = some (.lst xh) ∧ Ts K H N xh (vH vs) ∧ H ll = some (.lst (vB vs)) ∧ H le = some (.lst xe) ∧ EL K N H xe (vL vs)
  lt : now < vs.length
  few : vs.length ≤ 401
section
variable {K : PySem.W.Frag} {H H' : Hp} {N N' W : Addr → Prop} {C p : Addr} {vs : List Ver} {now : Nat}
theorem HiAt.keep (h : HiAt C K N H p vs now) (k : Keeps W H H') (nt : ∀ a xs, W a → ¬ Rd H a (.tup xs)) (hN : ∀ a, N a → N' a ∧ ¬ W a) (hp : ¬ W p) : HiAt C K N' H' p vs now := by
  obtain ⟨dx, lh, ll, le, xh, xe, h1, n1, n2, n3, h2, h3, h4, h5, h6⟩ := h.ex
  exact ⟨⟨dx, lh, ll, le, xh, xe, k _ _ hp h1, (hN _ n1).1, (hN _ n2).1, (hN _ n3).1, k _ _ (hN _ n1).2 h2, h3.keep k nt hN, k _ _ (hN _ n2).2 h4, k _ _ (hN _ n3).2 h5, h6.keep k nt hN⟩, h.lt, h.few⟩
theorem HiAt.mono (h : HiAt C K N H p vs now) (s : Same H H') : HiAt C K N H' p vs now := h.keep (W := ff) (.of_same s) (fun _ _ z => z.elim) (fun _ n => ⟨n, fun z => z⟩) fun z => z
theorem HiAt.imp (h : HiAt C K N H p vs now) (i : ∀ a, N a → N' a) : HiAt C K N' H p vs now := h.keep (W := ff) (.of_same (Same.refl H)) (fun _ _ z => z.elim) (fun a n => ⟨i a n, fun z => z⟩) fun z => z
end
end TU

set_option Elab.async false
set_option linter.all false
set_option maxRecDepth 100000
namespace TU
open PySem PySem.Spec PyProof.Rows L2
theorem cutV_to {xs : List V} {n : Nat} (h : n ≤ xs.length) : cutV xs none (some (n : Int)) = xs.take n := by
  unfold cutV
  have e1 : HT.sIx xs.length 0 none = 0 := rfl
  have e2 : HT.sIx xs.length xs.length (some (n : Int)) = n := by
    unfold HT.sIx
    have hn : ¬ (n : Int) < 0 := by omega
    simp [hn]
    omega
  rw [e1, e2, List.drop_zero, Nat.sub_zero]
theorem atI_neg {xs : List V} {u : V} : atI (xs ++ [u]) (-1) = some u := by
  have e : ixN (xs ++ [u]).length (-1) = some xs.length := by
    unfold ixN
    rw [if_neg (by decide), List.length_append]
    show (if _ then _ else _) = _
    rw [if_pos (by show -((xs.length + 1 : Nat) : Int) ≤ -1; omega)]
    refine congrArg some ?_
    show (((xs.length + 1 : Nat) : Int) + -1).toNat = xs.length
    omega
  unfold atI
  rw [e]
  simp
/-- a Stale with its version; a TooMany of versions -/
def XSt (C : Addr) (v : Int) (H : Hp) (E : XK) : Prop := ∀ d H', Same H H' → H' d = some (.xd [("version", .int v)]) → E (.ref C) (some d) H'
def XTm (C : Addr) (H : Hp) (E : XK) : Prop := ∀ d H', Same H H' → H' d = some (.xd [("limit", .int 401), ("what", .str "versions")]) → E (.ref C) (some d) H'
theorem XSt.mono {C : Addr} {v : Int} {H H' : Hp} {E : XK} (s : Same H H') (x : XSt C v H E) : XSt C v H' E := fun d H1 s1 e => x d H1 (s.trans s1) e
theorem XTm.mono {C : Addr} {H H' : Hp} {E : XK} (s : Same H H') (x : XTm C H E) : XTm C H' E := fun d H1 s1 e => x d H1 (s.trans s1) e
structure VOk (v : Ver) : Prop where
  wf : Wf v.h
  fit : Fits 20 v.h
  len : v.h.length ≤ 40
  imm : ∀ e ∈ v.es, e.Imm
  few : v.es.length ≤ 30
/-- each version comes from the one before it by its edits -/
def Chn (vs : List Ver) : Prop := (∀ v ∈ vs, VOk v) ∧ ∀ (i : Nat) (u v : Ver), vs[i]? = some u → vs[i + 1]? = some v → ∃ f, appAll (cpH u.h) v.es = .ok f ∧ cpH f = v.h
instance : Inhabited Ver := ⟨⟨[], "", []⟩⟩
def vAt (vs : List Ver) (i : Nat) : Ver := (vs[i]?).getD default
/-- the edits forwards, behind version i up to i + n; backwards, from version i on n steps -/
def wayF (vs : List Ver) (i n : Nat) : List Ed := (List.range n).flatMap fun k => (vAt vs (i + 1 + k)).es
def wayB (vs : List Ver) (i n : Nat) : List Ed := (List.range n).flatMap fun k => (invs (cpH (vAt vs (i - k - 1)).h) (vAt vs (i - k)).es).reverse
def wayE (vs : List Ver) (i j : Nat) : List Ed := wayF vs i (j - i) ++ wayB vs i (i - j)
theorem flat_succ {α : Type} (f : Nat → List α) (n : Nat) : (List.range (n + 1)).flatMap f = (List.range n).flatMap f ++ f n := by
  rw [List.range_succ, List.flatMap_append]
  simp
theorem vAt_of {vs : List Ver} {i : Nat} {v : Ver} (h : vs[i]? = some v) : vAt vs i = v := by
  unfold vAt
  rw [h]
  rfl
section
variable {K : PySem.W.Frag} {σ : L2.St} {H : Hp} {D : Ends}
theorem q_rng2 {ta : TA} {R : It → Hp → Prop} (h : ta σ H fun vs H1 => ∃ i j : Int, vs = [.int i, .int j] ∧ (-(2 ^ 62) ≤ i ∧ i < 2 ^ 62 ∧ -(2 ^ 62) ≤ j ∧ j < 2 ^ 62) ∧ R (Itr i (j - i).toNat) H1) : iRng2 ta σ H R := h
theorem q_rng3 {ta : TA} {R : It → Hp → Prop} (h : ta σ H fun vs H1 => ∃ (i j c : Int) (n : Nat), vs = [.int i, .int j, .int c] ∧ RgC i j c n ∧ R (Itc i c n) H1) : iRng3 ta σ H R := h
/-- over range(i, j, c) -/
theorem for_rngC {lo c : Int} {n : Nat} {tb : TS} {j : Nat} (Pv : Nat → L2.St → Hp → Prop) (h0 : Pv 0 σ H)
    (hs : ∀ (i : Nat) σ H, i < n → Pv i σ H → tb { D with nx := Pv (i + 1), ct := Pv (i + 1), bk := D.nx } (σ.set j (some (.int (lo + i * c)))) H) (hd : ∀ σ H, Pv n σ H → D.nx σ H) : forB (Itc lo c n) (gName j) tb D σ H :=
  for_any walk_rangeC Pv h0 (fun _ _ _ _ _ => trivial) (fun i x σ H H' hi p y => by
    obtain ⟨e, y⟩ := y
    subst e
    rw [y]
    exact hs i σ _ hi p) hd
end
end TU

set_option Elab.async false
set_option linter.all false
set_option maxRecDepth 100000
namespace TU
open PySem PySem.Spec PyProof.Rows L2
section
variable {X : Cx} {pins : List (Addr × Obj)} {σ : L2.St} {H : Hp} {s : Shared} {P P' : Addr → Prop}
theorem tree_tab (I : Inv X pins σ H s) {x y : V} {v u : Value} {t t2 : Tab} (tx : T X.K H P x (.dic (tK t))) (ty : T X.K H P' y (.dic (tK t2))) (dis : ∀ z, P z → ¬ P' z) (nd : (nms t).Nodup) (im : immT t) (sm : ∀ r ∈ t, dep r.2 ≤ 60) (ho : ord t = ord t2) (rx : RelV x v) (ry : RelV y u) : PySem.W.EqTree X.prog X.w s 61 v u true := by
  obtain ⟨q, es, ex, pq, rq, kq⟩ := tx.dicAt
  subst ex
  obtain ⟨q2, es2, ey, pq2, rq2, kq2⟩ := ty.dicAt
  subst ey
  have ev : v = .ref q := rx
  have eu : u = .ref q2 := ry
  subst ev eu
  refine tree_dict (n := 60) I rq rq2 kq kq2 ?_ (fun z => dis q pq (by rw [z]; exact pq2)) fun k d x v m tx rx => ?_
  · unfold tK
    rw [List.length_map, List.length_map, ← len_ord t, ho, len_ord]
  · obtain ⟨r, hr, er⟩ := List.mem_map.mp m
    cases er
    have l3 : lk t r.1 = some r.2 := lk_of_mem nd hr
    rw [ord_lk ho] at l3
    exact ⟨r.2, by rw [get_tK, l3], fun y u ty ry => tree_leaf I tx ty (nod_of_imm (im r hr)) (sm r hr) rx ry⟩
/-- a != b, both equal houses -/
theorem ne_house {A : Around} {E : Value → Shared → Prop} {Q : Value → Shared → Prop} (I : Inv X pins σ H s) {a b : Addr} {h g : Hs} (ta : T X.K H P (.ref a) (.dic (hK h))) (tb : T X.K H P' (.ref b) (.dic (hK g))) (dis : ∀ x, P x → ¬ P' x) (wh : Wf h) (sm : Sml h) (e : cpH h = cpH g) (hu : A.units + 64 < cLine) (k : Q (.bool false) s) :
    wpAny (model X.prog X.w) A (compareOp .NotEq (.ref a) (.ref b)) Q E s := by
  obtain ⟨a', vk, ea, pa, ra, ka⟩ := ta.dicAt
  cases ea
  obtain ⟨b', vl, eb, pb, rb, kb⟩ := tb.dicAt
  cases eb
  obtain ⟨_, ya, va, rea, xa⟩ := dk_rd I.hok ra
  obtain ⟨_, yb, vb, reb, xb⟩ := dk_rd I.hok rb
  have hits : PySem.W.KeqHitsIn X.prog X.w A.in1 s vb va (va.all fun p => (valueAt vb p.1).isSome && true) := PySem.W.KeqHitsIn.of (e := fun _ => true) va fun k v y m hv => by
    obtain ⟨x, m2, rx⟩ := kv_mem rea m
    obtain ⟨d, m3, td⟩ := Tk.mem ka m2
    obtain ⟨p, hp, ep⟩ := List.mem_map.mp m3
    cases ep
    obtain ⟨t2, l2, ho⟩ := cp_lk e (lk_of_mem wh.nd hp)
    obtain ⟨y2, z1, z2⟩ := kb.gets (k := .inr p.1) (d := .dic (tK t2)) (by rw [get_hK, l2]; rfl)
    have rr := reb.val (.inr p.1)
    rw [z1] at rr
    obtain ⟨u, hu2, ru⟩ := rr.some_of
    rw [hv] at hu2
    cases hu2
    have wt := wh.tab p hp
    exact (tree_tab I td z2 dis wt.1 wt.2 (sm p hp) ho rx ru).at A.in1 (by show A.units + 1 + 61 < cLine; omega)
  have len : va.length = vb.length := by
    rw [← rea.length, ← reb.length, ka.length, kb.length]
    unfold hK
    rw [List.length_map, List.length_map, ← len_cp h, e, len_cp]
  have all : (va.all fun p => (valueAt vb p.1).isSome && true) = true := by
    rw [List.all_eq_true]
    intro p m
    obtain ⟨x, m2, rx⟩ := kv_mem rea m
    obtain ⟨d, m3, td⟩ := Tk.mem ka m2
    obtain ⟨r, hp, ep⟩ := List.mem_map.mp m3
    have e1 : p.1 = .inr r.1 := (congrArg Prod.fst ep).symm
    obtain ⟨t2, l2, ho⟩ := cp_lk e (lk_of_mem wh.nd hp)
    obtain ⟨y2, z1, z2⟩ := kb.gets (k := .inr r.1) (d := .dic (tK t2)) (by rw [get_hK, l2]; rfl)
    have rr := reb.val (.inr r.1)
    rw [z1] at rr
    obtain ⟨u, hu2, ru⟩ := rr.some_of
    rw [e1, hu2]
    rfl
  rw [all] at hits
  refine wpAny_richCompare_same_room (op := .NotEq) xa.typeIs xb.typeIs PySem.F.slot_dict_ne (wpAny_call_entry PySem.F.slot_dict_ne xa.typeIs PySem.F.entry_dict_ne ?_ (PySem.F.args_dict_ne_2 _ _)) (by omega)
  show wpAny _ _ (Builtin.Dict.dictSlotArgs "__ne__" ⟨[.ref a, .ref b], []⟩ >>= _) _ _ s
  refine wpAny_bind ?_; unfold Builtin.Dict.dictSlotArgs
  refine wpAny_bind (wpAny_notOrdered_dict xa.typeIs ?_); show wpAny _ _ (pure (Value.ref a, Value.ref b)) _ _ s
  refine wpAny_pure (wpAny_bind (wpAny_isInstance (T := "dict") xb.typeIs PySem.F.sub_dict_dict ?_))
  simp only [Bool.not_true, Bool.false_eq_true, if_false]; refine wpAny_bind (wpAny_pure (wpAny_bind (wpAny_pure ?_)))
  refine wpAny_bind (PySem.W.keq_samePairsIn ya yb xa xb (fun _ => hits) (wpAny_pure ⟨_, rfl, (fun z => nomatch z), ?_⟩))
  rw [len]
  simpa using k
end
def rNeHs (K : PySem.W.Frag) : R2 := fun x y H Q => ∃ (a b : Addr) (h g : Hs) (N1 N2 : Addr → Prop), x = .ref a ∧ y = .ref b ∧ T K H N1 (.ref a) (.dic (hK h)) ∧ T K H N2 (.ref b) (.dic (hK g)) ∧ (∀ z, N1 z → ¬ N2 z) ∧ Wf h ∧ Sml h ∧ cpH h = cpH g ∧ Q (.bl false) H
theorem op_neHs {X : Cx} (hu : X.A.units + 64 < cLine) : OpR X (compareOp .NotEq) (rNeHs X.K) := by
  intro pins s σ H x y v u Q I rx ry h
  obtain ⟨a, b, h, g, N1, N2, rfl, rfl, ta, tb, dis, wh, sm, e, k⟩ := h
  cases (show v = Value.ref a from rx)
  cases (show u = Value.ref b from ry)
  exact ne_house I ta tb dis wh sm e hu ⟨.bl _, H, I, rfl, k⟩
/-- != of anything, of houses too -/
def rNeW (K : PySem.W.Frag) : R2 := fun x y H Q => rNeU K x y H Q ∨ rNeHs K x y H Q
theorem k_neW {X : Cx} {K : PySem.W.Frag} (h : X.K = K) (hu : X.A.units + 64 < cLine) : OpR X (compareOp .NotEq) (rNeW K) := h ▸ (op_neU hu).or (op_neHs hu)
end TU

set_option Elab.async false
set_option linter.all false
set_option maxRecDepth 100000
namespace TU
open PySem PySem.Spec PyProof.Rows L2
section
variable {K : PySem.W.Frag} {H : Hp} {P : Addr → Prop}
theorem rd_live {a : Addr} {u : HO} (h : Rd H a u) : H a ≠ none := by
  rcases h with e | ⟨o, e⟩ <;> (rw [e]; exact fun z => nomatch z)
mutual
/-- where no list lies within, all that is met stands in the heap -/
theorem T.livek : ∀ {v : V} {d : Tr}, nol d = true → T K H P v d → T K H (fun z => P z ∧ H z ≠ none) v d
  | _, _, _, .non => .non
  | _, _, _, .bl b => .bl b
  | _, _, _, .int i => .int i
  | _, _, _, .str x => .str x
  | _, _, n, .lst _ _ _ => by simp [nol] at n
  | _, _, n, .tup s t => .tup s (Ts.livek (by simpa [nol] using n) t)
  | _, _, n, .dic p r t => .dic ⟨p, rd_live r⟩ r (Tk.livek (by simpa [nol] using n) t)
theorem Ts.livek : ∀ {v : List V} {d : List Tr}, nols d = true → Ts K H P v d → Ts K H (fun z => P z ∧ H z ≠ none) v d
  | _, _, _, .nil => .nil
  | _, _, n, .cons a b => by
    simp only [nols, Bool.and_eq_true] at n
    exact .cons (T.livek n.1 a) (Ts.livek n.2 b)
theorem Tk.livek : ∀ {v : List (Key × V)} {d : List (Key × Tr)}, nolk d = true → Tk K H P v d → Tk K H (fun z => P z ∧ H z ≠ none) v d
  | _, _, _, .nil => .nil
  | _, _, n, .cons a b => by
    simp only [nolk, Bool.and_eq_true] at n
    exact .cons (T.livek n.1 a) (Tk.livek n.2 b)
end
theorem nolk_all : ∀ {ks : List (Key × Tr)}, (∀ p ∈ ks, nol p.2 = true) → nolk ks = true
  | [], _ => rfl
  | p :: ks, h => by
    have h1 := h p List.mem_cons_self
    have h2 := nolk_all fun q hq => h q (List.mem_cons_of_mem _ hq)
    simp only [nolk, h1, h2, Bool.and_self]
theorem nols_all : ∀ {ks : List Tr}, (∀ p ∈ ks, nol p = true) → nols ks = true
  | [], _ => rfl
  | p :: ks, h => by
    have h1 := h p List.mem_cons_self
    have h2 := nols_all fun q hq => h q (List.mem_cons_of_mem _ hq)
    simp only [nols, h1, h2, Bool.and_self]
theorem nol_house {h : Hs} (w : Wf h) : nol (.dic (hK h)) = true := by
  simp only [nol]
  refine nolk_all fun p hp => ?_
  obtain ⟨q, hq, rfl⟩ := List.mem_map.mp hp
  simp only [nol]
  refine nolk_all fun y hy => ?_
  obtain ⟨z, hz, rfl⟩ := List.mem_map.mp hy
  exact nol_of_imm ((w.tab q hq).2 z hz)
theorem EL.live {N : Addr → Prop} : ∀ {xs : List V} {ess : List (List Ed)}, EL K N H xs ess → EL K (fun z => N z ∧ H z ≠ none) H xs ess
  | _, _, .nil => .nil
  | _, _, .cons n e t r => .cons ⟨n, by rw [e]; exact fun z => nomatch z⟩ e t (EL.live r)
theorem HiAt.live {C p : Addr} {N : Addr → Prop} {vs : List Ver} {now : Nat} (h : HiAt C K N H p vs now) (w : ∀ v ∈ vs, Wf v.h) : HiAt C K (fun z => N z ∧ H z ≠ none) H p vs now := by
  obtain ⟨dx, lh, ll, le, xh, xe, h1, n1, n2, n3, h2, h3, h4, h5, h6⟩ := h.ex
  have ln : ∀ {z : Addr} {o : HO}, H z = some o → H z ≠ none := fun e => by rw [e]; exact fun z => nomatch z
  refine ⟨⟨dx, lh, ll, le, xh, xe, h1, ⟨n1, ln h2⟩, ⟨n2, ln h4⟩, ⟨n3, ln h5⟩, h2, h3.livek (nols_all fun d hd => ?_), h4, h5, h6.live⟩, h.lt, h.few⟩
  obtain ⟨v, hv, rfl⟩ := List.mem_map.mp hd
  exact nol_house (w v hv)
end
end TU

set_option Elab.async false
set_option linter.all false
set_option maxRecDepth 100000
namespace TU
open PySem PySem.Spec PyProof.Rows L2
/-! ### sets of tuples of texts -/
abbrev hS (P : Program) (w : World) (k : List Str) : Int := tupleKeyHash (strKind P w) k
def VP (P : Program) (w : World) (h : Heap) (v : Value) (k : List Str) : Prop := ∃ b, v = .ref b ∧ IsTupleKey (strKind P w) h k b
section
variable {P : Program} {w : World} {A : Around} {E : Value → Shared → Prop} {s : Shared}
theorem items_txt {k : List Str} {vs : List Value} (h : ItemsAre (strKind P w) k vs) : ∀ v ∈ vs, ∃ x t, v = Value.str x t := by
  intro v hv
  induction h with
  | nil => exact absurd hv (by simp)
  | @cons x u ks us e _ ih =>
    cases hv with
    | head => exact ⟨x, Value.isStrOf_shape e⟩
    | tail _ m => exact ih m
theorem VP.keep {h h' : Heap} {v : Value} {k : List Str} (x : VP P w h v k) (kp : ∀ b o, h.get? b = some o → h'.get? b = some o) : VP P w h' v k := by
  obtain ⟨b, e, o, its, n, ho, r⟩ := x
  exact ⟨b, e, o, its, n, kp b o ho, r⟩
/-- a question asked of each item that all texts answer alike -/
theorem each_txt {α : Type} {f : Value → α → Sem (ForInStep α)} {its : List Value} {z : α} (h : ∀ v ∈ its, ∃ x t, v = Value.str x t) (hf : ∀ x t, f (.str x t) z = pure (.yield z)) {Q : α → Shared → Prop} (q : Q z s) :
    wpAny (model P w) A (forIn its z f) Q E s := by
  induction its with
  | nil => exact wpAny_pure q
  | cons v r ih =>
    obtain ⟨x, t, rfl⟩ := h v List.mem_cons_self
    rw [List.forIn_cons, hf]
    exact wpAny_bind (wpAny_pure (ih fun u m => h u (List.mem_cons_of_mem _ m)))
theorem cls_txt (n : Nat) (x : Str) (t : Tok) : ofAClassStatement n (.str x t) = pure false := by cases n <;> rfl
theorem val_txt (n : Nat) (x : Str) (t : Tok) : hashByValue n (.str x t) = pure false := hashByValue_scannable n (x := .str x t) rfl
theorem first_txt {α : Type} {f : Value → α → Sem (ForInStep α)} {its : List Value} {z d : α} (h : ∀ v ∈ its, ∃ x t, v = Value.str x t) (hf : ∀ x t, f (.str x t) z = pure (.done d)) {Q : α → Shared → Prop} (q : Q z s) (q2 : Q d s) :
    wpAny (model P w) A (forIn its z f) Q E s := by
  cases its with
  | nil => exact wpAny_pure q
  | cons v r =>
    obtain ⟨x, t, rfl⟩ := h v List.mem_cons_self
    rw [List.forIn_cons, hf]
    exact wpAny_bind (wpAny_pure (wpAny_pure q2))
theorem cls_pair {k : List Str} {b : Addr} {Q : Bool → Shared → Prop} (hk : IsTupleKey (strKind P w) s.heap k b) (q : Q false s) : wpAny (model P w) A (ofAClassStatement 8 (.ref b)) Q E s := by
  have ty := hk.typeIs
  obtain ⟨o, its, n, e1, _, e3, e4⟩ := hk
  have tt := items_txt e4
  unfold ofAClassStatement
  refine wpAny_bind (wpAny_typeOf ty ?_)
  have yes : (("tuple" : String) == "tuple") = true := by decide
  simp only [yes, if_true, Bool.not_true, Bool.false_eq_true, if_false]
  try refine wpAny_bind (wpAny_pure ?_)
  refine wpAny_bind (wpAny_seqItems e1 e3 ?_)
  dsimp only
  refine wpAny_bind ?_
  rw [← Array.forIn_toList]
  refine each_txt tt (fun x t => ?_) ?_
  · rw [cls_txt]
    rfl
  · exact wpAny_pure q
theorem val_pair {k : List Str} {b : Addr} {Q : Bool → Shared → Prop} (hk : IsTupleKey (strKind P w) s.heap k b) (q : ∀ y, Q y s) : wpAny (model P w) A (hashByValue 8 (.ref b)) Q E s := by
  have ty := hk.typeIs
  obtain ⟨o, its, n, e1, _, e3, e4⟩ := hk
  have tt := items_txt e4
  unfold hashByValue
  refine wpAny_bind (wpAny_specialOf ty F.slot_tuple_hash.lookup ?_)
  refine wpAny_bind (wpAny_seqItems e1 e3 ?_)
  refine wpAny_bind ?_
  rw [← Array.forIn_toList]
  refine first_txt tt (d := (some false, ())) (fun x t => ?_) ?_ ?_
  · rw [val_txt]
    rfl
  · exact wpAny_pure (q true)
  · exact wpAny_pure (q false)
theorem all_pass {α β : Type} {f : α → β → Sem (ForInStep β)} {z : β} {Q : β → Shared → Prop} (q : Q z s) : ∀ {l : List α}, (∀ v ∈ l, ∀ Q' : ForInStep β → Shared → Prop, Q' (.yield z) s → wpAny (model P w) A (f v z) Q' E s) → wpAny (model P w) A (forIn l z f) Q E s
  | [], _ => wpAny_pure q
  | v :: r, h => by
    rw [List.forIn_cons]
    exact wpAny_bind (h v List.mem_cons_self _ (all_pass q fun u m => h u (List.mem_cons_of_mem _ m)))
/-- what is asked ahead of a search among tuples of texts shows nothing -/
theorem seen_pair {k : List Str} {b : Addr} {ys : List Value} {Q : Bool → Shared → Prop} (hk : IsTupleKey (strKind P w) s.heap k b) (hy : ∀ y ∈ ys, ∃ g, VP P w s.heap y g) (q : Q false s) : wpAny (model P w) A (searchCouldBeSeen (.ref b) ys) Q E s := by
  unfold searchCouldBeSeen
  refine wpAny_bind ?_
  refine all_pass ?_ fun y hm Q' q' => ?_
  · exact wpAny_pure q
  · obtain ⟨g, c, rfl, hc⟩ := hy y hm
    by_cases e : (b == c || (carriedByValue (.ref b) && carriedByValue (.ref c))) = true
    · exact wp_if_pos e (wpAny_pure q')
    · refine wp_if_neg e (wpAny_bind (wpAny_eqIsQuiet_tuple hk ?_))
      refine wp_if_neg (by decide) (wpAny_bind (wpAny_eqIsQuiet_tuple hc ?_))
      refine wp_if_neg (by decide) (wpAny_bind (cls_pair hk ?_))
      refine wp_if_neg (by decide) (wpAny_bind (cls_pair hc ?_))
      exact wp_if_neg (by decide) (wpAny_pure q')
/-- a table that holds the tuples L -/
structure PT (P : Program) (w : World) (L : List (Value × List Str)) (es : Array (Int × Value)) (t : SetTable) : Prop where
  rows : es.toList = L.map fun z => (hS P w z.2, z.1)
  tab : TabOk t (L.map fun z => hS P w z.2)
  nd : (L.map (·.2)).Nodup
  led : w.params.followText "set-order" = true ∨ t.led = true
  room : L.length * 5 < t.mask * 3
  few : L.length < 64
def MP (P : Program) (w : World) (h : Heap) (a : Addr) (L : List (Value × List Str)) : Prop := ∃ o es ep t, h.get? a = some o ∧ o.ExactSet ∧ o.data = .set es ep t ∧ PT P w L es t
variable {L : List (Value × List Str)} {es : Array (Int × Value)} {ep : Nat} {t : SetTable} {a : Addr}
theorem PT.sz (R : PT P w L es t) : es.size = L.length := by rw [← Array.length_toList, R.rows, List.length_map]
theorem PT.pl (R : PT P w L es t) : t.place.size = L.length := by rw [R.tab.sz, List.length_map]
theorem PT.fit (R : PT P w L es t) : t.fits es.size = true := by
  have e1 := R.pl
  have e2 := R.sz
  have e3 := R.room
  unfold SetTable.fits SetTable.fill
  rw [R.tab.dm, Bool.and_eq_true, beq_iff_eq, decide_eq_true_eq]
  constructor
  · rw [e1, e2]
  · show t.place.size + 0 ≤ t.mask
    omega
theorem PT.row (R : PT P w L es t) {i : Nat} {z : Value × List Str} (e : L[i]? = some z) : es[i]? = some (hS P w z.2, z.1) := by
  have q : es.toList[i]? = some (hS P w z.2, z.1) := by rw [R.rows, List.getElem?_map, e]; rfl
  rw [← Array.getElem?_toList]
  exact q
/-- the way of a hash, step by step -/
abbrev wayP (t : SetTable) (h : Int) (c : Nat) : SetTable.Probe := nth t.mask (runAt t.mask (SetTable.bits h % (t.mask + 1)) (SetTable.bits h)) c
theorem nth_dm (m : Nat) : ∀ (c : Nat) (p : SetTable.Probe), p.dummy = none → (nth m p c).dummy = none
  | 0, _, e => e
  | c + 1, p, e => nth_dm m c (adv m p) (by unfold adv; split <;> exact e)
/-- from the c-th step on: one of equal hash, or the empty slot K -/
theorem PT.ask (R : PT P w L es t) {h : Int} {K c : Nat} (hf : K < 10 * SetTable.turns t.mask) (hK : way t.mask h K ∉ t.place.toList) (hb : ∀ j, j < K → way t.mask h j ∈ t.place.toList) (hc : c ≤ K) :
    (∃ q i z, c ≤ q ∧ q < K ∧ L[i]? = some z ∧ t.slot (way t.mask h q) = .live i ∧ hS P w z.2 = h ∧ (∀ (j i' : Nat) y, c ≤ j → j < q → L[i']? = some y → t.place.toList[i']? = some (way t.mask h j) → hS P w y.2 ≠ h) ∧
      t.probe (fun i => (es[i]?.map (·.1)).getD 0) h (wayP t h c) = some (.candidate (way t.mask h q) i (wayP t h (q + 1)))) ∨
    ((∀ (j i' : Nat) y, c ≤ j → j < K → L[i']? = some y → t.place.toList[i']? = some (way t.mask h j) → hS P w y.2 ≠ h) ∧ t.probe (fun i => (es[i]?.map (·.1)).getD 0) h (wayP t h c) = some (.empty (way t.mask h K) none)) := by
  have at_ : ∀ q, nth t.mask (wayP t h c) q = wayP t h (c + q) := fun q => (nth_add t.mask c _ q).symm
  have val : ∀ {i : Nat} {z : Value × List Str}, L[i]? = some z → (es[i]?.map (·.1)).getD 0 = hS P w z.2 := fun e => by rw [R.row e]; rfl
  have row : ∀ {i j : Nat}, t.place.toList[i]? = some j → ∃ z, L[i]? = some z := fun {i j} e => by
    have e1 := (List.getElem?_eq_some_iff.mp e).1
    rw [Array.length_toList, R.pl] at e1
    exact ⟨_, List.getElem?_eq_getElem e1⟩
  rcases go_spec t R.tab.ris R.tab.dm (fun i => (es[i]?.map (·.1)).getD 0) h (10 * SetTable.turns t.mask) (K - c) (wayP t h c) (nth_dm _ c _ rfl) (by omega)
    (fun j hj => by rw [at_]; exact hb (c + j) (by omega)) (by rw [at_, Nat.add_sub_cancel' hc]; exact hK) with ⟨q, i, g1, g2, g3, g4, g5⟩ | ⟨g1, g2⟩
  · rw [at_] at g2
    obtain ⟨z, hz⟩ := row g2
    refine .inl ⟨c + q, i, z, Nat.le_add_right _ _, by omega, hz, slot_live R.tab.ris g2, (val hz).symm.trans g3, fun j i' y hj1 hj2 hy hp e => ?_, ?_⟩
    · refine g4 (j - c) i' (by omega) ?_ ((val hy).trans e)
      rw [at_, Nat.add_sub_cancel' hj1]
      exact hp
    · rw [at_, at_] at g5
      exact g5
  · refine .inr ⟨fun j i' y hj1 hj2 hy hp e => ?_, ?_⟩
    · refine g1 (j - c) i' (by omega) ?_ ((val hy).trans e)
      rw [at_, Nat.add_sub_cancel' hj1]
      exact hp
    · rw [at_, Nat.add_sub_cancel' hc] at g2
      exact g2
/-- the search -/
theorem look (hob : ∃ o, s.heap.get? a = some o ∧ o.ExactSet ∧ o.data = .set es ep t) (R : PT P w L es t) (hL : ∀ z ∈ L, VP P w s.heap z.1 z.2) {x : Addr} {k : List Str} (hx : IsTupleKey (strKind P w) s.heap k x) (hu : A.units < cLine) {Q : SetFound → Shared → Prop} {K : Nat}
    (hf : K < 10 * SetTable.turns t.mask) (hK : way t.mask (hS P w k) K ∉ t.place.toList) (hb : ∀ j, j < K → way t.mask (hS P w k) j ∈ t.place.toList) (yes : k ∈ L.map (·.2) → Q (.there none) s) (no : k ∉ L.map (·.2) → Q (.free (way t.mask (hS P w k) K) false) s) :
    ∀ (n c : Nat) (st : Option SetTable.Probe), st.getD (t.probeStart (hS P w k)) = wayP t (hS P w k) c → c ≤ K → K - c < n →
      (∀ (i : Nat) z, L[i]? = some z → z.2 = k → ∃ j, c ≤ j ∧ j < K ∧ t.place.toList[i]? = some (way t.mask (hS P w k) j)) → wpAny (model P w) A (setSearchFrom a (.ref x) (hS P w k) true n st) Q E s := by
  obtain ⟨o, hob, hex, hda⟩ := hob
  have odd : ¬ t.gaveWay = true := by
    unfold SetTable.gaveWay
    rw [mask_odd R.tab.mok]
    decide
  intro n
  induction n with
  | zero => exact fun c st _ _ z => absurd z (Nat.not_lt_zero _)
  | succ n ih =>
    intro c st e hc hn left
    rw [setSearchFrom_succ]
    refine wpAny_bind (wpAny_setState_of hob hda R.fit ?_)
    refine wp_if_neg odd ?_
    try refine wpAny_bind (wpAny_pure ?_)
    rw [e]
    rcases R.ask (h := hS P w k) hf hK hb hc with ⟨q, i, z, q1, q2, q3, q4, q5, q6, q7⟩ | ⟨q6, q7⟩
    · rw [q7]
      dsimp only
      have mz : z ∈ L := List.mem_of_getElem? q3
      obtain ⟨zv, zk⟩ := z
      obtain ⟨b, eb, hbk⟩ := hL _ mz
      cases (show zv = .ref b from eb)
      have go : wpAny (model P w) A (searchRest a (.ref x) (hS P w k) true n es t (way t.mask (hS P w k) q) i (wayP t (hS P w k) (q + 1))) Q E s := by
        unfold searchRest
        rw [R.row q3]
        dsimp only
        refine wpAny_bind (wpAny_holding (wpAny_eqBool_tuple hu hbk hx ?_))
        refine wpAny_bind (wpAny_setState_of hob hda R.fit ?_)
        dsimp only
        by_cases ek : zk = k
        · refine wp_if_pos (by rw [decide_eq_true ek]; rfl) (wpAny_pure (yes ?_))
          exact List.mem_map.mpr ⟨_, mz, ek⟩
        · have no1 : ¬ (true && decide (zk = k)) = true := by
            rw [decide_eq_false ek]
            decide
          refine wp_if_neg no1 ?_
          try refine wpAny_bind (wpAny_pure ?_)
          rw [sameMem]
          simp only [if_true, q4, R.row q3]
          refine wpAny_bind (wpAny_isSame_ref_self (wpAny_bind (wpAny_pure ?_)))
          simp only [if_true]
          refine wp_if_neg (by rw [decide_eq_false ek]; decide) ?_
          refine ih (q + 1) _ rfl q2 (by omega) fun i0 y h0 hy => ?_
          obtain ⟨j, j1, j2, j3⟩ := left i0 y h0 hy
          refine ⟨j, ?_, j2, j3⟩
          rcases Nat.lt_trichotomy j q with l | l | l
          · exact absurd (congrArg (hS P w) hy) (q6 j i0 y j1 l h0 j3)
          · exfalso
            rw [l] at j3
            have s0 := slot_live R.tab.ris j3
            rw [q4] at s0
            cases s0
            rw [q3] at h0
            cases h0
            exact ek hy
          · exact l
      by_cases hl : t.led = true
      · refine wp_if_neg (by rw [hl]; decide) ?_
        try refine wpAny_bind (wpAny_pure ?_)
        exact go
      · refine wp_if_pos (by rw [Bool.not_eq_true _ |>.mp hl]; rfl) ?_
        refine wpAny_bind (seen_pair hx (fun y hy => ?_) ?_)
        · obtain ⟨r, hr, er⟩ := List.mem_map.mp hy
          have m2 : r ∈ es.toList := by
            have := Array.mem_toList_iff.mp hr
            exact Array.mem_toList_iff.mpr (Array.mem_filter.mp this).1
          rw [R.rows] at m2
          obtain ⟨u, hu2, eu⟩ := List.mem_map.mp m2
          refine ⟨u.2, ?_⟩
          rw [← er, ← eu]
          exact hL u hu2
        · refine wp_if_neg (by decide) ?_
          try refine wpAny_bind (wpAny_pure ?_)
          exact go
    · rw [q7]
      refine wpAny_pure (no fun m => ?_)
      obtain ⟨z, hz, ez⟩ := List.mem_map.mp m
      obtain ⟨i, hi, ei⟩ := List.getElem_of_mem hz
      have gi : L[i]? = some z := by rw [List.getElem?_eq_getElem hi, ei]
      obtain ⟨j, j1, j2, j3⟩ := left i z gi ez
      exact q6 j i z j1 j2 gi j3 (congrArg (hS P w) ez)
end
end TU

set_option Elab.async false
set_option linter.all false
set_option maxRecDepth 100000
namespace TU
open PySem PySem.Spec PyProof.Rows L2
section
variable {P : Program} {w : World} {A : Around} {E : Value → Shared → Prop} {s : Shared}
theorem all_at {α : Type} (L : List α) : (List.range L.length).filterMap (fun i => L[i]?) = L := by
  have e : (List.range L.length).map (fun i => L[i]?) = L.map some := by
    refine List.ext_getElem (by simp) fun i h1 h2 => ?_
    simp at h1
    simp [h1]
  have z : (List.range L.length).filterMap (fun i => L[i]?) = ((List.range L.length).map fun i => L[i]?).filterMap id := by rw [List.filterMap_map]; rfl
  rw [z, e, List.filterMap_map]
  exact List.filterMap_some
/-- rows taken in another order -/
theorem rows_pick {α : Type} {f : α → Int} {g : α → Value} {L : List α} {es : Array (Int × Value)} {order : Array Nat} (hr : es.toList = L.map fun z => (f z, g z)) (hp : order.toList.Perm (List.range L.length)) :
    ∃ L2 : List α, (order.filterMap (es[·]?)).toList = L2.map (fun z => (f z, g z)) ∧ L2.Perm L ∧ L2.map f = order.toList.map fun i => (es.map (·.1)).getD i 0 := by
  have one : ∀ i, es[i]? = (L[i]?).map fun z => (f z, g z) := fun i => by rw [← Array.getElem?_toList, hr, List.getElem?_map]
  refine ⟨order.toList.filterMap fun i => L[i]?, ?_, ?_, ?_⟩
  · rw [Array.toList_filterMap, List.map_filterMap]
    exact congrArg (fun q => List.filterMap q order.toList) (funext one)
  · have q := hp.filterMap fun i => L[i]?
    rw [all_at] at q
    exact q
  · have lt : ∀ i ∈ order.toList, i < L.length := fun i m => List.mem_range.mp (hp.mem_iff.mp m)
    generalize order.toList = l at lt
    induction l with
    | nil => rfl
    | cons i l ih =>
      have hi := lt i List.mem_cons_self
      have e1 : L[i]? = some L[i] := List.getElem?_eq_getElem hi
      rw [List.filterMap_cons_some e1, List.map_cons, List.map_cons, ih fun j m => lt j (List.mem_cons_of_mem _ m)]
      have e2 : (es.map (·.1))[i]? = some (f L[i]) := by rw [Array.getElem?_map, one, e1]; rfl
      rw [Array.getD_eq_getD_getElem?, e2]
      rfl
variable {L : List (Value × List Str)} {es : Array (Int × Value)} {ep : Nat} {t : SetTable} {a : Addr}
/-- laid anew, in a larger table -/
theorem pt_relay {o : Obj} (hob : s.heap.get? a = some o) (hex : o.ExactSet) (hda : o.data = .set es ep t) (hr : es.toList = L.map fun z => (hS P w z.2, z.1)) (hz : t.place.size = es.size) (hd : t.dummies = #[]) (hm : es.size ≤ t.mask) (nd : (L.map (·.2)).Nodup)
    (ld : w.params.followText "set-order" = true ∨ t.led = true) (few : L.length < 64) {n M : Nat} (hn : SetTable.sizeAbove n = M + 1) (hM : MaskOk M) (hl : L.length * 5 < M * 3) {Q : Unit → Shared → Prop}
    (fin : ∀ h' L', Heap.SameBut a s.heap h' → MP P w h' a L' → L'.Perm L → Q () { s with heap := h' }) : wpAny (model P w) A (setRelay a n) Q E s := by
  have sz : es.size = L.length := by rw [← Array.length_toList, hr, List.length_map]
  have ft : t.fits es.size = true := by
    unfold SetTable.fits SetTable.fill
    rw [hd, Bool.and_eq_true, beq_iff_eq, decide_eq_true_eq]
    exact ⟨hz, by show t.place.size + 0 ≤ t.mask; omega⟩
  have M128 : M ≤ 127 := by
    rcases hM with e | e | e <;> omega
  obtain ⟨t2, ord2, e1, e2, e3, e4, e5, _, _⟩ := relaid_ok t (hs := es.map (·.1)) (wanted := n) (M := M) (by rw [hn]; rfl) hM (by rw [Array.size_map, sz]; omega)
  rw [Array.size_map, sz] at e2
  obtain ⟨L2, r1, r2, r3⟩ := rows_pick (f := fun z : Value × List Str => hS P w z.2) (g := fun z => z.1) hr e2
  rw [← r3] at e3
  have sz2 : (ord2.filterMap (es[·]?)).size = es.size := by rw [← Array.length_toList, r1, List.length_map, r2.length_eq, sz]
  rw [setRelay_eq]
  refine wpAny_bind (wpAny_setState_of hob hda ft ?_)
  refine wp_if_neg (by rw [hn, sizeLine_eq]; omega) ?_
  try refine wpAny_bind (wpAny_pure ?_)
  rw [e1]
  dsimp only
  refine wpAny_bind ?_
  have same : ¬ ((ord2.filterMap (es[·]?)).size != es.size) = true := by
    rw [sz2]
    simp
  refine wp_if_neg same ?_
  try refine wpAny_bind (wpAny_pure ?_)
  refine wpAny_pure ?_
  refine wpAny_storeSet_of hob hda ?_ (by rw [sz2, sz, sizeLine_eq]; omega)
  exact fin _ L2 (Heap.SameBut.update s.heap a _) ⟨_, _, _, _, store_at hob hda, hex, rfl, r1, e3, (r2.map (·.2)).nodup_iff.mpr nd, by rw [e5]; exact ld, by rw [e4, r2.length_eq]; exact hl, by rw [r2.length_eq]; exact few⟩ r2
/-- one more, laid into its slot -/
theorem PT.lay (R : PT P w L es t) {v : Value} {k : List Str} (nm : k ∉ L.map (·.2)) (few : L.length + 1 < 64) {K : Nat} (hK : way t.mask (hS P w k) K ∉ t.place.toList) (hb : ∀ j, j < K → way t.mask (hS P w k) j ∈ t.place.toList) :
    ∃ L1 : List (Value × List Str), L1.Perm ((v, k) :: L) ∧ (SetTable.insertAt es (t.put (way t.mask (hS P w k) K)).2 (hS P w k, v)).toList = L1.map (fun z => (hS P w z.2, z.1)) ∧ TabOk (t.put (way t.mask (hS P w k) K)).1 (L1.map fun z => hS P w z.2) ∧ (L1.map (·.2)).Nodup ∧
      (t.put (way t.mask (hS P w k) K)).1.mask = t.mask ∧ (t.put (way t.mask (hS P w k) K)).1.led = t.led ∧ (t.put (way t.mask (hS P w k) K)).1.fill = L1.length := by
  obtain ⟨c1, _, c3, c4, c5, _, _, _, c9⟩ := R.tab.put hK hb
  generalize hp : SetTable.below t.place (way t.mask (hS P w k) K) = p at c1 c3
  refine ⟨L.take p ++ (v, k) :: L.drop p, ?_, ?_, ?_, ?_, c4, c5, ?_⟩
  · have z : (L.take p ++ (v, k) :: L.drop p).Perm ((v, k) :: (L.take p ++ L.drop p)) := List.perm_middle
    rwa [List.take_append_drop] at z
  · rw [c1, SetTable.toList_insertAt, R.rows, List.map_append, List.map_cons, List.map_take, List.map_drop]
  · rw [List.map_append, List.map_cons, List.map_take, List.map_drop]
    exact c3
  · have z : ((L.take p ++ (v, k) :: L.drop p).map (·.2)).Perm (((v, k) :: (L.take p ++ L.drop p)).map (·.2)) := List.perm_middle.map _
    rw [List.take_append_drop] at z
    exact z.nodup_iff.mpr (List.nodup_cons.mpr ⟨nm, R.nd⟩)
  · rw [c9, len_ins _ (by
      have q : p ≤ t.place.size := by rw [← hp]; exact (below_cut R.tab.ris _).1
      rwa [R.pl] at q), List.length_map]
/-- adding a tuple of texts -/
theorem mp_add {x : Addr} {k : List Str} {Q : Bool → Shared → Prop} (hM : MP P w s.heap a L) (hL : ∀ z ∈ L, VP P w s.heap z.1 z.2) (hx : IsTupleKey (strKind P w) s.heap k x) (hu : A.units < cLine) (few : L.length + 1 < 64)
    (fin : ∀ b h' L', Heap.SameBut a s.heap h' → MP P w h' a L' → (k ∈ L.map (·.2) → L' = L) → (k ∉ L.map (·.2) → L'.Perm ((.ref x, k) :: L)) → Q b { s with heap := h' }) :
    wpAny (model P w) A (setAddHashed a (.ref x) (hS P w k)) Q E s := by
  obtain ⟨o, es, ep, t, hob, hex, hda, R⟩ := id hM
  have room := R.room
  have turn : 10 * SetTable.turns t.mask < 99999 := by
    unfold SetTable.turns
    rcases R.tab.mok with e | e | e <;> omega
  obtain ⟨K, f1, f2, f3⟩ := R.tab.first (by rw [List.length_map]; omega) (hS P w k)
  have start : ∀ (i : Nat) z, L[i]? = some z → z.2 = k → ∃ j, 0 ≤ j ∧ j < K ∧ t.place.toList[i]? = some (way t.mask (hS P w k) j) := fun i z hz ez => by
    have g1 : (L.map fun z => hS P w z.2)[i]? = some (hS P w k) := by rw [List.getElem?_map, hz, ← ez]; rfl
    have g2 := (List.getElem?_eq_some_iff.mp hz).1
    have g3 : i < t.place.toList.length := by rw [Array.length_toList, R.pl]; exact g2
    obtain ⟨j, j1, j2⟩ := R.tab.before f2 g1 (List.getElem?_eq_getElem g3)
    exact ⟨j, Nat.zero_le _, j1, by rw [j2]; exact List.getElem?_eq_getElem g3⟩
  unfold setAddHashed
  refine wpAny_holding ?_
  rw [show (100000 : Nat) = 99999 + 1 from rfl, setAddHashedIn_succ]
  refine wpAny_bind (wpAny_setState_of hob hda R.fit ?_)
  refine wp_if_neg (by simp [byScan, Value.scannable]) ?_
  try refine wpAny_bind (wpAny_pure ?_)
  refine wpAny_bind ?_
  unfold setSearch
  refine look ⟨o, hob, hex, hda⟩ R hL hx hu f1 f2 f3 (fun m => ?_) (fun nm => ?_) 100000 0 none rfl (Nat.zero_le _) (by omega) start
  · exact wpAny_pure (fin false s.heap L (Heap.SameBut.refl a s.heap) hM (fun _ => rfl) fun c => absurd m c)
  · dsimp only
    obtain ⟨L1, p1, p2, p3, p4, p5, p6, p7⟩ := R.lay (v := .ref x) nm few f2 f3
    have l1 : L1.length = L.length + 1 := p1.length_eq
    refine wpAny_bind (wpAny_setState_of hob hda R.fit ?_)
    dsimp only
    generalize t.put (way t.mask (hS P w k) K) = pt at p2 p3 p5 p6 p7
    obtain ⟨t1, p⟩ := pt
    dsimp only at p2 p3 p5 p6 p7 ⊢
    have go : ∀ y : Bool, wpAny (model P w) A (do
        storeSet a (SetTable.insertAt es p (hS P w k, .ref x)) (if y = true then t1 else { t1 with plain := false })
        if (!false && (if y = true then t1 else { t1 with plain := false }).tooFull) = true then setRelay a (SetTable.grown (es.size + 1))
        return true) Q E s := by
      intro y
      obtain ⟨t2, ht2⟩ : ∃ t2, t2 = (if y = true then t1 else { t1 with plain := false }) := ⟨_, rfl⟩
      rw [← ht2]
      have q3 : TabOk t2 (L1.map fun z => hS P w z.2) := by
        cases y
        · rw [ht2]
          exact ⟨p3.ris, p3.dm, p3.sz, p3.mok, p3.bd, p3.reach⟩
        · rw [ht2]
          exact p3
      have q5 : t2.mask = t.mask := by cases y <;> (rw [ht2]; exact p5)
      have q6 : t2.led = t.led := by cases y <;> (rw [ht2]; exact p6)
      have q7 : t2.fill = L1.length := by cases y <;> (rw [ht2]; exact p7)
      clear ht2
      have sz1 : (SetTable.insertAt es p (hS P w k, .ref x)).size = L1.length := by rw [← Array.length_toList, p2, List.length_map]
      have sb := Heap.SameBut.update s.heap a (Obj.putSet (SetTable.insertAt es p (hS P w k, .ref x)) t2)
      have ob1 := store_at (es' := SetTable.insertAt es p (hS P w k, .ref x)) (t' := t2) hob hda
      have ld1 : w.params.followText "set-order" = true ∨ t2.led = true := by rw [q6]; exact R.led
      refine wpAny_bind (wpAny_storeSet_of hob hda ?_ (by rw [sz1, sizeLine_eq]; omega))
      by_cases full : t2.tooFull = true
      · have c : L1.length * 5 ≥ t2.mask * 3 := by
          have z := full
          unfold SetTable.tooFull at z
          rw [decide_eq_true_eq, q7] at z
          exact z
        rw [q5] at c
        have grown : ∃ M, SetTable.sizeAbove (SetTable.grown (es.size + 1)) = M + 1 ∧ MaskOk M ∧ L1.length * 5 < M * 3 := by
          rw [R.sz]
          rcases R.tab.mok with e | e | e
          · rw [e] at c room
            have : L.length = 4 := by omega
            rw [this]
            exact ⟨31, size_20, .inr (.inl rfl), by omega⟩
          · rw [e] at c room
            have : L.length = 18 := by omega
            rw [this]
            exact ⟨127, size_76, .inr (.inr rfl), by omega⟩
          · rw [e] at c
            omega
        obtain ⟨M, m1, m2, m3⟩ := grown
        have yes : (!false && t2.tooFull) = true := by rw [full]; rfl
        refine wp_if_pos yes (wpAny_bind ?_)
        have pz : t2.place.size = (SetTable.insertAt es p (hS P w k, .ref x)).size := by rw [q3.sz, List.length_map, sz1]
        refine pt_relay (s := { s with heap := _ }) ob1 hex rfl p2 pz q3.dm ?_ p4 ld1 (by omega) m1 m2 m3 fun h' L' sb2 hM' pm => ?_
        · rw [sz1, q5]
          rcases R.tab.mok with e | e | e <;> omega
        · exact wpAny_pure (fin true h' L' (sb.trans sb2) hM' (fun m => absurd m nm) fun _ => pm.trans p1)
      · have c : ¬ L1.length * 5 ≥ t2.mask * 3 := fun z => full (by
          unfold SetTable.tooFull
          rw [decide_eq_true_eq, q7]
          exact z)
        have no : ¬ (!false && t2.tooFull) = true := by
          rw [Bool.not_eq_true _ |>.mp full]
          decide
        refine wp_if_neg no ?_
        try refine wpAny_bind (wpAny_pure ?_)
        exact wpAny_pure (fin true _ L1 sb ⟨_, _, _, _, ob1, hex, rfl, p2, q3, p4, ld1, by omega, by omega⟩ (fun m => absurd m nm) fun _ => p1)
    by_cases pl : t1.plain = true
    · first
        | refine wpAny_bind (wp_if_pos pl (val_pair hx fun y => ?_))
        | refine wp_if_pos pl (wpAny_bind (val_pair hx fun y => ?_))
      exact go y
    · first
        | refine wpAny_bind (wp_if_neg pl (wpAny_pure ?_))
        | refine wp_if_neg pl (wpAny_bind (wpAny_pure ?_))
      exact go true
end
/-- sets of tuples of texts, laid and walked -/
theorem mp_law (P : Program) (w : World) : SetLaw P w (VP P w) (MP P w) where
  mo := fun ⟨o, es, ep, t, e, r⟩ k => ⟨o, es, ep, t, k o e, r⟩
  vk := fun h k => h.keep k
  nw := fun e => by
    refine ⟨_, #[], 0, _, e, ⟨rfl, rfl, rfl⟩, rfl, rfl, ⟨List.Pairwise.nil, rfl, rfl, .inl rfl, (fun x m => nomatch m), fun i h j e => by simp at e⟩, List.nodup_nil, ?_, (by decide : 0 * 5 < 7 * 3), (by decide : 0 < 64)⟩
    show _ ∨ (!w.params.followText "set-order") = true
    cases w.params.followText "set-order"
    · exact .inr rfl
    · exact .inl rfl
  ad := fun {A E s a L v x Q} hM hL hv few hu fin => by
    obtain ⟨b, rfl, hb⟩ := hv
    unfold setAdd
    refine wpAny_holding (wpAny_bind (wpAny_pyHash_tuple hu hb ?_))
    exact mp_add (s := { s with toks := s.toks + (x.length + 1) }) hM hL hb hu few fun b h' L' sb hM' c1 c2 => fin b h' L' _ sb (Nat.le_add_right _ _) hM' c1 c2
  ot := fun ⟨o, es, ep, t, e, x, d, R⟩ => ⟨o, es, ep, t, e, x, d, R.fit, by
    have := R.few
    have := R.sz
    unfold scanBound
    omega, R.tab.ris, R.led, by rw [R.rows, List.map_map]; rfl⟩
  nd := fun ⟨o, es, ep, t, e, x, d, R⟩ => R.nd
end TU

set_option Elab.async false
set_option linter.all false
set_option maxRecDepth 100000
namespace TU
open PySem PySem.Spec PyProof.Rows L2
/-! ### comprehensions that may let an exception out -/
/-- behind a comprehension's block, the block's own context in hand -/
def cPost (M : Model) (A : Around) (E : Value → Shared → Prop) (Q : Value → Shared → Prop) (acc : Value) (ce : Env) (r : Result) (z : Shared) : Prop := match r with
  | .ok _ => ∃ m, z.heap.Ns ce.locals m ∧ ∀ h', Heap.SameBut ce.locals z.heap h' → Q acc { z with heap := h' }
  | .error x => ∃ m, z.heap.Ns ce.locals m ∧ ∀ h', Heap.SameBut ce.locals z.heap h' → wpAny M A (PySem.passOn "comprehension.variables-let-go" x ce : Sem Value) (fun _ _ => False) E { z with heap := h' }
theorem comp_val {M : Model} {A : Around} {E : Value → Shared → Prop} {s : Shared} {env : Env} {e : Expr} {scope : Scope} {pos : Pos} {newAcc first : Sem Value} {g : Comprehension} {gs : List Comprehension} {cl : List (Str × Addr)} {Q : Value → Shared → Prop}
    (e1 : clausesOf e = g :: gs) (e2 : ∀ x, foldedSetIterable g.iter env x = pure x) (e3 : closureFor scope env = pure cl) (e4 : scope.kind = .function) (e5 : ∀ x ∈ scope.names, x.2 = .local → scope.names.lookup x.1 = some .local)
    (h : wpAny M A first (fun x z1 => wpAny M A (pyIter x) (fun it z2 => wpAny M A newAcc (fun acc z3 => wpAny M A (newFunctionEnv scope env.globals cl [] env.qual none .none (some env)) (fun ce z4 =>
      codeAny M A (.compStart e 0 it acc { ce with scope := relabel scope env }) (cPost M A E Q acc { ce with scope := relabel scope env }) z4) E z3) E z2) E z1) E s) : wpAny M A (comprehension e scope env pos newAcc false first none) Q E s := by
  unfold comprehension
  rw [e3, e1]
  have same : ∀ (x : Value) (z : Shared), E x z → E x z := fun _ _ y => y
  refine wpAny_bind (wpAny_mono h (fun x z1 h1 => wpAny_bind (wpAny_standAt (wpAny_bind (wpAny_of_eq (e2 x) (wpAny_bind (wpAny_holding (wpAny_mono h1 (fun it z2 h2 => wpAny_standIf (wpAny_bind (wpAny_mono h2 (fun acc z3 h3 =>
    wpAny_bind (wpAny_pure (wpAny_bind (wpAny_mono h3 (fun ce z4 h4 => ?_) same)))) same))) same))))))) same)
  dsimp only
  have loc : ∀ x ∈ (scope.names.filter fun x => (x.2 == .local || x.2 == .cell) && x.1 != (".0" : Str)).reverse, x.2 = .local → Env.kindOf { ce with scope := relabel scope env } x.1 = some .local := fun x m l =>
    lookup_relabel_local (e5 x (List.mem_filter.mp (List.mem_reverse.mp m)).1 l)
  refine wpAny_holding (wpAny_bind (wpAny_attempt (wpAny_holding (wpAny_run (codeAny_mono h4 fun r z hr => ?_)))))
  cases r with
  | ok f =>
    obtain ⟨m, n, q⟩ := hr
    exact wpAny_bind (wpAny_holding (wpAny_comp_letGo (cenv := { ce with scope := relabel scope env }) e4 _ z m loc n fun h' m' _ sb => wpAny_pure (q h' sb)))
  | error x =>
    obtain ⟨m, n, q⟩ := hr
    exact wpAny_bind (wpAny_holding (wpAny_comp_letGo (cenv := { ce with scope := relabel scope env }) e4 _ z m loc n fun h' m' _ sb => wpAny_mono (q h' sb) (fun _ _ f => f.elim) same))
/-! ### what a call lets out of a block -/
section
variable {X : Cx}
def BZ (X Y : Cx) (Ew : XK) (u : Value) (z : Shared) : Prop := ∃ pins σ H s, Inv Y pins σ H s ∧ L2.CX X.prog X.w X.stack H s Ew u z
abbrev blkE (X : Cx) (s : Shared) (H : Hp) (scope : Scope) (ce : Env) (fp : List Addr) (Ew : XK) : Cx := (X.blk s H scope ce fp).wish (BZ X (X.blk s H scope ce fp) Ew)
theorem passBlk {s : Shared} {H : Hp} {scope : Scope} {ce : Env} {fp : List Addr} {Ew : XK} (σ : L2.St) : PassesAt (L2.CX X.prog X.w) (blkE X s H scope ce fp Ew) σ Ew := fun pins H' s' e z I c => ⟨pins, σ, H', s', I.unwish, c⟩
/-- what a call let out flies -/
theorem cx_flies {Y : Cx} {pins : List (Addr × Obj)} {σ : L2.St} {H : Hp} {s z : Shared} {Ew : XK} {u : Value} (I : Inv Y pins σ H s) (c : L2.CX Y.prog Y.w Y.stack H s Ew u z) :
    ∃ (a : Addr) (B : Heap) (sI : Shared) (pins : List (Addr × Obj)) (σ : L2.St) (H : Hp) (cls : Value) (d : Option Addr), u = .ref a ∧ Inv Y pins σ H sI ∧ (∀ b o, sI.heap.get? b = some o → b ∉ frs Y.stack → B.get? b = some o) ∧ sI.heap.UpToSlots z.heap ∧
      HandSPX.FlyingZ B Y.stack a (Zc cls d) z.heap ∧ H a = none ∧ z.os = sI.os ∧ AllBare z.gens ∧ Ew cls d H := by
  obtain ⟨a, B, sI, pins', σ', H', cls, d, rfl, I', nb, up, sky, na, os, ag, w⟩ := XE.of_call (W := fun cls d _ H => Ew cls d H) I (fun _ _ _ h => h) c
  obtain ⟨a2, B2, H2, cls2, d2, e2, fl, _⟩ := c
  cases e2
  obtain ⟨oe, vs, T, oT, ts, y1, _, y3, y4, _, _, y7, y8, y9⟩ := fl.2.2.2
  refine ⟨a, B, sI, pins', σ', H', cls, d, rfl, I', nb, up, ?_, na, os, ag, w⟩
  rcases sky with ⟨_, _, _, oe', vs', x1, _, x3, x4⟩ | k | ⟨_, _, _, oe', vs', T', oT', ts', x1, _, x3, x4, _, _, x7, x8, x9⟩
  · rw [y1] at x1
    cases x1
    rw [y3] at x3
    cases x3
    rw [y4] at x4
    cases x4
  · exact k
  · rw [y1] at x1
    cases x1
    rw [y3] at x3
    cases x3
    rw [y4] at x4
    cases x4
    rw [y7] at x7
    cases x7
    rw [y8] at x8
    cases x8
    rw [y9] at x9
    cases x9
/-- the exception leaves the block: noted, its variables let go, passed on -/
theorem err_out {W : WX} {Y : Cx} {ce : Env} {pins : List (Addr × Obj)} {σ : L2.St} {Ew : XK} {acc : Value} {Qf : Value → Shared → Prop} (hs : X.stack = X.env :: X.outer) (hf : X.env.frame = some X.env.locals) (hfr : X.A.frames = some X.stack) (tk : Takes X W) (hE : ∀ cls d H, Ew cls d H → W cls d σ H)
    (y1 : Y.prog = X.prog) (y2 : Y.w = X.w) (y3 : Y.stack = X.stack) (y4 : Y.env = ce) (hce : ce.frame = X.env.frame) (back : ∀ {pins' σ' H' sI}, Inv Y pins' σ' H' sI → Inv X pins σ H' sI ∧ FpOk X pins H' ce.locals) {u : Value} {z : Shared} (b : BZ X Y Ew u z) :
    notedBy (model X.prog X.w) X.A ce (fun x z' => cPost (model X.prog X.w) X.A X.xe Qf acc ce (.error x) z') u z := by
  obtain ⟨pins0, σ0, H0, s0, I0, c⟩ := b
  rw [← y1, ← y2, ← y3] at c
  obtain ⟨a, B, sI, pins1, σ1, H1, cls, d, rfl, I1, nb, up, fl, na, os, ag, w⟩ := cx_flies I0 c
  rw [y3] at nb fl
  obtain ⟨I2, fp⟩ := back I1
  obtain ⟨f0, f1, f2, f3, f4, f5⟩ := id fp
  have notF : ce.locals ∉ frs X.stack := fun m => (List.mem_cons.mp (I2.stkSub _ m)).elim f1 f2
  obtain ⟨mC, hnC, _⟩ := I1.loc
  rw [y4] at hnC
  obtain ⟨oC, hoC, dC⟩ : ∃ oC, sI.heap.get? ce.locals = some oC ∧ ∀ {h : Heap}, h.get? ce.locals = some oC → h.Ns ce.locals mC := by
    obtain ⟨o, es, ep, g, r⟩ := hnC
    exact ⟨o, g, fun e => ⟨o, es, ep, e, r⟩⟩
  have bC : B.get? ce.locals = some oC := nb _ _ hoC notF
  have hfr2 : X.A.frames = some (X.env :: X.outer) := by rw [hfr, hs]
  rw [hs] at fl
  show wpAny _ _ (noteFrame (.ref a) ce) _ _ _
  have en : (noteFrame (.ref a) ce : Sem Unit) = noteFrame (.ref a) X.env := by
    unfold noteFrame PySem.frameOf
    rw [hce]
  rw [en]
  refine HandSPX.looks_onZ Zc.steady hfr2 hf fl fun h1 held up1 => ?_
  have sC : h1.get? ce.locals = some oC := held.1 _ _ bC
  refine ⟨mC, dC sC, fun h2 sb => ?_⟩
  have neC : ∀ {b : Addr}, B.get? b = none → b ≠ ce.locals := fun e q => by
    rw [q, bC] at e
    cases e
  have hide : ∀ {g : Heap} {b : Addr} {o : Obj}, (PySem.W.hideAll g [ce.locals]).get? b = some o → b ≠ ce.locals ∧ g.get? b = some o := by
    intro g b o e
    refine ⟨fun q => ?_, PySem.W.of_hideAll _ e⟩
    rw [q, PySem.W.hideAll_none _ (List.mem_singleton.mpr rfl)] at e
    cases e
  have held2 : HandSPX.HeldZ (PySem.W.hideAll B [ce.locals]) (X.env :: X.outer) a (Zc cls d) X.env.locals h2 := by
    obtain ⟨g1, g2, g3, oe, vs, T, oT, ts, t1, t2, t3, t4, t5, t6, t7, t8, t9⟩ := held
    have noB : ∀ {b : Addr}, B.get? b = none → (PySem.W.hideAll B [ce.locals]).get? b = none := fun {b} e => by
      cases q : (PySem.W.hideAll B [ce.locals]).get? b with
      | none => rfl
      | some o =>
        have := (hide q).2
        rw [e] at this
        cases this
    refine ⟨fun b o e => ?_, noB g2, ?_, oe, vs, T, oT, ts, ?_, t2, t3, t4, noB t5, t6, ?_, t8, t9⟩
    · rw [sb.2 _ (hide e).1]
      exact g1 _ _ (hide e).2
    · have fr : ∀ {l : List Env}, (∀ L ∈ frs l, L ≠ ce.locals) → h1.FunFrames B l → h2.FunFrames (PySem.W.hideAll B [ce.locals]) l := by
        intro l
        induction l with
        | nil => exact fun _ _ => trivial
        | cons e l ih =>
          rintro n ⟨k1, ⟨L, o, k2, k3, k4, k5⟩, k6⟩
          have mL : L ∈ frs (e :: l) := List.mem_filterMap.mpr ⟨e, List.mem_cons_self, k2⟩
          refine ⟨k1, ⟨L, o, k2, noB k3, (sb.2 _ (n L mL)).trans k4, k5⟩, ih (fun q m => n q ?_) k6⟩
          obtain ⟨e', m1, m2⟩ := List.mem_filterMap.mp m
          exact List.mem_filterMap.mpr ⟨e', List.mem_cons_of_mem _ m1, m2⟩
      exact fr (fun L m e => notF (by rw [hs, ← e]; exact m)) g3
    · rw [sb.2 _ (neC g2)]
      exact t1
    · rw [sb.2 _ (neC t5)]
      exact t7
  unfold PySem.passOn
  obtain ⟨oe, vs, T, oT, ts, t1, _, t3, t4, _⟩ := held2.2.2.2
  refine wpAny_bind (wpAny_field t1 t3 t4 ?_)
  rw [if_neg (by simp)]
  try refine wpAny_bind (wpAny_pure ?_)
  rw [hce, hf]
  refine wpAny_bind (HandSPX.setFlight_onZ held2 fun h3 held3 up3 => ?_)
  refine wpAny_throw (tk _ _ ?_)
  have IX := I2.turned (h' := PySem.W.hideAll sI.heap [ce.locals]) (t' := sI.toks) (fun b o n e => PySem.W.hideAll_get _ e fun m => n (List.mem_singleton.mp m)) f0 f1 f3 f4 f5
  refine ⟨a, PySem.W.hideAll B [ce.locals], _, pins, σ, H1, cls, d, rfl, IX, fun b o e n => ?_, fun b o e n => ?_, ?_, na, os, ag, hE _ _ _ w⟩
  · have q := hide e
    exact PySem.W.hideAll_get _ (nb _ _ q.2 n) fun m => q.1 (List.mem_singleton.mp m)
  · have q := hide e
    obtain ⟨sl, e1⟩ := up b o q.2 n
    obtain ⟨sl2, e2⟩ := up1 b _ e1 n
    have e3 : h2.get? b = some { o with slots := sl2 } := (sb.2 _ q.1).trans e2
    exact up3 b { o with slots := sl2 } e3 n
  · rw [hs]
    exact .inr (.inr held3)
end
end TU

set_option Elab.async false
set_option linter.all false
set_option maxRecDepth 100000
namespace TU
open PySem PySem.Spec PyProof.Rows L2
/-! ### comprehensions whatever they fill -/
/-- the turns of a block: node with its element, target and tests; bn: what takes an element -/
def LoopR (M : Model) (node elt tg : Expr) (ifs : List Expr) (bn : String) : Prop := ∀ (A : Around) (R : Result → Shared → Prop) (z0 : Shared) (it acc : Value) (env : Env) (I : Nat → Shared → Prop), (∀ n z, I n z → wpAny M A (pyNext it) (fun r z1 => match r with | none => R (.ok .next) z1 | some v => wpAny M A (letOwnedTupleGo tg it v) (fun _ z2 => wpAny M A (assign tg env v) (fun _ z3 => wpAny M A (forIn ifs true fun c r => if r = true then do let ok ← isTrue c env (eval c env); pure (ForInStep.yield ok) else pure (ForInStep.yield r)) (fun ok z4 => if ok = true then wpAny M A (eval elt env) (fun x z5 => wpAny M A (call (.builtin bn) [acc, x]) (fun _ z6 => ∃ m, m < n ∧ I m z6) (notedBy M A env fun e s' => R (.error e) s') z5) (notedBy M A env fun e s' => R (.error e) s') z4 else ∃ m, m < n ∧ I m z4) (notedBy M A env fun e s' => R (.error e) s') z3) (notedBy M A env fun e s' => R (.error e) s') z2) (notedBy M A env fun e s' => R (.error e) s') z1) (notedBy M A env fun e s' => R (.error e) s') z) → ∀ n, I n z0 → codeAny M A (.compLoop node 0 it acc env) R z0
def StartR (M : Model) (node : Expr) : Prop := ∀ (A : Around) (R : Result → Shared → Prop) (z : Shared) (it acc : Value) (env : Env), codeAny M A (.compLoop node 0 it acc env) R z →
  wpAny M A (pyIter it) (fun it' z' => codeAny M A (.compLoop node 0 it' acc env) R z') (notedBy M A env fun x z' => R (.error x) z') z → codeAny M A (.compStart node 0 it acc env) R z
section
variable {P : Program} {w : World} {elt tg iter : Expr} {ifs : List Expr} {scope : Scope} {pos : Pos}
theorem loop_lst : LoopR (model P w) (.ListComp elt [⟨tg, iter, ifs, 0⟩] scope pos) elt tg ifs "list.append" := fun A R z it acc env I turn n h => compLoop_any I turn n h
theorem loop_set : LoopR (model P w) (.SetComp elt [⟨tg, iter, ifs, 0⟩] scope pos) elt tg ifs "set.add" := fun A R z it acc env I turn n h => PpSet.compLoopS_any I turn n h
theorem start_lst : StartR (model P w) (.ListComp elt [⟨tg, iter, ifs, 0⟩] scope pos) := fun A R z it acc env h0 h => codeAny_compStart_list h0 h
theorem start_set : StartR (model P w) (.SetComp elt [⟨tg, iter, ifs, 0⟩] scope pos) := fun A R z it acc env h0 h => PpSet.codeAny_compStart_set h0 h
end
/-- what takes an element, at the tracked heap -/
def PutR (bn : String) (Pt : Addr → V → Hp → (Hp → Prop) → Prop) (P : Program) (w : World) : Prop := ∀ (Y : Cx) (pins : List (Addr × Obj)) (σ : L2.St) (H : Hp) (s : Shared) (D : Addr) (y : V) (z : Value) (Nx : Hp → Prop) (Q : Value → Shared → Prop) (E : Value → Shared → Prop),
  Y.prog = P → Y.w = w → Y.A.units + 64 < cLine → Inv Y pins σ H s → RelV y z → Pt D y H Nx → (∀ s' H', Inv Y pins σ H' s' → Nx H' → Q .none s') → wpAny (model Y.prog Y.w) Y.A (call (.builtin bn) [.ref D, z]) Q E s
/-- a block's meaning: O0 the new object, Pt what an element's taking wants -/
def tBlk (O0 : Addr → HO) (Pt : Addr → V → Hp → (Hp → Prop) → Prop) (wi : TI) (g : TG) (tt : L2.St → TT) (te : L2.St → TE) (vs : List Nat) : TE := fun σ H Q => wi σ H fun J H1 => ∀ D, H1 D = none → ∃ W : Nat → Nat → Hp → Prop, (∃ m, W 0 m (upd H1 D (O0 D))) ∧ ∀ i m H, W i m H → (J.stop i H ∧ Q (.ref D) H) ∨ (J.go i H ∧
  ∃ Nx : Hp → Prop, (∀ H', Nx H' → ∃ m', m' < m ∧ W (i + 1) m' H') ∧ ∀ x H', J.yld i H x H' → g x (wipe σ vs) H' fun σ2 H2 => wipe σ2 vs = wipe σ vs ∧ tt σ σ2 H2 fun b H3 => if b = true then te σ σ2 H3 fun y H4 => Pt D y H4 Nx else Nx H3)
section
variable {X : Cx}
theorem blk_core {pins : List (Addr × Obj)} {s : Shared} {σ : L2.St} {H : Hp} {Q : VK} {node elt tg iter : Expr} {ifs : List Expr} {scope : Scope} {own : List (PySem.Str × Nat)} {pos : Pos} {wi : TI} {g : TG} {tt : L2.St → TT} {te : L2.St → TE} {Qf : Value → Shared → Prop} {W : WX}
    {O0 : Addr → HO} {o0 : Obj} {Pt : Addr → V → Hp → (Hp → Prop) → Prop} {bn : String} {nw : Sem Value} (hst : X.stack = X.env :: X.outer) (hfm : X.env.frame = some X.env.locals) (tk : Takes X W) (hu : X.A.units + 64 < cLine)
    (c1 : clausesOf node = [⟨tg, iter, ifs, 0⟩]) (c2 : LoopR (model X.prog X.w) node elt tg ifs bn) (c3 : StartR (model X.prog X.w) node) (c4 : PutR bn Pt X.prog X.w) (n1 : ∀ {A : Around} {E : Value → Shared → Prop} {z : Shared} {Q : Value → Shared → Prop}, Q (.ref z.heap.objs.size) { z with heap := z.heap.push o0 } → wpAny (model X.prog X.w) A nw Q E z)
    (n2 : ∀ {h : Heap} {H : Hp}, ObjOk X.prog X.w H (h.push o0) h.objs.size (O0 h.objs.size)) (hc : X.calm = true) (hN : X.N.Nodup) (I : Inv X pins σ H s) (hi : PI X tg iter wi) (ok : BlkOk X.N X.env.scope scope own)
    (hg : ∀ (s : Shared) (H : Hp) (C : Addr) (cl : List (PySem.Str × Addr)) (fp : List Addr) (σ : L2.St), PG (blkE X s H scope (compEnvC scope cl C X.env) fp (WE W σ)) tg g) (ht : ∀ (s : Shared) (H : Hp) (C : Addr) (cl : List (PySem.Str × Addr)) (fp : List Addr) (σ : L2.St), PTs (blkE X s H scope (compEnvC scope cl C X.env) fp (WE W σ)) ifs (tt σ))
    (he : ∀ (s : Shared) (H : Hp) (C : Addr) (cl : List (PySem.Str × Addr)) (fp : List Addr) (σ : L2.St), PE (blkE X s H scope (compEnvC scope cl C X.env) fp (WE W σ)) elt (te σ)) (hsx : ∀ x, foldedSetIterable iter X.env x = pure x) (h : tBlk O0 Pt wi g tt te (own.map (·.2)) σ H Q)
    (fin : ∀ D C z m H', Inv X pins σ H' z → Q (.ref D) H' → z.heap.Ns C m → FpOk X pins H' C → ∀ h', Heap.SameBut C z.heap h' → Qf (.ref D) { z with heap := h' }) : wpAny (model X.prog X.w) X.A (comprehension node scope X.env pos nw false (eval iter X.env) none) Qf X.xe s := by
  have free : ∀ y ∈ scope.names, y.2 = .free → ∃ c, X.env.cells.lookup y.1 = some c := fun y m e => (ok.free y m e).elim (fun k => I.ok.has _ (.inl k)) fun k => I.ok.has _ (.inr k)
  refine comp_val c1 hsx (closure_ok free) ok.kind (fun y m e => by rw [ok.uniq y m, e]) (thn (hi.run pins s σ H _ I h) fun xv z1 hx => thn hx fun itv z2 h2 => ?_)
  obtain ⟨it, fp, tn, J, H2, rfl, I2, T, t2, k2, q⟩ := h2
  refine n1 (newEnv_comp ?_)
  obtain ⟨D, hD⟩ : ∃ D, D = z2.heap.objs.size := ⟨_, rfl⟩
  have hn : H2 D = none := I2.hok.fresh (Nat.le_of_eq hD.symm)
  obtain ⟨Wi, ⟨m0, w0⟩, turn⟩ := q D hn
  have old2 : ∀ b o, z2.heap.get? b = some o → (z2.heap.push o0).get? b = some o := fun b o e => get_push _ e
  have I3 : Inv X pins σ (upd H2 D (O0 D)) { z2 with heap := z2.heap.push o0 } := by
    rw [hD]
    exact I2.laid (t' := z2.toks) old2 (Nat.le_refl _) n2
  obtain ⟨z3, hz3⟩ : ∃ z3 : Shared, z3 = { z2 with heap := z2.heap.push o0 } := ⟨_, rfl⟩
  rw [← hz3] at I3
  have e3 : z3.heap = z2.heap.push o0 := by rw [hz3]
  have k3 : ∀ b ∈ fp, FpOk X pins (upd H2 D (O0 D)) b ∧ b < z3.heap.objs.size := fun b m => by
    obtain ⟨o, eo, _⟩ := T.obj _ _ t2 b m
    have lt := Heap.lt_size eo
    refine ⟨⟨?_, (k2 b m).2⟩, by rw [e3, Heap.size_push]; exact Nat.lt_succ_of_lt lt⟩
    rw [upd_ne (by rw [hD]; exact Nat.ne_of_lt lt)]
    exact (k2 b m).1
  have t3 : tn 0 z3.heap := T.keep _ _ _ t2 fun b _ o e => by rw [e3]; exact old2 b o e
  have I4 := block_start I3 ok hN k3
  obtain ⟨ce, hce⟩ : ∃ ce, ce = compEnvC scope (cellsFrom (z3.heap.objs.size + 1) scope.names (cloFrom X.env.cells scope.names [])) z3.heap.objs.size X.env := ⟨_, rfl⟩
  have pg := hg z3 (upd H2 D (O0 D)) z3.heap.objs.size (cellsFrom (z3.heap.objs.size + 1) scope.names (cloFrom X.env.cells scope.names [])) fp σ
  have pt := ht z3 (upd H2 D (O0 D)) z3.heap.objs.size (cellsFrom (z3.heap.objs.size + 1) scope.names (cloFrom X.env.cells scope.names [])) fp σ
  have pe := he z3 (upd H2 D (O0 D)) z3.heap.objs.size (cellsFrom (z3.heap.objs.size + 1) scope.names (cloFrom X.env.cells scope.names [])) fp σ
  show codeAny _ _ (.compStart node 0 (.ref it) (.ref z2.heap.objs.size) _) _ { ({ z2 with heap := z2.heap.push o0 } : Shared) with heap := pushCells ((z2.heap.push o0).push { cls := .type "dict", data := .dict #[] }) scope.names }
  rw [← hD]
  have ez : ({ ({ z2 with heap := z2.heap.push o0 } : Shared) with heap := pushCells ((z2.heap.push o0).push { cls := .type "dict", data := .dict #[] }) scope.names } : Shared) = { z3 with heap := pushCells (z3.heap.push { cls := .type "dict", data := .dict #[] }) scope.names } := by rw [hz3]
  have ecc : (compEnvC scope (cellsFrom ((z2.heap.push o0).objs.size + 1) scope.names (cloFrom X.env.cells scope.names [])) (z2.heap.push o0).objs.size X.env) = ce := by rw [hce, e3]
  rw [ez]
  show codeAny _ _ (.compStart node 0 (.ref it) (.ref D) (compEnvC scope (cellsFrom ((z2.heap.push o0).objs.size + 1) scope.names (cloFrom X.env.cells scope.names [])) (z2.heap.push o0).objs.size X.env)) (cPost (model X.prog X.w) X.A X.xe Qf (.ref D) (compEnvC scope (cellsFrom ((z2.heap.push o0).objs.size + 1) scope.names (cloFrom X.env.cells scope.names [])) (z2.heap.push o0).objs.size X.env)) _
  rw [ecc]
  rw [← hce] at I4 pg pt pe
  have eL : ce.locals = z3.heap.objs.size := by rw [hce]; rfl
  have eF : ce.frame = X.env.frame := by rw [hce]; rfl
  have no3 : ∀ b ∈ fp, (upd H2 D (O0 D)) b = none := fun b m => (k3 b m).1.1
  generalize upd H2 D (O0 D) = H3 at I3 I4 pg pt pe w0 no3 k3
  obtain ⟨z4, hz4⟩ : ∃ z4 : Shared, z4 = { z3 with heap := pushCells (z3.heap.push { cls := .type "dict", data := .dict #[] }) scope.names } := ⟨_, rfl⟩
  rw [← hz4] at I4 ⊢
  have t4 : tn 0 z4.heap := T.keep _ _ _ t3 fun b _ o e => by rw [hz4]; exact pushCells_keeps _ _ _ _ (get_push _ e)
  have hfr : X.A.frames = some X.stack := I3.ok.frames
  -- what stands of the def's own context
  have home : ∀ {pins' σ' H' z}, Inv (X.blk z3 H3 scope ce fp) pins' σ' H' z → Inv X pins σ H' z ∧ FpOk X pins H' ce.locals := fun {pins' σ' H' z} J => by
    have a := I3.call' (ch := fp) J.os J.base J.hok J.bare fun b m => ⟨(k3 b m).1.2.2.2.1, (k3 b m).1.2.1, (k3 b m).1.2.2.2.2.1, (k3 b m).1.2.2.2.2.2⟩
    exact ⟨a, by rw [eL]; exact I3.fpOk (Nat.le_refl _) (by rw [← eL]; exact J.free)⟩
  have bad : ∀ {u z}, BZ X (X.blk z3 H3 scope ce fp) (WE W σ) u z → notedBy (model X.prog X.w) X.A ce (fun x z' => cPost (model X.prog X.w) X.A X.xe Qf (.ref D) ce (.error x) z') u z := fun {u z} b => err_out (Y := X.blk z3 H3 scope ce fp) (ce := ce) hst hfm hfr tk (fun _ _ _ w => w) rfl rfl rfl rfl eF (fun J => home J) b
  have stat : ∀ {σ' : L2.St} {H' : Hp} {z : Shared}, Inv (X.blk z3 H3 scope ce fp) [] σ' H' z → (∀ b ∈ fp, H' b = none) → ∀ b ∈ fp, FpOk (blkE X z3 H3 scope ce fp (WE W σ)) [] H' b := fun {σ' H' z} J n b m => ⟨n b m, (J.ok.exf b m).1, J.ok.exfs b m, .inl m, fun x c e => (J.ok.exf b m).2 x c e, fun p hp => absurd (show p ∈ ([] : List (Addr × Obj)) ++ [] from hp) (by simp)⟩
  have loop : codeAny (model X.prog X.w) X.A (.compLoop node 0 (.ref it) (.ref D) ce) (cPost (model X.prog X.w) X.A X.xe Qf (.ref D) ce) z4 := by
    refine c2 X.A _ z4 _ _ ce (fun n z => ∃ i H', Inv (X.blk z3 H3 scope ce fp) [] (wipe σ (own.map (·.2))) H' z ∧ tn i z.heap ∧ (∀ b ∈ fp, H' b = none) ∧ Wi i n H') ?_ m0 ⟨0, H3, I4, t4, no3, w0⟩
    rintro n z5 ⟨i, H5, I5, t5, n5, w5⟩
    have J5 : Inv (blkE X z3 H3 scope ce fp (WE W σ)) [] (wipe σ (own.map (·.2))) H5 z5 := I5.wish _
    rcases turn i n H5 w5 with ⟨stop, qq⟩ | ⟨go, Nx, hNx, step⟩
    · refine thnF (T.done (blkE X z3 H3 scope ce fp (WE W σ)) rfl rfl rfl hc i [] z5 _ H5 (fun _ _ => False) J5 (stat I5 n5) t5 stop) fun r z6 ⟨hr, J6⟩ => ?_
      rw [hr]
      have I6 := J6.unwish
      obtain ⟨a, f⟩ := home I6
      obtain ⟨m, hm, _⟩ := I6.loc
      exact ⟨m, hm, fun h' sb => fin D ce.locals z6 m H5 a qq hm f h' sb⟩
    · refine thnF (T.item (blkE X z3 H3 scope ce fp (WE W σ)) rfl rfl rfl hc i [] z5 _ H5 (fun _ _ => False) J5 (stat I5 n5) t5 go) fun r z6 ⟨u, hr, h6⟩ => ?_
      rw [hr]
      refine thnF h6 fun _ z7 ⟨x, H7, I7, r7, y7, t7, n7⟩ => ?_
      have P7 := I7.pinned (stat I7.unwish n7) (T.obj _ _ t7)
      refine wpAny_mono (pg.run _ z7 _ H7 x u _ P7 r7 (step x H7 y7)) (fun _ z8 ⟨σ8, H8, I8, w8, q8⟩ => ?_) fun _ _ b => bad b
      refine wpAny_mono (pt.run _ z8 σ8 H8 _ I8 q8) (fun b z9 ⟨H9, I9, q9⟩ => ?_) fun _ _ b => bad b
      have next : ∀ {z : Shared} {H' : Hp}, Inv (blkE X z3 H3 scope ce fp (WE W σ)) ([] ++ pinsAt fp z7.heap) σ8 H' z → Nx H' → ∃ m, m < n ∧ ∃ i H', Inv (X.blk z3 H3 scope ce fp) [] (wipe σ (own.map (·.2))) H' z ∧ tn i z.heap ∧ (∀ b ∈ fp, H' b = none) ∧ Wi i m H' := fun {z H'} J nx => by
        obtain ⟨m', lt, wm⟩ := hNx H' nx
        have pin : ∀ b ∈ fp, ∀ o, z7.heap.get? b = some o → z.heap.get? b = some o ∧ H' b = none := fun b m o e => ⟨(J.pin (b, o) (List.mem_append_right _ (List.mem_append_right _ (mem_pinsAt m e)))).1, (J.pin (b, o) (List.mem_append_right _ (List.mem_append_right _ (mem_pinsAt m e)))).2.1⟩
        refine ⟨m', lt, i + 1, H', ((J.unwish).unpinned (pins := [])).weak (by rw [← w8, wipe_length]) (fun j v e => (wipe_some (by rw [w8]; exact e)).1), T.keep _ _ _ t7 fun b m o e => (pin b m o e).1, fun b m => ?_, wm⟩
        obtain ⟨o, e, _⟩ := T.obj _ _ t7 b m
        exact (pin b m o e).2
      cases b with
      | false => exact next I9 q9
      | true =>
        refine wpAny_mono (pe.run _ z9 σ8 H9 _ I9 q9) (fun v z10 ⟨y, H10, I10, r10, p10⟩ => ?_) fun _ _ b => bad b
        exact c4 (blkE X z3 H3 scope ce fp (WE W σ)) _ σ8 H10 z10 D y v Nx _ _ rfl rfl hu I10 r10 p10 fun z' H' J nx => next J nx
  exact c3 X.A _ z4 _ _ ce loop (T.self X.A 0 _ _ _ t4 loop)
end
end TU

set_option Elab.async false
set_option linter.all false
set_option maxRecDepth 100000
namespace TU
open PySem PySem.Spec PyProof.Rows L2
/-! ### lists and sets of pairs made by a comprehension -/
def PtL : Addr → V → Hp → (Hp → Prop) → Prop := fun D y H4 Nx => ∃ acc, H4 D = some (.lst acc) ∧ acc.length < sizeLine ∧ Nx (upd H4 D (.lst (acc ++ [y])))
theorem put_lst {P : Program} {w : World} : PutR "list.append" PtL P w := fun Y pins σ H s D y z Nx Q E _ _ _ I r p fin => by
  obtain ⟨acc, e1, e2, e3⟩ := p
  exact app_ok I e1 e2 r fun s' I' => fin s' _ I' e3
def tLcX (wi : TI) (g : TG) (tt : L2.St → TT) (te : L2.St → TE) (vs : List Nat) : TE := tBlk (fun _ => .lst []) PtL wi g tt te vs
theorem q_lcX {wi : TI} {g : TG} {tt : L2.St → TT} {te : L2.St → TE} {sl : List Nat} {σ : L2.St} {H : Hp} {Q : VK} (h : wi σ H fun J H1 => ∀ d, H1 d = none → lcB J g (tt σ) (te σ) sl σ H1 d Q) : tLcX wi g tt te sl σ H Q := h
/-- a set of pairs of texts: its members' places and texts -/
def SPO (P : Program) (w : World) (a : Addr) (L : List (Addr × SP)) : HO := .ext fun h => MP P w h a (L.map fun z => (.ref z.1, [z.2.1, z.2.2]))
def PairO (p : SP) : HO := .tup [.str p.1, .str p.2]
theorem spo_ok {P : Program} {w : World} {H : Hp} {h : Heap} {a : Addr} {L : List (Addr × SP)} (m : MP P w h a (L.map fun z => (.ref z.1, [z.2.1, z.2.2]))) : ObjOk P w H h a (SPO P w a L) := by
  refine ⟨m, ?_, fun h1 h2 m' k => (mp_law P w).mo m' k⟩
  obtain ⟨o, _, _, _, e, _⟩ := m
  exact ⟨o, e⟩
theorem pair_vp {Y : Cx} {pins : List (Addr × Obj)} {σ : L2.St} {H : Hp} {s : Shared} (I : Inv Y pins σ H s) {b : Addr} {p : SP} (e : H b = some (PairO p)) : VP Y.prog Y.w s.heap (.ref b) [p.1, p.2] := by
  obtain ⟨_, its, r2, o, ho, hc, n, hd⟩ := I.hok _ _ e
  obtain ⟨u1, u2, rfl, ri, rj⟩ := vals2 r2
  obtain ⟨k1, rfl⟩ := ri
  obtain ⟨k2, rfl⟩ := rj
  exact ⟨b, rfl, o, _, n, ho, hc, hd, .cons (strKind_is _ _ _ _) (.cons (strKind_is _ _ _ _) .nil)⟩
theorem two_inj : ∀ {L : List (Addr × SP)} {p : SP}, [p.1, p.2] ∈ (L.map fun z => ((Value.ref z.1, [z.2.1, z.2.2]) : Value × List Str)).map (·.2) ↔ p ∈ L.map (·.2) := fun {L p} => by
  rw [List.map_map]
  constructor
  · intro m
    obtain ⟨z, hz, e⟩ := List.mem_map.mp m
    have e1 : [z.2.1, z.2.2] = [p.1, p.2] := e
    have a := List.cons.inj e1
    have b := List.cons.inj a.2
    exact List.mem_map.mpr ⟨z, hz, Prod.ext a.1 b.1⟩
  · intro m
    obtain ⟨z, hz, rfl⟩ := List.mem_map.mp m
    exact List.mem_map.mpr ⟨z, hz, rfl⟩
def PtP (P : Program) (w : World) : Addr → V → Hp → (Hp → Prop) → Prop := fun D y H4 Nx => ∃ (b : Addr) (p : SP) (L : List (Addr × SP)), y = .ref b ∧ H4 b = some (PairO p) ∧ H4 D = some (SPO P w D L) ∧ (∀ z ∈ L, H4 z.1 = some (PairO z.2)) ∧ L.length + 1 < 64 ∧
  ∀ L', (p ∈ L.map (·.2) → L' = L) → (p ∉ L.map (·.2) → L'.Perm ((b, p) :: L)) → Nx (upd H4 D (SPO P w D L'))
theorem put_pair {P : Program} {w : World} : PutR "set.add" (PtP P w) P w := fun Y pins σ H s D y z Nx Q E y1 y2 hu I r pt fin => by
  subst y1 y2
  obtain ⟨b, p, L, rfl, hb, hD, hL, few, nx⟩ := pt
  cases (show z = .ref b from r)
  have m : MP Y.prog Y.w s.heap D (L.map fun z => (.ref z.1, [z.2.1, z.2.2])) := (I.hok D _ hD).1
  have ty : s.TypeIs (.ref D) "set" := by
    obtain ⟨o, es, ep, t, e, x, _⟩ := m
    exact ⟨o, e, x.1⟩
  refine wpAny_call_entry F.slot_set_add ty F.entry_set_add ?_ (F.args_set_add_2 _ _)
  unfold Builtin.«set.add» Builtin.Frozenset.oneOther
  simp only [List.isEmpty_nil, bind_assoc]
  unfold Builtin.Frozenset.addrOf
  refine wpAny_bind (wpAny_pure ?_)
  try dsimp only
  refine wpAny_bind (wpAny_pure ?_)
  try dsimp only
  refine wpAny_bind ?_
  refine (mp_law Y.prog Y.w).ad m (fun q hq => ?_) (pair_vp I hb) (by rw [List.length_map]; exact few) (by show _ + 1 < _; omega) fun x h' L' tk sb ht m' c1 c2 => ?_
  · obtain ⟨z, hz, rfl⟩ := List.mem_map.mp hq
    exact pair_vp I (hL z hz)
  · show wpAny _ _ (ret Value.none) _ _ _
    have new : ∃ L2 : List (Addr × SP), L' = L2.map (fun z => ((Value.ref z.1, [z.2.1, z.2.2]) : Value × List Str)) ∧ (p ∈ L.map (·.2) → L2 = L) ∧ (p ∉ L.map (·.2) → L2.Perm ((b, p) :: L)) := by
      by_cases c : p ∈ L.map (·.2)
      · exact ⟨L, c1 (two_inj.mpr c), fun _ => rfl, fun n => absurd c n⟩
      · have q := c2 fun m => c (two_inj.mp m)
        have q2 : L'.Perm (((b, p) :: L).map fun z => ((Value.ref z.1, [z.2.1, z.2.2]) : Value × List Str)) := q
        obtain ⟨L2, z1, z2⟩ := perm_img q2
        exact ⟨L2, z2, fun m => absurd m c, fun _ => z1⟩
    obtain ⟨L2, rfl, d1, d2⟩ := new
    have there : ∃ u, h'.get? D = some u := by
      obtain ⟨o, _, _, _, e, _⟩ := m'
      exact ⟨o, e⟩
    refine wpAny_pure ⟨_, rfl, fin _ _ ?_ (nx L2 d1 d2)⟩
    exact I.write (e := D) (t' := tk) (by rw [hD]; trivial) (.inl rfl) (fun q u n e => (sb.2 q n).trans e) there (spo_ok m')
def tScP (P : Program) (w : World) (wi : TI) (g : TG) (tt : L2.St → TT) (te : L2.St → TE) (vs : List Nat) : TE := tBlk (fun D => SPO P w D []) (PtP P w) wi g tt te vs
section
variable {X : Cx} {K : PySem.W.Frag} {P : Program} {w : World} {elt tg iter : Expr} {ifs : List Expr} {scope : Scope} {own : List (PySem.Str × Nat)} {pos : Pos} {wi : TI} {g : TG} {tt : L2.St → TT} {te : L2.St → TE} {W : WX}
theorem pe_lcX (hst : X.stack = X.env :: X.outer) (hfm : X.env.frame = some X.env.locals) (tk : Takes X W) (hu : X.A.units + 64 < cLine) (hc : X.calm = true) (hN : X.N.Nodup) (hi : PI X tg iter wi) (ok : BlkOk X.N X.env.scope scope own)
    (hg : ∀ (s : Shared) (H : Hp) (C : Addr) (cl : List (PySem.Str × Addr)) (fp : List Addr) (σ : L2.St), PG (blkE X s H scope (compEnvC scope cl C X.env) fp (WE W σ)) tg g) (ht : ∀ (s : Shared) (H : Hp) (C : Addr) (cl : List (PySem.Str × Addr)) (fp : List Addr) (σ : L2.St), PTs (blkE X s H scope (compEnvC scope cl C X.env) fp (WE W σ)) ifs (tt σ))
    (he : ∀ (s : Shared) (H : Hp) (C : Addr) (cl : List (PySem.Str × Addr)) (fp : List Addr) (σ : L2.St), PE (blkE X s H scope (compEnvC scope cl C X.env) fp (WE W σ)) elt (te σ)) (hs : ∀ x, foldedSetIterable iter X.env x = pure x := by intro _; rfl) :
    PE X (.ListComp elt [⟨tg, iter, ifs, 0⟩] scope pos) (tLcX wi g tt te (own.map (·.2))) := by
  refine ⟨fun pins s σ H Q I h => ?_⟩
  rw [eval_ListComp]
  refine blk_core (O0 := fun _ => .lst []) (o0 := { cls := .type "list", data := .seq ([] : List Value).toArray }) hst hfm tk hu rfl loop_lst start_lst put_lst (fun {A E z Q} q => wpAny_newObj_type q (by show 0 ≤ sizeLine; decide)) (fun {h H} => ⟨Nat.zero_le _, [], 0, .nil, Heap.get?_push_size _ rfl⟩) hc hN I hi ok hg ht he hs h fun D C z m H' J q _ f h' sb => ?_
  obtain ⟨f0, f1, f2, f3, f4, f5⟩ := f
  exact ⟨.ref D, H', J.turned (t' := z.toks) (fun b o n e => (sb.2 b n).trans e) f0 f1 f3 f4 f5, rfl, q⟩
theorem pe_scP (hp : X.prog = P) (hw : X.w = w) (hst : X.stack = X.env :: X.outer) (hfm : X.env.frame = some X.env.locals) (tk : Takes X W) (hu : X.A.units + 64 < cLine) (hc : X.calm = true) (hN : X.N.Nodup) (hi : PI X tg iter wi) (ok : BlkOk X.N X.env.scope scope own)
    (hg : ∀ (s : Shared) (H : Hp) (C : Addr) (cl : List (PySem.Str × Addr)) (fp : List Addr) (σ : L2.St), PG (blkE X s H scope (compEnvC scope cl C X.env) fp (WE W σ)) tg g) (ht : ∀ (s : Shared) (H : Hp) (C : Addr) (cl : List (PySem.Str × Addr)) (fp : List Addr) (σ : L2.St), PTs (blkE X s H scope (compEnvC scope cl C X.env) fp (WE W σ)) ifs (tt σ))
    (he : ∀ (s : Shared) (H : Hp) (C : Addr) (cl : List (PySem.Str × Addr)) (fp : List Addr) (σ : L2.St), PE (blkE X s H scope (compEnvC scope cl C X.env) fp (WE W σ)) elt (te σ)) (hs : ∀ x, foldedSetIterable iter X.env x = pure x := by intro _; rfl) :
    PE X (.SetComp elt [⟨tg, iter, ifs, 0⟩] scope pos) (tScP P w wi g tt te (own.map (·.2))) := by
  subst hp hw
  refine ⟨fun pins s σ H Q I h => ?_⟩
  rw [PpSet.eval_SetComp]
  refine blk_core (O0 := fun D => SPO X.prog X.w D []) (o0 := fshO X.w) hst hfm tk hu rfl loop_set start_set put_pair (fun {A E z Q} q => PpSet.newSet_ok q) (fun {h H} => spo_ok ((mp_law X.prog X.w).nw (Heap.get?_push_size _ rfl))) hc hN I hi ok hg ht he hs h fun D C z m H' J q _ f h' sb => ?_
  obtain ⟨f0, f1, f2, f3, f4, f5⟩ := f
  exact ⟨.ref D, H', J.turned (t' := z.toks) (fun b o n e => (sb.2 b n).trans e) f0 f1 f3 f4 f5, rfl, q⟩
end
end TU

set_option Elab.async false
set_option linter.all false
set_option maxRecDepth 100000
namespace TU
open PySem PySem.Spec PyProof.Rows L2
/-! ### dicts whose keys are pairs of texts -/
def pk (p : SP) : List Key := [.inr p.1, .inr p.2]
def PairAt (H : Hp) (v : V) (p : SP) : Prop := ∃ b, v = .ref b ∧ H b = some (.tup [.str p.1, .str p.2])
inductive Prs (H : Hp) : List V → List SP → Prop
  | nil : Prs H [] []
  | cons {v : V} {vs : List V} {p : SP} {ps : List SP} : PairAt H v p → Prs H vs ps → Prs H (v :: vs) (p :: ps)
theorem pk_inj {p q : SP} (h : pk p = pk q) : p = q := by
  obtain ⟨a, b⟩ := p
  obtain ⟨c, d⟩ := q
  have h1 := List.cons.inj h
  have h2 := List.cons.inj h1.2
  have e1 : a = c := Sum.inr.inj h1.1
  have e2 : b = d := Sum.inr.inj h2.1
  rw [e1, e2]
theorem PairAt.mono {H H' : Hp} {v : V} {p : SP} (s : Same H H') (x : PairAt H v p) : PairAt H' v p := by
  obtain ⟨b, e, h⟩ := x
  exact ⟨b, e, s _ _ h⟩
theorem Prs.mono {H H' : Hp} (s : Same H H') : ∀ {vs : List V} {ps : List SP}, Prs H vs ps → Prs H' vs ps
  | _, _, .nil => .nil
  | _, _, .cons h t => .cons (h.mono s) (Prs.mono s t)
theorem PairAt.T {K : PySem.W.Frag} {H : Hp} {P : Addr → Prop} {v : V} {p : SP} (x : PairAt H v p) : TU.T K H P v (pr p) := by
  obtain ⟨b, rfl, h⟩ := x
  exact .tup (.inl (.inl h)) (.cons (.str _) (.cons (.str _) .nil))
theorem Prs.ts {K : PySem.W.Frag} {H : Hp} {P : Addr → Prop} : ∀ {vs : List V} {ps : List SP}, Prs H vs ps → Ts K H P vs (ps.map pr)
  | _, _, .nil => .nil
  | _, _, .cons h t => .cons h.T (Prs.ts t)
theorem Prs.len {H : Hp} : ∀ {vs : List V} {ps : List SP}, Prs H vs ps → vs.length = ps.length
  | _, _, .nil => rfl
  | _, _, .cons _ t => congrArg Nat.succ (Prs.len t)
theorem Prs.at {H : Hp} : ∀ {vs : List V} {ps : List SP} {i : Nat} {v : V}, Prs H vs ps → vs[i]? = some v → ∃ p, ps[i]? = some p ∧ PairAt H v p
  | _, _, 0, _, .cons h _, e => by
    cases (show some _ = some _ from e)
    exact ⟨_, rfl, h⟩
  | _, _, i + 1, _, .cons _ t, e => Prs.at (i := i) t (by simpa using e)
theorem Prs.append {H : Hp} {vs ws : List V} {ps qs : List SP} (x : Prs H vs ps) (y : Prs H ws qs) : Prs H (vs ++ ws) (ps ++ qs) := by
  induction x with
  | nil => exact y
  | cons h _ ih => exact .cons h ih
section
variable {X : Cx} {pins : List (Addr × Obj)} {σ : L2.St} {H : Hp} {s : Shared}
theorem PairAt.isPS (I : Inv X pins σ H s) {x : V} {v : Value} {p : SP} (t : PairAt H x p) (r : RelV x v) : IsPS s.heap v p := by
  obtain ⟨b, rfl, h⟩ := t
  have e : v = .ref b := r
  subst e
  obtain ⟨_, its, r2, o, ho, hc, n, hd⟩ := I.hok _ _ h
  obtain ⟨u1, u2, rfl, ri, rj⟩ := vals2 r2
  obtain ⟨k1, rfl⟩ := ri
  obtain ⟨k2, rfl⟩ := rj
  exact ⟨b, o, k1, k2, n, rfl, ho, hc, hd⟩
end
/-- what a sort of such values needs -/
theorem prs_vals {X : Cx} {pins : List (Addr × Obj)} {σ : L2.St} {H : Hp} {s : Shared} (I : Inv X pins σ H s) : ∃ k : Value → SP, ∀ {xs : List V} {its : List Value} {ps : List SP}, Vals xs its → Prs H xs ps → its.map k = ps ∧ (∀ v ∈ its, IsPS s.heap v (k v)) ∧ ∀ v ∈ its, PairAt H (backV v) (k v) := by
  haveI dec : ∀ v, Decidable (∃ p, IsPS s.heap v p) := fun v => Classical.propDecidable _
  refine ⟨fun v => if c : ∃ p, IsPS s.heap v p then Classical.choose c else ("", ""), ?_⟩
  have kis : ∀ {v p}, IsPS s.heap v p → (if c : ∃ p, IsPS s.heap v p then Classical.choose c else ("", "")) = p := fun {v p} x => by
    have c : ∃ p, IsPS s.heap v p := ⟨p, x⟩
    rw [dif_pos c]
    exact (Classical.choose_spec c).uniq x
  intro xs its ps rv
  induction rv generalizing ps with
  | nil =>
    intro h
    cases h
    exact ⟨rfl, (fun v m => nomatch m), fun v m => nomatch m⟩
  | @cons x u xs its r1 r2 ih =>
    intro h
    cases h with
    | @cons _ _ p ps t1 t2 =>
      have ip := t1.isPS I r1
      obtain ⟨i1, i2, i3⟩ := ih t2
      obtain ⟨b, eb, hb⟩ := id t1
      subst eb
      have eu : u = .ref b := r1
      subst eu
      have ek := kis ip
      refine ⟨?_, fun v m => ?_, fun v m => ?_⟩
      · rw [List.map_cons, ek, i1]
      · rcases List.mem_cons.mp m with c | c
        · rw [c]
          show IsPS s.heap (.ref b) (if c : ∃ p, IsPS s.heap (.ref b) p then Classical.choose c else ("", ""))
          rw [ek]
          exact ip
        · exact i2 v c
      · rcases List.mem_cons.mp m with c | c
        · rw [c]
          show PairAt H (.ref b) (if c : ∃ p, IsPS s.heap (.ref b) p then Classical.choose c else ("", ""))
          rw [ek]
          exact t1
        · exact i3 v c
theorem kt_prs {H : Hp} {kvs : List (List Key × V)} {ks : List (List Key × Addr × Value)} (r : KT H kvs ks) : ∀ {ps : List SP}, kvs.map (·.1) = ps.map pk → Prs H (ks.map fun x => V.ref x.2.1) ps := by
  unfold KT at r
  induction r with
  | nil =>
    intro ps e
    cases ps with
    | nil => exact .nil
    | cons p ps => exact nomatch e
  | @cons p q ps0 qs h t ih =>
    intro ps e
    cases ps with
    | nil => exact nomatch e
    | cons x ps =>
      have e2 := List.cons.inj e
      obtain ⟨h1, h2, _⟩ := h
      refine .cons ⟨q.2.1, rfl, ?_⟩ (ih e2.2)
      rw [h2, show p.1 = pk x from e2.1]
      rfl
theorem vals_addr {α : Type} (f : α → Addr) : ∀ l : List α, Vals (l.map fun x => V.ref (f x)) (l.map fun x => Value.ref (f x))
  | [] => .nil
  | x :: l => .cons rfl (vals_addr f l)
/-- sorted(d), d a dict whose keys are pairs of texts -/
def rSortT : List V → Hp → VK → Prop := fun vs H Q => ∃ (d : Addr) (kvs : List (List Key × V)) (ps : List SP), vs = [.ref d] ∧ Rd H d (.dT kvs) ∧ kvs.map (·.1) = ps.map pk ∧ ∀ ys p, Prs H ys (srtP ps) → H p = none → Q (.ref p) (upd H p (.lst ys))
theorem call_sortT {X : Cx} (hc : X.calm = true) : CallR X (.builtin "sorted") rSortT := by
  intro pins s σ H vs us Q I r h
  obtain ⟨d, kvs, ps, rfl, hd, hk, q⟩ := h
  obtain ⟨u, rfl, rx⟩ := vals1 r
  cases (show u = Value.ref d from rx)
  obtain ⟨z, hs, ks, kt, o, es, ep, ho, hx, hdt, he, hn⟩ := (show ObjOk X.prog X.w H s.heap d (.dT kvs) from hd.ok I.hok)
  have l1 : es.size = ks.length := by
    have := congrArg List.length he
    rw [List.length_map, Array.length_toList] at this
    exact this
  have l2 : kvs.length = ks.length := kt.length
  have prs := kt_prs kt hk
  obtain ⟨k, kall⟩ := prs_vals I
  obtain ⟨a1, a2, a3⟩ := kall (vals_addr (fun x : List Key × Addr × Value => x.2.1) ks) prs
  refine Calls.call_function_entry kind_sorted plain_sorted entry_sorted (args_sorted1 _) ?_
  unfold Builtin.«sorted»
  refine wpAny_bind (m := checkCount "sorted" 1 1 _) (wpAny_pure ?_)
  refine wpAny_bind (PySem.W.kdu_collect (A := X.A.in1) (kdl_raw hs hx hdt) (I.ok.hd hc) ho (by omega) fun h' tk acc kp it => ?_)
  have ea : acc.toList = ks.map fun x => Value.ref x.2.1 := by
    have hl : acc.toList.length = ks.length := by rw [Array.length_toList, it.1]; exact l1
    refine List.ext_getElem? fun j => ?_
    rw [List.getElem?_map]
    cases hj : acc.toList[j]? with
    | none =>
      rw [List.getElem?_eq_none (by rw [← hl]; exact List.getElem?_eq_none_iff.mp hj)]
      rfl
    | some v =>
      obtain ⟨en, hen, hv⟩ := it.2 j v (by rw [← Array.getElem?_toList]; exact hj)
      have qe := entry_at he j
      rw [hen] at qe
      cases hb : ks[j]? with
      | none =>
        rw [hb] at qe
        cases qe
      | some y =>
        rw [hb] at qe
        have e2 : en = entryOfKey (tupleKind (mixKind X.prog X.w)) y := Option.some.inj qe
        rw [hv, e2]
        rfl
  generalize acc.toList = its at ea
  subst ea
  have hz : (ks.map fun x => Value.ref x.2.1).length ≤ sizeLine := by rw [List.length_map]; omega
  refine wpAny_bind (wpAny_newList ?_ hz)
  have hoL : (h'.push (seqObj "list" (ks.map fun x => Value.ref x.2.1).toArray 0)).get? h'.objs.size = some (seqObj "list" (ks.map fun x => Value.ref x.2.1).toArray 0) := Heap.get?_push_size _ rfl
  have up : ∀ b o, s.heap.get? b = some o → (h'.push (seqObj "list" (ks.map fun x => Value.ref x.2.1).toArray 0)).get? b = some o := fun b o e => Heap.get?_push_of_some _ (kp b o e)
  show wpAny _ _ _ _ _ { s with heap := h'.push (seqObj "list" (ks.map fun x => Value.ref x.2.1).toArray 0), toks := tk }
  refine wpAny_bind (wpAny_holding (wpAny_call_entry slot_list_sort ⟨_, hoL, rfl⟩ entry_list_sort (SrtO.list_sort_ord (s := { s with heap := h'.push (seqObj "list" (ks.map fun x => Value.ref x.2.1).toArray 0), toks := tk }) (swo_lexS k) hoL hz (fun h2 => ?_) fun out o1 o2 => ⟨_, rfl, ?_⟩) (args_list_sort _)))
  · refine pairS_sortable (s := { s with heap := h'.push (seqObj "list" (ks.map fun x => Value.ref x.2.1).toArray 0), toks := tk }) (by omega) (fun v m => (a2 v m).keeps fun b o e _ => up b o e) fun o e c => ?_
    have e2 : some o = some (seqObj "list" (ks.map fun x => Value.ref x.2.1).toArray 0) := e.symm.trans hoL
    cases e2
    exact absurd (Value.type.inj c) (by decide)
  · have mem : ∀ v ∈ out, v ∈ ks.map fun x => Value.ref x.2.1 := fun v m => o2.perm.mem_iff.mp m
    have ok : out.map k = srtP ps := by
      refine srtP_is ?_ (List.pairwise_map.mpr o1)
      rw [← a1]
      exact o2.perm.map k
    have build : ∀ {l : List Value}, (∀ v ∈ l, v ∈ ks.map fun x => Value.ref x.2.1) → Prs H (l.map backV) (l.map k) := by
      intro l
      induction l with
      | nil => exact fun _ => .nil
      | cons v l ih => exact fun m => .cons (a3 v (m v List.mem_cons_self)) (ih fun y hy => m y (List.mem_cons_of_mem _ hy))
    have tb := build mem
    rw [ok] at tb
    have refs : ∀ v ∈ out, ∃ b, v = Value.ref b := fun v m => by
      obtain ⟨x, _, e⟩ := List.mem_map.mp (mem v m)
      exact ⟨_, e.symm⟩
    have I1 : Inv X pins σ H { s with heap := h', toks := tk } := I.kept kp
    obtain ⟨n, hn2⟩ := sortedHeap_at (vs := ks.map fun x => Value.ref x.2.1) (out := out.toArray) hoL
    refine wpAny_pure ⟨_, rfl, .ref h'.objs.size, upd H h'.objs.size (.lst (out.map backV)), I1.laid (t' := tk) (fun b u e => ?_) (Nat.le_refl _) ⟨?_, out, n, vals_back refs, hn2⟩, rfl, q _ _ tb (I1.hok.fresh (Nat.le_refl _))⟩
    · have hb : b < h'.objs.size := Heap.lt_size e
      rw [sortedHeap_old (Nat.ne_of_lt hb) (by rw [size_push']; exact Nat.lt_succ_of_lt hb)]
      exact Heap.get?_push_of_some _ e
    · rw [List.length_map, o2.perm.length_eq]
      exact hz
end TU

set_option Elab.async false
set_option linter.all false
set_option maxRecDepth 100000
namespace TU
open PySem PySem.Spec PyProof.Rows L2
/-! ### lists of pairs that are tracked -/
theorem PairAt.upd {H : Hp} {v : V} {p : SP} {q : Addr} {o o' : HO} (x : PairAt H v p) (e : H q = some o) (n : ∀ xs, o ≠ .tup xs) : PairAt (L2.upd H q o') v p := by
  obtain ⟨b, rfl, h⟩ := x
  refine ⟨b, rfl, ?_⟩
  rw [upd_ne (ne_of h e (Ne.symm (n _)))]
  exact h
theorem Prs.upd {H : Hp} {q : Addr} {o o' : HO} (e : H q = some o) (n : ∀ xs, o ≠ .tup xs) : ∀ {vs : List V} {ps : List SP}, Prs H vs ps → Prs (L2.upd H q o') vs ps
  | _, _, .nil => .nil
  | _, _, .cons h t => .cons (h.upd e n) (Prs.upd e n t)
theorem PairAt.un {H H' Hl : Hp} {a : Addr} {kvs : List (Key × V)} {od : Obj} {un : Hp → Hp} {v : V} {p : SP} (l : Lkd H Hl a kvs od un) (e : H' a = some (.frz od (.dK kvs))) (x : PairAt H' v p) : PairAt (un H') v p := by
  obtain ⟨b, rfl, h⟩ := x
  refine ⟨b, rfl, ?_⟩
  rw [l.un _ _ (ne_of h e fun z => nomatch z)]
  exact h
theorem Prs.un {H H' Hl : Hp} {a : Addr} {kvs : List (Key × V)} {od : Obj} {un : Hp → Hp} (l : Lkd H Hl a kvs od un) (e : H' a = some (.frz od (.dK kvs))) : ∀ {vs : List V} {ps : List SP}, Prs H' vs ps → Prs (un H') vs ps
  | _, _, .nil => .nil
  | _, _, .cons h t => .cons (h.un l e) (Prs.un l e t)
theorem PairAt.new {H : Hp} {q : Addr} {a b : Str} : PairAt (L2.upd H q (.tup [.str a, .str b])) (.ref q) (a, b) := ⟨q, rfl, upd_same⟩
/-- sorted(c), c a list of tracked pairs of texts -/
def rSortQ (K : PySem.W.Frag) : List V → Hp → VK → Prop := fun vs H Q => ∃ (a : Addr) (xs : List V) (ps : List SP), vs = [.ref a] ∧ SqL K H a xs ∧ Prs H xs ps ∧ ∀ ys p, Prs H ys (srtP ps) → H p = none → Q (.ref p) (L2.upd H p (.lst ys))
theorem call_sortQ {X : Cx} : CallR X (.builtin "sorted") (rSortQ X.K) := by
  intro pins s σ H vs us Q I r h
  obtain ⟨a, xs, ps, rfl, hs, ht, q⟩ := h
  obtain ⟨its, rv, hl, hz⟩ := I.list hs
  obtain ⟨u, rfl, ru⟩ := vals1 r
  obtain rfl : u = Value.ref a := ru
  obtain ⟨k, kall⟩ := prs_vals I
  obtain ⟨a1, a2, a3⟩ := kall rv ht
  have refs : ∀ v ∈ its, ∃ b, v = Value.ref b := fun v m => by
    obtain ⟨b, _, _, _, _, e, _⟩ := a2 v m
    exact ⟨b, e⟩
  refine SrtO.sorted_ord (swo_lexS k) hl.isList (by rw [← rv.length]; exact hz) (fun h2 h1 d hd kk => ?_) fun out o1 o2 => ?_
  · refine pairS_sortable (s := { s with heap := h1 }) (by omega) (fun v m => (a2 v m).keeps fun b o e _ => (kk b o e).2) fun o e c => ?_
    have e2 : some o = some (seqObj "list" its.toArray 0) := e.symm.trans hd
    cases e2
    exact absurd (Value.type.inj c) (by decide)
  · have mem : ∀ v ∈ out, v ∈ its := fun v m => o2.perm.mem_iff.mp m
    have ok : out.map k = srtP ps := by
      refine srtP_is ?_ (List.pairwise_map.mpr o1)
      rw [← a1]
      exact o2.perm.map k
    have build : ∀ {l : List Value}, (∀ v ∈ l, v ∈ its) → Prs H (l.map backV) (l.map k) := by
      intro l
      induction l with
      | nil => exact fun _ => .nil
      | cons v l ih => exact fun m => .cons (a3 v (m v List.mem_cons_self)) (ih fun y hy => m y (List.mem_cons_of_mem _ hy))
    have tb := build mem
    rw [ok] at tb
    have hd : s.heap.objs.size ≤ s.heap.objs.size + 1 := Nat.le_succ _
    obtain ⟨n, hn⟩ := sortedAll_at s.heap its out.toArray
    refine ⟨.ref (s.heap.objs.size + 1), L2.upd H (s.heap.objs.size + 1) (.lst (out.map backV)), I.laid (t' := s.toks) (fun b o e => sortedAll_old e) hd ⟨?_, out, n, vals_back fun v m => refs v (mem v m), hn⟩, rfl, q _ _ tb (I.hok.fresh hd)⟩
    rw [List.length_map, o2.perm.length_eq, ← rv.length]
    exact hz
theorem k_sortQ {X : Cx} {K : PySem.W.Frag} (h : X.K = K) : CallR X (.builtin "sorted") (rSortQ K) := h ▸ call_sortQ
theorem q_sortQ {K : PySem.W.Frag} {H : Hp} {Q : VK} {a : Addr} {xs : List V} {ps : List SP} (h : SqL K H a xs) (t : Prs H xs ps) (q : ∀ ys p, Prs H ys (srtP ps) → H p = none → Q (.ref p) (L2.upd H p (.lst ys))) : rSortQ K [.ref a] H Q := ⟨a, xs, ps, rfl, h, t, q⟩
/-! ### a dict keyed by pairs: its content by the plain list -/
/-- the dict's cells say this list -/
def PdAt (H : Hp) (a : Addr) (kvs : List (List Key × V)) (l : List (SP × V)) : Prop := H a = some (.dT kvs) ∧ kvs = l.map fun x => (pk x.1, x.2)
def lkP (l : List (SP × V)) (p : SP) : Option V := (l.find? fun x => decide (x.1 = p)).map (·.2)
theorem valV_pd (p : SP) : ∀ l : List (SP × V), valV (l.map fun x => (pk x.1, x.2)) (pk p) = lkP l p
  | [] => rfl
  | x :: l => by
    unfold valV lkP
    rw [List.map_cons, List.find?_cons, List.find?_cons]
    by_cases h : x.1 = p
    · have h2 : decide (pk x.1 = pk p) = true := decide_eq_true (by rw [h])
      have h3 : decide (x.1 = p) = true := decide_eq_true h
      rw [h3]
      simp [h2]
    · have h2 : decide (pk x.1 = pk p) = false := decide_eq_false fun z => h (pk_inj z)
      have h3 : decide (x.1 = p) = false := decide_eq_false h
      have ih := valV_pd p l
      unfold valV lkP at ih
      rw [h3]
      simp only [h2]
      exact ih
end TU

set_option Elab.async false
set_option linter.all false
set_option maxRecDepth 100000
namespace TU
open PySem PySem.Spec PyProof.Rows L2
/-- a global tuple of the text -/
theorem glob_tup {K : PySem.W.Frag} {h : Heap} {mg : Str → Option Value} {x : Str} {a : Addr} {dd : Option Addr} {its : Array Value} {n : Nat} {sl : Array (Option Value)} {vs : List V} (X : K.In h) (G : h.Ns mainGlobals mg) (ha : PySem.W.nsIn K mainGlobals x = some (some (.ref a)))
    (hl : K.lookup a = some ⟨.type "tuple", dd, .seq its n, sl⟩) (hz : its.size ≤ sizeLine) (hv : Vals vs its.toList) : ∃ A, mg x = some (.ref A) ∧ ∀ H, SqT K H A vs :=
  ⟨a, PySem.W.mg_of X G ha, fun _ => .inr ⟨_, its, n, hl, rfl, rfl, hz, hv⟩⟩
/-! ### picks: a dict from pairs to words -/
abbrev Pks := List (SP × Str)
def lkS (l : Pks) (p : SP) : Option Str := (l.find? fun x => decide (x.1 = p)).map (·.2)
def pkK (l : Pks) : List (List Key × V) := l.map fun x => (pk x.1, V.str x.2)
theorem valV_pk (p : SP) : ∀ l : Pks, valV (pkK l) (pk p) = (lkS l p).map V.str
  | [] => rfl
  | x :: l => by
    have ih := valV_pk p l
    unfold valV pkK lkS at ih ⊢
    rw [List.map_cons, List.find?_cons, List.find?_cons]
    by_cases h : x.1 = p
    · have h2 : decide (pk x.1 = pk p) = true := decide_eq_true (by rw [h])
      rw [decide_eq_true h]
      simp [h2]
    · have h2 : decide (pk x.1 = pk p) = false := decide_eq_false fun z => h (pk_inj z)
      rw [decide_eq_false h]
      simp only [h2]
      exact ih
section
variable {K : PySem.W.Frag} {H : Hp} {Q : VK} {d b : Addr} {l : Pks} {p : SP}
theorem dget_pk (hd : Rd H d (.dT (pkK l))) (hb : H b = some (.tup [.str p.1, .str p.2])) : DGet H d (.ref b) ((lkS l p).map V.str) := .inr ⟨pkK l, pk p, b, hd, rfl, hb, (valV_pk p l).symm⟩
theorem q_inP (hd : Rd H d (.dT (pkK l))) (hb : H b = some (.tup [.str p.1, .str p.2])) (q : Q (.bl (lkS l p).isSome) H) : rInU false K (.ref b) (.ref d) H Q := .inl ⟨d, _, rfl, dget_pk hd hb, by
  have e : ((lkS l p).map V.str).isSome = (lkS l p).isSome := by cases lkS l p <;> rfl
  show Q (.bl (if false = true then !((lkS l p).map V.str).isSome else ((lkS l p).map V.str).isSome)) H
  rw [if_neg Bool.false_ne_true, e]
  exact q⟩
theorem q_ninP (hd : Rd H d (.dT (pkK l))) (hb : H b = some (.tup [.str p.1, .str p.2])) (q : Q (.bl (!(lkS l p).isSome)) H) : rInU true K (.ref b) (.ref d) H Q := .inl ⟨d, _, rfl, dget_pk hd hb, by
  have e : ((lkS l p).map V.str).isSome = (lkS l p).isSome := by cases lkS l p <;> rfl
  show Q (.bl (if true = true then !((lkS l p).map V.str).isSome else ((lkS l p).map V.str).isSome)) H
  rw [if_pos rfl, e]
  exact q⟩
theorem q_ixP {w : Str} (hd : Rd H d (.dT (pkK l))) (hb : H b = some (.tup [.str p.1, .str p.2])) (hw : lkS l p = some w) (q : Q (.str w) H) : rIxU K (.ref d) (.ref b) H Q := .inr (.inr (.inr ⟨d, .str w, rfl, by
  have g := dget_pk hd hb
  rw [hw] at g
  exact g, q⟩))
end
end TU

set_option Elab.async false
set_option linter.all false
set_option maxRecDepth 100000
namespace TU
open PySem PySem.Spec PyProof.Rows L2
/-- sorted(s), s a set of pairs of texts -/
def rSortSP (P : Program) (w : World) : List V → Hp → VK → Prop := fun vs H Q => ∃ (a : Addr) (L : List (Addr × SP)), vs = [.ref a] ∧ H a = some (SPO P w a L) ∧ (∀ z ∈ L, H z.1 = some (PairO z.2)) ∧ L.length < 64 ∧ ∀ ys p, Prs H ys (srtP (L.map (·.2))) → H p = none → Q (.ref p) (upd H p (.lst ys))
theorem prs_refs {H : Hp} : ∀ {L : List (Addr × SP)}, (∀ z ∈ L, H z.1 = some (PairO z.2)) → Prs H (L.map fun z => V.ref z.1) (L.map (·.2))
  | [], _ => .nil
  | z :: L, h => .cons ⟨z.1, rfl, h z List.mem_cons_self⟩ (prs_refs fun q m => h q (List.mem_cons_of_mem _ m))
theorem call_sortSP {X : Cx} (hc : X.calm = true) : CallR X (.builtin "sorted") (rSortSP X.prog X.w) := by
  intro pins s σ H vs us Q I r h
  obtain ⟨a, L, rfl, ha, hL, few, q⟩ := h
  rw [Vals.ref1 r]
  have m : MP X.prog X.w s.heap a (L.map fun z => (.ref z.1, [z.2.1, z.2.2])) := (I.hok a _ ha).1
  obtain ⟨o, es, ep, t, hob, hx, hda, fit, fw, ris, led, ev⟩ := (mp_law X.prog X.w).ot m
  refine Calls.call_function_entry kind_sorted plain_sorted entry_sorted (args_sorted1 _) ?_
  unfold Builtin.«sorted»
  refine wpAny_bind (wpAny_pure ?_)
  refine wpAny_bind (collect_set (A := X.A.in1) (I.ok.hd hc) ⟨o, hob, hx.1, hda⟩ fit fw ris led fun s1 vs k1 z1 g1 o1 pm => ?_)
  rw [ev, List.map_map] at pm
  obtain ⟨L1, p1, e1⟩ := perm_img pm
  have e1 : vs = L1.map fun z => Value.ref z.1 := e1
  subst e1
  obtain ⟨k, kall⟩ := prs_vals I
  obtain ⟨a1, a2, a3⟩ := kall (vals_addr (fun z : Addr × SP => z.1) L1) (prs_refs fun z mz => hL z (p1.mem_iff.mp mz))
  have ln : L1.length < 64 := by rw [p1.length_eq]; exact few
  have hz : (L1.map fun z => Value.ref z.1).length ≤ sizeLine := by rw [List.length_map, sizeLine_eq]; omega
  refine wpAny_bind (wpAny_newList ?_ hz)
  have own := get_own s1.heap (u := seqObj "list" (L1.map fun z => Value.ref z.1).toArray 0)
  have up : ∀ b o, s.heap.get? b = some o → (s1.heap.push (seqObj "list" (L1.map fun z => Value.ref z.1).toArray 0)).get? b = some o := fun b o e => get_push _ (k1 b o e)
  show wpAny _ _ _ _ _ { s1 with heap := s1.heap.push (seqObj "list" (L1.map fun z => Value.ref z.1).toArray 0) }
  refine wpAny_bind (wpAny_holding (wpAny_call_entry slot_list_sort ⟨_, own, rfl⟩ entry_list_sort (SrtO.list_sort_ord (s := { s1 with heap := s1.heap.push (seqObj "list" (L1.map fun z => Value.ref z.1).toArray 0) }) (swo_lexS k) own hz (fun h2 => ?_) fun out b1 b2 => ⟨_, rfl, ?_⟩) (args_list_sort _)))
  · refine pairS_sortable (s := { s1 with heap := s1.heap.push (seqObj "list" (L1.map fun z => Value.ref z.1).toArray 0) }) (by omega) (fun v mv => (a2 v mv).keeps fun b o e _ => up b o e) fun o e c => ?_
    have e2 : some o = some (seqObj "list" (L1.map fun z => Value.ref z.1).toArray 0) := e.symm.trans own
    cases e2
    exact absurd (Value.type.inj c) (by decide)
  · have mem : ∀ v ∈ out, v ∈ L1.map fun z => Value.ref z.1 := fun v mv => b2.perm.mem_iff.mp mv
    have good : out.map k = srtP (L.map (·.2)) := by
      refine srtP_is ?_ (List.pairwise_map.mpr b1)
      refine List.Perm.trans (b2.perm.map k) ?_
      rw [a1]
      exact p1.map _
    have build : ∀ {l : List Value}, (∀ v ∈ l, v ∈ L1.map fun z => Value.ref z.1) → Prs H (l.map backV) (l.map k) := by
      intro l
      induction l with
      | nil => exact fun _ => .nil
      | cons v l ih => exact fun mv => .cons (a3 v (mv v List.mem_cons_self)) (ih fun y hy => mv y (List.mem_cons_of_mem _ hy))
    have tb := build mem
    rw [good] at tb
    have refs : ∀ v ∈ out, ∃ b, v = Value.ref b := fun v mv => by
      obtain ⟨z, _, e⟩ := List.mem_map.mp (mem v mv)
      exact ⟨_, e.symm⟩
    obtain ⟨n, hn2⟩ := sortedHeap_at (vs := L1.map fun z => Value.ref z.1) (out := out.toArray) own
    have old : ∀ b u, s.heap.get? b = some u → (sortedHeap (s1.heap.push (seqObj "list" (L1.map fun z => Value.ref z.1).toArray 0)) s1.heap.objs.size (L1.map fun z => Value.ref z.1) out.toArray).get? b = some u := fun b u e => by
      have e2 := k1 b u e
      have hb : b < s1.heap.objs.size := Heap.lt_size e2
      rw [sortedHeap_old (Nat.ne_of_lt hb) (by rw [size_push']; exact Nat.lt_succ_of_lt hb)]
      exact get_push _ e2
    have hn : H s1.heap.objs.size = none := I.hok.fresh z1
    have lz : (out.map backV).length ≤ sizeLine := by
      rw [List.length_map, b2.perm.length_eq]
      exact hz
    have J : Inv X pins σ (upd H s1.heap.objs.size (.lst (out.map backV))) { s with heap := sortedHeap (s1.heap.push (seqObj "list" (L1.map fun z => Value.ref z.1).toArray 0)) s1.heap.objs.size (L1.map fun z => Value.ref z.1) out.toArray, gens := s1.gens, drawn := s1.drawn, toks := s1.toks } :=
      I.call (ch := []) (Un.laid old z1 hn) (I.hok.laid old z1 ⟨lz, out, n, vals_back refs, hn2⟩) (by rw [g1]; exact I.bare) fun _ z => nomatch z
    refine wpAny_pure ⟨_, rfl, .ref s1.heap.objs.size, _, ?_, rfl, q _ _ tb hn⟩
    have e3 : s1.os = s.os := o1
    have es : ({ s1 with heap := sortedHeap (s1.heap.push (seqObj "list" (L1.map fun z => Value.ref z.1).toArray 0)) s1.heap.objs.size (L1.map fun z => Value.ref z.1) out.toArray } : Shared) = { s with heap := sortedHeap (s1.heap.push (seqObj "list" (L1.map fun z => Value.ref z.1).toArray 0)) s1.heap.objs.size (L1.map fun z => Value.ref z.1) out.toArray, gens := s1.gens, drawn := s1.drawn, toks := s1.toks } := by rw [← e3]
    rw [es]
    exact J
theorem k_sortSP {X : Cx} {P : Program} {w : World} (hp : X.prog = P) (hw : X.w = w) (hc : X.calm = true) : CallR X (.builtin "sorted") (rSortSP P w) := by
  subst hp hw
  exact call_sortSP hc
end TU

set_option Elab.async false
set_option linter.all false
set_option maxRecDepth 100000
namespace TU
open PySem PySem.Spec PyProof.Rows L2
/-! ### the outermost call, sys.modules known to stand -/
theorem top_walkS {l : PySem.W.OpenLaw} {q : Program} {loose : List Str} {XP : (Str → Option Value) → Heap → Prop} {YP : World → Heap → Prop} {d : DefRec} {K : Params → PySem.W.Frag} (hn : l.most = some 63) (hdf : d.params.defaults = []) (hi : importsNone q = true)
    (hY : ∀ (w : World) (h : Heap), YP w h → (K w.params).In h)
    (F : ∀ (w : World) (mg : Str → Option Value) (fa : Addr) (h : Heap), (K w.params).In h → h.Ns mainGlobals mg → mg d.name = some (.ref fa) →
      ∀ base : Heap, (K w.params).In base → base.Ns mainGlobals mg → SysM base → TopOk l.prog w (K w.params) mg base fa (spLaw (K w.params))) :
    PySem.W.WalkO q loose XP YP l.row.toRowW d [] (fun f vs => PySem.call f vs) := by
  refine Att.attach_call hn hdf fun w z0 z mg mb fa o pm cd doc a vs ns G Y ho hd hcd hmg hobj hints hlen hg => ?_
  have kin := hY w _ Y
  have size : ns.length ≤ sizeLine := Nat.le_trans hlen (by decide)
  have rel := vals_ints hints
  have obj : ObjOk l.prog w (fun b => if b = a then some (HO.frz { cls := .type "list", data := .seq vs.toArray } (.lst (ns.map V.int))) else none) z.heap a (.frz { cls := .type "list", data := .seq vs.toArray } (.lst (ns.map V.int))) := ⟨hobj, by rw [List.length_map]; exact size, vs, _, rel, hobj⟩
  -- the tracked heap: the script alone, or nothing where the module knows it
  obtain ⟨T, t1, t2, t3, t4⟩ : ∃ T : Hp, SqL (K w.params) T a (ns.map V.int) ∧ HOk l.prog w T z.heap ∧ (∀ b u, T b = some u → b = a ∧ ∃ o xs, u = .frz o (.lst xs)) ∧ (T a ≠ none → (K w.params).lookup a = none) := by
    cases lk : (K w.params).lookup a with
    | none =>
      refine ⟨fun b => if b = a then some (HO.frz { cls := .type "list", data := .seq vs.toArray } (.lst (ns.map V.int))) else none, .inl (.inr ⟨{ cls := .type "list", data := .seq vs.toArray }, if_pos rfl⟩), fun b u e => ?_, fun b u e => ?_, fun _ => rfl⟩
      all_goals
        by_cases c : b = a
        · have e2 := (if_pos c).symm.trans e
          cases e2
          subst c
          first | exact obj | exact ⟨rfl, _, _, rfl⟩
        · have e2 := (if_neg c).symm.trans e
          cases e2
    | some u =>
      have e := kin a u lk
      rw [hobj] at e
      cases e
      exact ⟨fun _ => none, .inr ⟨_, vs.toArray, _, lk, rfl, rfl, rfl, by rw [List.size_toArray, hints.length]; exact size, by simpa using rel⟩, (fun _ _ e => nomatch e), (fun _ _ e => nomatch e), fun c => absurd rfl c⟩
  have dic : ∀ {b : Addr} {ob : Obj} {es : Array DictEntry} {n : Nat}, z.heap.get? b = some ob → ob.data = .dict es n → T b = none := fun {b ob es n} e1 e2 => by
    cases c : T b with
    | none => rfl
    | some u =>
      have e3 := (t3 b u c).1
      subst e3
      rw [hobj] at e1
      cases e1
      exact nomatch e2
  have ns1 : ∀ {b : Addr} {m : Str → Option Value}, z.heap.Ns b m → (hidT z.heap T).Ns b m := fun ⟨ob, es, n, e1, e2, r⟩ => ⟨ob, es, n, hidT_get e1 (dic e1 e2), e2, r⟩
  have kin1 : (K w.params).In (hidT z.heap T) := fun b ob e => hidT_get (kin b ob e) (by
    cases c : T b with
    | none => rfl
    | some u =>
      have e3 := (t3 b u c).1
      subst e3
      rw [t4 (by rw [c]; exact fun z => nomatch z)] at e
      cases e)
  have env : Env0 l.prog w (K w.params) mg (hidT z.heap T) callerA [] z T := by
    refine ⟨rfl, ⟨kin1, ns1 G.T.g, ⟨mb, ns1 G.T.b, G.T.builtins⟩, ?_⟩, fun b ob e => of_hidT e, Nat.le_of_eq (hidT_size _ _), trivial, (fun b m => nomatch (show b ∈ ([] : List Addr) from m)), t2, .of_eq hg⟩
    obtain ⟨mc, h1, h2⟩ := G.T.nolimit
    exact ⟨mc, ns1 h1, h2⟩
  have sys : SysM (hidT z.heap T) := by
    obtain ⟨o, es, n, e, d⟩ := (sysM_of (l := l) G hi).ex
    exact ⟨o, es, n, hidT_get e (dic e d), d⟩
  refine codeAny_mono (F w mg fa _ kin G.T.g hmg _ kin1 (ns1 G.T.g) sys z T a (fun v _ => v = .bl true) (fun _ _ _ => False) env ⟨a, ns, rfl, t1, hlen, fun _ => rfl⟩) fun r z2 hr => ?_
  match r, hr with
  | .error e, hr => exact False.elim (by
      obtain ⟨_, _, _, _, _, _, _, _, _, _, _, _, x⟩ := hr
      exact x)
  | .ok .next, hr => exact hr.elim
  | .ok .brk, hr => exact hr.elim
  | .ok .cont, hr => exact hr.elim
  | .ok (.ret u), ⟨v, T2, os, bare, un, ok2, rv, hv⟩ =>
    have hv2 : v = .bl true := hv
    subst hv2
    have e : u = Value.bool true := rv
    subst e
    refine ⟨rfl, OldK.of_keep fun b ob e => ?_, os, bare⟩
    cases c : T b with
    | none => exact un.keep b ob e c (fun m => nomatch (show b ∈ ([] : List Addr) from m)) (fun m => nomatch (show b ∈ ([] : List Addr) from m))
    | some u =>
      obtain ⟨_, o2, xs, rfl⟩ := t3 b u c
      obtain ⟨g1, _⟩ := t2 b _ c
      obtain ⟨g2, _⟩ := ok2 b _ (un.frzs b o2 _ c)
      rw [e] at g1
      cases g1
      exact g2

theorem Vw.nj {n m : Nat} {j : Bool} {d : Tr} (v : Vw n m j d) : Vw n m false d := ⟨v.sh, v.sl, v.bk, v.dp, fun z => nomatch z⟩
section
variable {K : PySem.W.Frag} {σ : L2.St} {H : Hp} {Q : VK} {D : Ends}
theorem q_dnewT (h : ∀ p, H p = none → Q (.ref p) (upd H p (.dT []))) : tDNewT σ H Q := h
theorem q_setT {a b : Addr} {v : V} {kvs : List (List Key × V)} {R : Hp → Prop} (k : List Key) (e : H a = some (.dT kvs)) (eb : H b = some (.tup (k.map kV))) (hl : kvs.length < sizeLine) (q : R (upd H a (.dT (putK kvs k v)))) : rSetU (.ref a) (.ref b) v H R := .inr ⟨a, _, rfl, DPut.t e eb hl, q⟩
theorem q_rng1 {ta : TA} {R : It → Hp → Prop} (h : ta σ H fun vs H1 => ∃ j : Int, vs = [.int j] ∧ -(2 ^ 62) ≤ j ∧ j < 2 ^ 62 ∧ R (Itr 0 j.toNat) H1) : iRng1 ta σ H R := h
theorem q_cont (h : D.ct σ H) : tCont D σ H := h
/-- the turns of a set comprehension -/
def scB (P : Program) (w : World) (J : It) (g : TG) (tt : TT) (te : TE) (vs : List Nat) (σ : L2.St) (H1 : Hp) (d : Addr) (Q : VK) : Prop := ∃ W : Nat → Nat → Hp → Prop, (∃ m, W 0 m (upd H1 d (SPO P w d []))) ∧ ∀ i m H, W i m H → (J.stop i H ∧ Q (.ref d) H) ∨ (J.go i H ∧
  ∃ Nx : Hp → Prop, (∀ H', Nx H' → ∃ m', m' < m ∧ W (i + 1) m' H') ∧ ∀ x H', J.yld i H x H' → g x (wipe σ vs) H' fun σ2 H2 => wipe σ2 vs = wipe σ vs ∧ tt σ2 H2 fun b H3 => if b = true then te σ2 H3 fun y H4 => PtP P w d y H4 Nx else Nx H3)
theorem q_scP {P : Program} {w : World} {wi : TI} {g : TG} {tt : L2.St → TT} {te : L2.St → TE} {vs : List Nat} (h : wi σ H fun J H1 => ∀ d, H1 d = none → scB P w J g (tt σ) (te σ) vs σ H1 d Q) : tScP P w wi g tt te vs σ H Q := h
theorem sc_any {P : Program} {w : World} {J : It} {n : Nat} {G : Hp → Prop} {Y : Nat → Hp → V → Hp → Prop} (Wk : Walk J n G Y) {g : TG} {tt : TT} {te : TE} {vs : List Nat} {d : Addr} {H1 : Hp} (Pv : Nat → Hp → Prop) (h0 : Pv 0 (upd H1 d (SPO P w d []))) (hG : ∀ i H, i ≤ n → Pv i H → G H)
    (hs : ∀ i x H H', i < n → Pv i H → Y i H x H' → g x (wipe σ vs) H' fun σ2 H2 => wipe σ2 vs = wipe σ vs ∧ tt σ2 H2 fun b H3 => if b = true then te σ2 H3 fun y H4 => PtP P w d y H4 (Pv (i + 1)) else Pv (i + 1) H3) (hd : ∀ H, Pv n H → Q (.ref d) H) : scB P w J g tt te vs σ H1 d Q := by
  refine ⟨fun i m H => m + i = n ∧ Pv i H, ⟨n, Nat.add_zero n, h0⟩, fun i m H p => ?_⟩
  obtain ⟨e, p⟩ := p
  have q := hG i H (by omega) p
  by_cases lt : i < n
  · exact .inr ⟨Wk.goes i H lt q, Pv (i + 1), fun H' p' => ⟨m - 1, by omega, by omega, p'⟩, fun x H' y => hs i x H H' lt p (Wk.yields i H x H' lt q y)⟩
  · obtain rfl : i = n := by omega
    exact .inl ⟨Wk.stops H q, hd H p⟩
end
end TU

set_option Elab.async false
set_option linter.all false
set_option maxRecDepth 100000
namespace TU
open PySem PySem.Spec PyProof.Rows L2
/-! ### errors whose context is known to be None -/
structure DfN (P : Program) (w : World) (K : PySem.W.Frag) (mg : Str → Option Value) (base : Heap) (x : Str) (ps : List Str) (k : Nat) (sp : Sp) : Prop where
  ex : ∃ f fd, FnOk P w K mg base (L2N.CX P w) k f fd ps sp ∧ mg x = some (.ref f) ∧ PySem.W.keepIn K (.ref f) = true ∧ Binds K fd ps []
structure DmN (P : Program) (w : World) (K : PySem.W.Frag) (mg : Str → Option Value) (base : Heap) (C : Addr) (m : Str) (ps : List Str) (k : Nat) (sp : Sp) : Prop where
  ex : ∃ f fd, FnOk P w K mg base (L2N.CX P w) k f fd ps sp ∧ Meth K C m f ∧ Binds K fd ps []
/-- a promise with the context told is one without -/
theorem cx_of_n {P : Program} {w : World} {outer : List Env} {H : Hp} {s : Shared} {E : XK} {u : Value} {s' : Shared} (c : L2N.CX P w outer H s E u s') : L2.CX P w outer H s E u s' := by
  obtain ⟨a, B, H', cls, d, e, ⟨f1, f2, f3, oe, vs, T, oT, ts, t1, t2, t3⟩, r⟩ := c
  exact ⟨a, B, H', cls, d, e, ⟨f1, f2, f3, oe, vs, T, oT, ts, t1, L2N.Zn.zc t2, t3⟩, r⟩
section
variable {P : Program} {w : World} {K : PySem.W.Frag} {mg : Str → Option Value} {base : Heap}
theorem fn_of_n {k : Nat} {f : Addr} {fd : FuncData} {ps : List Str} {sp : Sp} (F : FnOk P w K mg base (L2N.CX P w) k f fd ps sp) : FnOk P w K mg base (L2.CX P w) k f fd ps sp :=
  ⟨F.len, fun A outer s H args us vs Q E hr e0 b r h => codeAny_mono (F.run A outer s H args us vs Q E hr e0 b r h) fun r s' hq => by
    cases r with
    | error e => exact cx_of_n hq
    | ok fl =>
      cases fl <;> exact hq⟩
theorem DfN.df {x : Str} {ps : List Str} {k : Nat} {sp : Sp} (F : DfN P w K mg base x ps k sp) : Df P w K mg base x ps k sp := by
  obtain ⟨f, fd, F0, r⟩ := F.ex
  exact ⟨f, fd, fn_of_n F0, r⟩
theorem DmN.dm {C : Addr} {m : Str} {ps : List Str} {k : Nat} {sp : Sp} (F : DmN P w K mg base C m ps k sp) : Dm P w K mg base C m ps k sp := by
  obtain ⟨f, fd, F0, r⟩ := F.ex
  exact ⟨f, fd, fn_of_n F0, r⟩
theorem okN {x qual : Str} {st : Stmt} {f : Addr} {fd : FuncData} {N ps : List Str} {k : Nat} {sp : Sp} (F : Fun K x qual st f fd) (S : FnScope N ps (defScope st)) (len : ∀ vs H Q E, sp vs H Q E → vs.length = ps.length)
    (hbody : ∀ (cdv : Value) (A : Around) (outer : List Env) (s : Shared) (H : Hp) (vs : List V) (Q : VK) (E : XK), Room k (A.deeper (envOfC qual (defScope st) s.heap.objs.size f cdv)) → sp vs H Q E →
      ∃ t, PSs (cxOf (L2N.CX P w) P w K mg base N qual (defScope st) f cdv A outer s H E) (defBody st) t ∧ t { nx := fun _ H' => Q .non H', rt := Q } (L2.start N vs) H) : FnOk P w K mg base (L2N.CX P w) (k + 1) f fd ps sp := by
  obtain ⟨oc, od, kV, doc, pm, an, cdv, ct, osl, rfl, lk, hcd⟩ := F.ex
  exact fn_of lk hcd S len fun A outer s H vs Q E hr h => hbody cdv A outer s H vs Q E hr h
theorem TopF.dfN {x : Str} {st : Stmt} {N ps : List Str} {k : Nat} {sp : Sp} (F : TopF K mg x st ps) (S : FnScope N ps (defScope st)) (len : ∀ vs H Q E, sp vs H Q E → vs.length = ps.length)
    (hbody : ∀ (f : Addr) (cdv : Value) (A : Around) (outer : List Env) (s : Shared) (H : Hp) (vs : List V) (Q : VK) (E : XK), Room k (A.deeper (envOfC x (defScope st) s.heap.objs.size f cdv)) → sp vs H Q E →
      ∃ t, PSs (cxOf (L2N.CX P w) P w K mg base N x (defScope st) f cdv A outer s H E) (defBody st) t ∧ t { nx := fun _ H' => Q .non H', rt := Q } (L2.start N vs) H) : DfN P w K mg base x ps (k + 1) sp := by
  obtain ⟨f, fd, F0, hm, hb⟩ := F.ex
  exact ⟨f, fd, okN F0 S len fun cdv A outer s H vs Q E hr h => hbody f cdv A outer s H vs Q E hr h, hm, F0.kp, hb⟩
theorem TopM.dmN {C : Addr} {m qual : Str} {st : Stmt} {N ps : List Str} {k : Nat} {sp : Sp} (F : TopM K C m qual st ps) (S : FnScope N ps (defScope st)) (len : ∀ vs H Q E, sp vs H Q E → vs.length = ps.length)
    (hbody : ∀ (f : Addr) (cdv : Value) (A : Around) (outer : List Env) (s : Shared) (H : Hp) (vs : List V) (Q : VK) (E : XK), Room k (A.deeper (envOfC qual (defScope st) s.heap.objs.size f cdv)) → sp vs H Q E →
      ∃ t, PSs (cxOf (L2N.CX P w) P w K mg base N qual (defScope st) f cdv A outer s H E) (defBody st) t ∧ t { nx := fun _ H' => Q .non H', rt := Q } (L2.start N vs) H) : DmN P w K mg base C m ps (k + 1) sp := by
  obtain ⟨f, fd, F0, hm, hb⟩ := F.ex
  exact ⟨f, fd, okN F0 S len fun cdv A outer s H vs Q E hr h => hbody f cdv A outer s H vs Q E hr h, hm, hb⟩
end
section
variable {X : Cx} {k : Nat} {ps : List Str} {sp : Sp} {x : Str} {p pos : Pos} {e : Expr} {es : List Expr} {t : TA}
theorem pe_dfN {E : L2.St → XK} (F : DfN X.prog X.w X.K X.mg X.base x ps k sp) (hr : Room k X.A) (hx : ∀ σ, PassesAt (L2N.CX X.prog X.w) X σ (E σ)) (ha : PA X (e :: es) t) (hg : Gl X x := by rfl) (hdb : (x == ("__debug__" : Str)) = false := by decide)
    (he : starEach (e :: es) X.env = (false, eval e X.env) :: starEach es X.env := by rfl) (hpl : (backTo pos (starEach es X.env)).any (·.1) = false := by rfl) : PE X (.Call (.Name x p) (e :: es) [] pos) (tCallS sp E t) := by
  obtain ⟨f, fd, F0, hm, hk, hb⟩ := F.ex
  exact pe_callS F0 hr hg hm hk hb hx ha hdb he hpl
end
/-! ### own errors with fields -/
structure XcN (P : Program) (w : World) (K : PySem.W.Frag) (mg : Str → Option Value) (base : Heap) (x : Str) (fs : List Str) (C : Addr) : Prop where
  T : OexC K C
  xf : XfC K C
  g : mg x = some (.ref C)
  no : ∀ f ∈ fs, PySem.W.findIn K (.ref C) f = some none
  te : PySem.W.exmOne K (.ref C) (.ref C) = some true
  ini : ∃ fI fd, PySem.W.findIn K (.ref C) "__init__" = some (some (.ref fI)) ∧ PySem.W.typeIn K (.ref fI) = some (.type "function") ∧ FnOk P w K mg base (L2N.CX P w) 1 fI fd ("self" :: fs) (spXI C fs) ∧ Binds K fd ("self" :: fs) []
theorem XcN.xc {P : Program} {w : World} {K : PySem.W.Frag} {mg : Str → Option Value} {base : Heap} {x : Str} {fs : List Str} {C : Addr} (X : XcN P w K mg base x fs C) : Xc P w K mg base x fs C := by
  obtain ⟨fI, fd, h1, h2, h3, h4⟩ := X.ini
  exact ⟨X.T, X.xf, X.g, X.no, X.te, fI, fd, h1, h2, fn_of_n h3, h4⟩
/-- an error's __init__ is the same work in both kinds -/
theorem initN {P : Program} {w : World} {K : PySem.W.Frag} {mg : Str → Option Value} {base : Heap} {k : Nat} {f C : Addr} {fd : FuncData} {fs : List Str} (F : FnOk P w K mg base (L2.CX P w) k f fd ("self" :: fs) (spXI C fs)) : FnOk P w K mg base (L2N.CX P w) k f fd ("self" :: fs) (spXI C fs) :=
  ⟨F.len, fun A outer s H args us vs Q E hr e0 b r h => codeAny_mono (F.run A outer s H args us vs Q (fun _ _ _ => False) hr e0 b r h) fun r s' hq => by
    cases r with
    | error e =>
      obtain ⟨_, _, _, _, _, _, _, _, _, _, _, _, z⟩ := hq
      exact z.elim
    | ok fl =>
      cases fl <;> exact hq⟩
theorem Xc.n {P : Program} {w : World} {K : PySem.W.Frag} {mg : Str → Option Value} {base : Heap} {x : Str} {fs : List Str} {C : Addr} (X : Xc P w K mg base x fs C) : XcN P w K mg base x fs C := by
  obtain ⟨fI, fd, h1, h2, h3, h4⟩ := X.ini
  exact ⟨X.T, X.xf, X.g, X.no, X.te, fI, fd, h1, h2, initN h3, h4⟩
/-- what raises nothing is of both kinds -/
theorem fn_n {P : Program} {w : World} {K : PySem.W.Frag} {mg : Str → Option Value} {base : Heap} {k : Nat} {f : Addr} {fd : FuncData} {ps : List Str} {sp : Sp} (q : ∀ vs H Q E, sp vs H Q E → sp vs H Q (fun _ _ _ => False)) (F : FnOk P w K mg base (L2.CX P w) k f fd ps sp) : FnOk P w K mg base (L2N.CX P w) k f fd ps sp :=
  ⟨F.len, fun A outer s H args us vs Q E hr e0 b r h => codeAny_mono (F.run A outer s H args us vs Q (fun _ _ _ => False) hr e0 b r (q _ _ _ _ h)) fun r s' hq => by
    cases r with
    | error e =>
      obtain ⟨_, _, _, _, _, _, _, _, _, _, _, _, z⟩ := hq
      exact z.elim
    | ok fl =>
      cases fl <;> exact hq⟩
end TU

set_option Elab.async false
set_option linter.all false
set_option maxRecDepth 100000
namespace TU
open PySem PySem.Spec PyProof.Rows L2
section
variable {X : Cx} {C : Addr} {x : Str} {fs : List Str} {p pos : Pos} {e : Expr} {es : List Expr} {ta : TA}
/-- x(e, ..) is made, to be raised: its context is None -/
theorem pmk_xcN (T : XcN X.prog X.w X.K X.mg X.base x fs C) (hr : Room 2 X.A) (ha : PA X (e :: es) ta) (hg : Gl X x := by rfl) (hdb : (x == ("__debug__" : Str)) = false := by decide)
    (he : starEach (e :: es) X.env = (false, eval e X.env) :: starEach es X.env := by rfl) (hpl : (backTo pos (starEach es X.env)).any (·.1) = false := by rfl) : L2N.PMk X (.Call (.Name x p) (e :: es) [] pos) (tMkO C (spXI C fs) [] ta) := by
  obtain ⟨fI, fd, iC, tI, FI, hb⟩ := T.ini
  intro pins s σ H Q I h
  obtain ⟨nm, q, N, bs, bm, sn, sub, ab, col, dd, k0, k1, k2, k3, k5, hC, hbm⟩ := T.T.cls
  refine wpAny_Call_Name_kw (ld_glob I hg T.g ?_ hdb)
  refine PySem.W.callWith_K (h₀ := X.base) I.ok.mod.kin T.T.kC (thn (ha.run pos pins s σ H _ I h) fun us z ⟨vs, H1, I1, r1, _, q1⟩ => ⟨I1.kIn, ?_⟩) he hpl
  show wpAny _ _ (call (.ref C) us) _ _ _
  obtain ⟨hp, g, dr, tk, os⟩ := z
  have old : ∀ b o, hp.get? b = some o → ((hp.push (PySem.W.kdv_tup us)).push (PySem.HandSPX.excO C hp.objs.size)).get? b = some o := fun b o e => get_push _ (get_push _ e)
  have le : hp.objs.size ≤ hp.objs.size + 1 := Nat.le_succ _
  have want := q1 (hp.objs.size + 1) (I1.hok.fresh le)
  rw [List.append_nil] at want
  have made : ((hp.push (PySem.W.kdv_tup us)).push (PySem.HandSPX.excO C hp.objs.size)).get? (hp.objs.size + 1) = some (PySem.HandSPX.excO C hp.objs.size) := by heap_get
  have J : Inv X pins σ (upd H1 (hp.objs.size + 1) (exo (hp.objs.size + 1) C none)) ⟨(hp.push (PySem.W.kdv_tup us)).push (PySem.HandSPX.excO C hp.objs.size), g, dr, tk, os⟩ := I1.laid (t' := tk) (a := hp.objs.size + 1) (o := exo (hp.objs.size + 1) C none) (h' := (hp.push (PySem.W.kdv_tup us)).push (PySem.HandSPX.excO C hp.objs.size)) old le (exo_ok made)
  have rel : Vals (V.ref (hp.objs.size + 1) :: vs) (Value.ref (hp.objs.size + 1) :: us) := .cons rfl r1
  have len : (Value.ref (hp.objs.size + 1) :: us ++ []).length = ("self" :: fs : List Str).length := by
    have e := rel.length
    rw [FI.len _ _ _ _ want] at e
    rw [List.append_nil]
    exact e.symm
  have bd := hb _ (Value.ref (hp.objs.size + 1) :: us) J.kIn len
  rw [List.append_nil] at bd
  have few : us.length ≤ sizeLine := by
    have e := Paired.length r1
    rw [sizeLine_eq]
    omega
  refine wpAny_call (PySem.HandSPX.call_own F.excBase_ValueError (fun Y => PySem.HandSPX.refsVE_contains Y bm hbm) (I1.kIn _ _ hC) (PySem.W.looks_findIn I1.kIn iC) (fun self => PySem.W.bind_fn I1.kIn self tI) few ?_)
  refine codeAny_mono (FI.run _ X.stack _ _ ⟨Value.ref (hp.objs.size + 1) :: us, []⟩ (Value.ref (hp.objs.size + 1) :: us) _ _ (fun _ _ _ => False) (hr.make C us []) (J.env0.make C us []) bd rel want) fun r z hq => ?_
  match r, hq with
  | .error er, hq =>
    obtain ⟨_, _, _, _, _, _, _, _, _, _, _, _, bad⟩ := hq
    exact bad.elim
  | .ok .next, hq => exact hq.elim
  | .ok .brk, hq => exact hq.elim
  | .ok .cont, hq => exact hq.elim
  | .ok (.ret u), hq =>
    obtain ⟨v, H2, o2, b2, n2, k2', rv, ev, d, fx, ea, ed, hd, q2⟩ := hq
    subst ev
    obtain ⟨h2, g2, d2, t2, os2⟩ := z
    obtain ⟨t0, G, J2, kG, ge, hoe, na⟩ := mk_end0 (d2 := d2) (t2 := t2) I1 le old n2 k2' o2 b2 ea ed hd
    exact ⟨rv, hp.objs.size + 1, _, _, ⟨G, g2, d2, t2, os2⟩, _, .ref C, some d, rfl, J2, kG, ge, hoe, ⟨rfl, rfl, fun vs hv => by cases hv; rfl⟩, rfl, rfl, na, rfl, b2, raises_own T.T.exC T.T.tyC, q2⟩
theorem ps_rzN {W : WX} {pos2 : Pos} (hc : X.calm = true) (T : XcN X.prog X.w X.K X.mg X.base x fs C) (hr : Room 2 X.A) (tk : L2N.Takes X W) (ha : PA X (e :: es) ta) (hg : Gl X x := by rfl) (hdb : (x == ("__debug__" : Str)) = false := by decide)
    (he : starEach (e :: es) X.env = (false, eval e X.env) :: starEach es X.env := by rfl) (hpl : (backTo pos (starEach es X.env)).any (·.1) = false := by rfl) : PS X (.Raise (some (.Call (.Name x p) (e :: es) [] pos)) none pos2) (tRz C fs W ta) := L2N.ps_raise hc tk (pmk_xcN T hr ha hg hdb he hpl)
end
end TU

set_option Elab.async false
set_option linter.all false
set_option maxRecDepth 100000
set_option maxHeartbeats 2000000
namespace TU
open PySem PySem.Spec PyProof.Rows L2 HotX
/-! ### the end of an iterator where an exception is handled -/
section
variable {prog : Program} {w : World} {A : Around} {E : Value → Shared → Prop} {s : Shared}
theorem ref_none (l : Addr) : ¬ ((Value.ref l == Value.none) = true) := fun z => Bool.false_ne_true z
/-- StopIteration is made and raised: what stood stands -/
theorem stop_hot {α : Type} {x1 : Addr} {Q : α → Shared → Prop} (hot : HotAt A x1 s.heap) (q : ∀ a h', (∀ b o, s.heap.get? b = some o → h'.get? b = some o) → ({ s with heap := h' } : Shared).TypeIs (.ref a) "StopIteration" → E (.ref a) { s with heap := h' }) :
    wpAny (model prog w) A (newExc (.type "StopIteration") [] >>= fun e => (raiseNew e : Sem α)) Q E s := by
  obtain ⟨hnd, ob, fs, there, dat, ctx⟩ := hot
  refine wpAny_bind ?_
  simp only [newExc, newTuple]
  refine wpAny_bind (wpAny_newObj_type ?_ (by size_fits))
  refine wpAny_bind (m := firstArgMember _ _) (wpAny_of_eq (a := .none) (by first | rfl | (simp only [firstArgMember] <;> rfl)) ?_)
  refine wpAny_newObj_type ?_ (by size_fits)
  have up : ∀ (o1 o2 : Obj) b o, s.heap.get? b = some o → ((s.heap.push o1).push o2).get? b = some o := fun o1 o2 b o e => get_push _ (get_push _ e)
  refine raiseNew_hot ⟨hnd, ob, fs, up _ _ _ _ there, dat, ctx⟩ (Nat.ne_of_lt (Heap.lt_size (get_push _ there))) (Heap.get?_push_size _ rfl) rfl (by first | (simp; done) | (simp; omega) | (simp only [Array.size_append]; simp; omega)) (q _ _ (fun b o e => ?_) ?_)
  · rw [Heap.get?_update_other _ _ (Nat.ne_of_gt (Heap.lt_size (get_push _ e)))]
    exact up _ _ _ _ e
  · exact ⟨_, Heap.get?_update_self _ (Heap.get?_push_size _ rfl) rfl, rfl⟩
theorem list_end_hot {it l x1 : Addr} {i : Nat} {xs : Array Value} {Q : Option Value → Shared → Prop} (hot : HotAt A x1 s.heap) (hne : x1 ≠ it) (hi : s.heap.IsListIter it l i) (hl : s.heap.IsList l xs) (hx : xs[i]? = none)
    (q : ∀ h', Heap.ExtBut it s.heap h' → Q none { s with heap := h' }) : wpAny (model prog w) A (pyNext (.ref it)) Q E s := by
  obtain ⟨oi, gi, ci, di⟩ := id hi
  obtain ⟨ol, gl, _, cap, dl⟩ := hl
  unfold pyNext
  refine wpAny_bind (wpAny_attempt (wpAny_callSpecial?_slot (name := Str.ofString "__next__") hi.typeIs slot_listiter_next (wpAny_call_entry slot_listiter_next hi.typeIs entry_listiter_next ?_ (args_listiter_next _))))
  show wpAny _ _ (field (.ref it) 0 >>= _) _ _ s
  refine wpAny_bind (wpAny_field gi di (x := .ref l) rfl ?_)
  show wpAny _ _ (if (Value.ref l == Value.none) = true then _ else _) _ _ s
  rw [if_neg (ref_none l)]
  show wpAny _ _ (field (.ref it) 1 >>= _) _ _ s
  refine wpAny_bind (wpAny_field gi di (x := .int i 0) rfl ?_)
  show wpAny _ _ (seqItems? (.ref l) >>= _) _ _ s
  refine wpAny_bind (wpAny_seqItems gl dl ?_)
  simp only [Int.toNat_natCast, hx]
  refine wpAny_bind (wpAny_rule (wpAny_bind (wpAny_setField gi di (by simp) ?_)))
  obtain ⟨hnd, ob, fs, there, dat, ctx⟩ := hot
  refine stop_hot ⟨hnd, ob, fs, (Heap.get?_update_other _ _ (Ne.symm hne)).trans there, dat, ctx⟩ fun a h' kp ty => ?_
  refine wpAny_bind (wpAny_isInstance (T := "StopIteration") (b := true) ty isSubtype_stop ?_)
  exact wpAny_pure (q _ fun b o hb e => kp b o ((Heap.get?_update_other _ _ (Ne.symm hb)).trans e))
theorem keys_end_hot {it d x1 : Addr} {i n ep : Nat} {od : Obj} {es : Array DictEntry} {Q : Option Value → Shared → Prop} (hot : HotAt A x1 s.heap) (hne : x1 ≠ it) (hi : s.heap.IsKeyIter it d i n ep) (gd : s.heap.get? d = some od) (dd : od.data = .dict es ep)
    (hsz : es.size = n) (hge : n ≤ i) (q : ∀ h', Heap.ExtBut it s.heap h' → Q none { s with heap := h' }) : wpAny (model prog w) A (pyNext (.ref it)) Q E s := by
  obtain ⟨oi, gi, ci, di⟩ := id hi
  unfold pyNext
  refine wpAny_bind (wpAny_attempt (wpAny_callSpecial?_slot (name := Str.ofString "__next__") hi.typeIs F.slot_dict_keyiterator_next (wpAny_call_entry F.slot_dict_keyiterator_next hi.typeIs F.entry_dict_keyiterator_next ?_ (F.args_dict_keyiterator_next_1 _))))
  refine wpAny_bind (wpAny_pure ?_)
  refine wpAny_bind ?_
  refine wpAny_bind ?_
  first | refine wpAny_bind (wpAny_typeNameOfWhole_keyiter hi.typeIs (wpAny_pure ?_)) | refine wpAny_bind (wpAny_typeNameOf_keyiter hi.typeIs (wpAny_pure ?_))
  refine wpAny_bind (wpAny_fieldsOf gi di ?_)
  have own : Builtin.Dict_items.ownsTuple "dict_keyiterator" = false := by decide
  simp only [own, Bool.false_eq_true, if_false]
  show wpAny _ _ (if (Value.ref d == Value.none) = true then _ else _) _ _ s
  rw [if_neg (ref_none d)]
  refine wpAny_bind (wpAny_pure ?_)
  refine wpAny_bind (wpAny_dictEntries gd dd ?_)
  rw [if_neg (by rw [hsz]; simp)]
  refine wpAny_bind (wpAny_pure ?_)
  refine wpAny_bind (wpAny_dictEpoch gd dd ?_)
  rw [if_neg (by simp)]
  refine wpAny_pure ?_
  have far : es.size ≤ i := by rw [hsz]; exact hge
  simp only [show ¬ ((i : Int) < 0) from by omega, if_false, Int.toNat_natCast, Array.getElem?_eq_none far]
  refine wpAny_bind ?_
  first | refine wpAny_bind (wpAny_typeNameOfWhole_keyiter hi.typeIs (wpAny_pure ?_)) | refine wpAny_bind (wpAny_typeNameOf_keyiter hi.typeIs (wpAny_pure ?_))
  show wpAny _ _ (setField (.ref it) 0 .none >>= _) _ _ s
  refine wpAny_bind (wpAny_setField gi di (by simp) ?_)
  obtain ⟨hnd, ob, fs, there, dat, ctx⟩ := hot
  refine stop_hot ⟨hnd, ob, fs, (Heap.get?_update_other _ _ (Ne.symm hne)).trans there, dat, ctx⟩ fun a h' kp ty => ?_
  refine wpAny_bind (wpAny_isInstance (T := "StopIteration") (b := true) ty isSubtype_stop ?_)
  exact wpAny_pure (q _ fun b o hb e => kp b o ((Heap.get?_update_other _ _ (Ne.symm hb)).trans e))
end
end TU

set_option Elab.async false
set_option linter.all false
set_option maxRecDepth 100000
set_option maxHeartbeats 2000000
namespace TU
open PySem PySem.Spec PyProof.Rows L2 HotX L2H
section
variable {prog : Program} {w : World} {A : Around} {E : Value → Shared → Prop} {s : Shared}
theorem tup_end_hot {it l x1 : Addr} {i : Nat} {xs : Array Value} {Q : Option Value → Shared → Prop} (hot : HotAt A x1 s.heap) (hne : x1 ≠ it) (hi : s.heap.IsTupleIter it l i) (hl : s.heap.IsTuple l xs) (hx : xs[i]? = none)
    (q : ∀ h', Heap.ExtBut it s.heap h' → Q none { s with heap := h' }) : wpAny (model prog w) A (pyNext (.ref it)) Q E s := by
  obtain ⟨oi, gi, ci, di⟩ := id hi
  obtain ⟨ol, gl, _, cap, dl⟩ := hl
  unfold pyNext
  refine wpAny_bind (wpAny_attempt (wpAny_callSpecial?_slot (name := Str.ofString "__next__") hi.typeIs F.slot_tuple_iterator_next (wpAny_call_entry F.slot_tuple_iterator_next hi.typeIs F.entry_tuple_iterator_next ?_ (F.args_tuple_iterator_next_1 _))))
  show wpAny _ _ (field (.ref it) 0 >>= _) _ _ s
  refine wpAny_bind (wpAny_field gi di (x := .ref l) rfl ?_)
  show wpAny _ _ (if (Value.ref l == Value.none) = true then _ else _) _ _ s
  rw [if_neg (ref_none l)]
  show wpAny _ _ (field (.ref it) 1 >>= _) _ _ s
  refine wpAny_bind (wpAny_field gi di (x := .int i 0) rfl ?_)
  show wpAny _ _ (seqItems? (.ref l) >>= _) _ _ s
  refine wpAny_bind (wpAny_seqItems gl dl ?_)
  simp only [Int.toNat_natCast, hx]
  refine wpAny_bind (wpAny_rule (wpAny_bind (wpAny_setField gi di (by simp) ?_)))
  obtain ⟨hnd, ob, fs, there, dat, ctx⟩ := hot
  refine stop_hot ⟨hnd, ob, fs, (Heap.get?_update_other _ _ (Ne.symm hne)).trans there, dat, ctx⟩ fun a h' kp ty => ?_
  refine wpAny_bind (wpAny_isInstance (T := "StopIteration") (b := true) ty isSubtype_stop ?_)
  exact wpAny_pure (q _ fun b o hb e => kp b o ((Heap.get?_update_other _ _ (Ne.symm hb)).trans e))
end
/-- the handled exception is none of the iterator's objects -/
theorem hot_at {X : Cx} {pins : List (Addr × Obj)} {σ : L2.St} {H : Hp} {s : Shared} {it : Addr} (c : HotC X) (I : Inv X pins σ H s) (f : FpOk X pins H it) : ∃ x1, HotAt X.A x1 s.heap ∧ x1 ≠ it := by
  obtain ⟨p, ⟨hh, v1, e1, c1⟩, hp⟩ := c
  exact ⟨p.1, ⟨hh, p.2, v1, (I.pin p (List.mem_append_left _ hp)).1, e1, c1⟩, f.2.2.2.2.2 p (List.mem_append_left _ hp)⟩
section
variable {P : Program} {w : World} {K : PySem.W.Frag} {tg : Expr}
theorem turnH_list (a it : Addr) : TurnH P w K tg (Itl K a) [it] it (fun i h => h.IsListIter it a i) where
  mem := (turn_list (P := P) (w := w) (K := K) (tg := tg) a it).mem
  obj := (turn_list (P := P) (w := w) (K := K) (tg := tg) a it).obj
  keep := (turn_list (P := P) (w := w) (K := K) (tg := tg) a it).keep
  self := (turn_list (P := P) (w := w) (K := K) (tg := tg) a it).self
  item := by
    intro X eP ew eK hc i pins s σ H E I fr st ⟨xs, x, sq, hx⟩
    subst eP ew eK
    obtain ⟨its, rv, p, _⟩ := I.list sq
    obtain ⟨u, hu, ru⟩ := rv.get hx
    have f := fr it (by simp)
    refine wpAny_pyNext_list_item st p.isList (x := u) (by simpa using hu) fun h1 st1 sb => ?_
    have I1 : Inv X pins σ H { s with heap := h1 } := I.turned (t' := s.toks) (fun b o ne e => (sb.2 b ne).trans e) f.1 f.2.1 f.2.2.2.1 f.2.2.2.2.1 f.2.2.2.2.2
    obtain ⟨o, e, c, d⟩ := id st1
    exact ⟨u, rfl, go_of (s := { s with heap := h1 }) e c d (by decide) ⟨x, H, I1, ru, ⟨rfl, fun ys hy => by rw [I.list_inj hy sq]; exact hx⟩, st1, fun b m => (fr b m).1⟩⟩
  done := by
    intro X eP ew eK hc i pins s σ H E I fr st ⟨xs, sq, hx⟩
    subst eP ew eK
    obtain ⟨its, rv, p, _⟩ := I.list sq
    have f := fr it (by simp)
    obtain ⟨x1, hot, ne⟩ := hot_at hc I f
    have l := rv.length
    exact list_end_hot hot ne st p.isList (by simp; omega) fun h1 eb => ⟨rfl, I.turned (t' := s.toks) (fun b o ne e => eb b o ne e) f.1 f.2.1 f.2.2.2.1 f.2.2.2.2.1 f.2.2.2.2.2⟩
theorem turnH_tup (a it : Addr) : TurnH P w K tg (Itt K a) [it] it (fun i h => h.IsTupleIter it a i) where
  mem := (turn_tuple (P := P) (w := w) (K := K) (tg := tg) a it).mem
  obj := (turn_tuple (P := P) (w := w) (K := K) (tg := tg) a it).obj
  keep := (turn_tuple (P := P) (w := w) (K := K) (tg := tg) a it).keep
  self := (turn_tuple (P := P) (w := w) (K := K) (tg := tg) a it).self
  item := by
    intro X eP ew eK hc i pins s σ H E I fr st ⟨xs, x, sq, hx⟩
    subst eP ew eK
    obtain ⟨its, rv, p, _⟩ := I.tuple sq
    obtain ⟨u, hu, ru⟩ := rv.get hx
    have f := fr it (by simp)
    have p1 : s.heap.IsTuple a its.toArray := p
    refine wpAny_pyNext_tuple_item st p1 (x := u) (by simpa using hu) fun h1 st1 sb => ?_
    have I1 : Inv X pins σ H { s with heap := h1 } := I.turned (t' := s.toks) (fun b o ne e => (sb.2 b ne).trans e) f.1 f.2.1 f.2.2.2.1 f.2.2.2.2.1 f.2.2.2.2.2
    obtain ⟨o, e, c, d⟩ := id st1
    exact ⟨u, rfl, go_of (s := { s with heap := h1 }) e c d (by decide) ⟨x, H, I1, ru, ⟨rfl, fun ys hy => by rw [I.tuple_inj hy sq]; exact hx⟩, st1, fun b m => (fr b m).1⟩⟩
  done := by
    intro X eP ew eK hc i pins s σ H E I fr st ⟨xs, sq, hx⟩
    subst eP ew eK
    obtain ⟨its, rv, p, _⟩ := I.tuple sq
    have f := fr it (by simp)
    obtain ⟨x1, hot, ne⟩ := hot_at hc I f
    have l := rv.length
    have p1 : s.heap.IsTuple a its.toArray := p
    exact tup_end_hot hot ne st p1 (by simp; omega) fun h1 eb => ⟨rfl, I.turned (t' := s.toks) (fun b o ne e => eb b o ne e) f.1 f.2.1 f.2.2.2.1 f.2.2.2.2.1 f.2.2.2.2.2⟩
variable {d : Addr} {o : Obj} {es : Array DictEntry} {ep : Nat}
theorem turnH_keys {kvs : List (Key × V)} (it : Addr) (hod : o.data = .dict es ep) : TurnH P w K tg (Itk d o kvs) [it] it (fun i h => h.IsKeyIter it d i kvs.length ep) where
  mem := (turn_keys (P := P) (w := w) (K := K) (tg := tg) (d := d) (kvs := kvs) it hod).mem
  obj := (turn_keys (P := P) (w := w) (K := K) (tg := tg) (d := d) (kvs := kvs) it hod).obj
  keep := (turn_keys (P := P) (w := w) (K := K) (tg := tg) (d := d) (kvs := kvs) it hod).keep
  self := (turn_keys (P := P) (w := w) (K := K) (tg := tg) (d := d) (kvs := kvs) it hod).self
  item := by
    intro X eP ew eK hc i pins s σ H E I fr st ⟨hd, hi⟩
    subst eP ew eK
    have f := fr it (by simp)
    obtain ⟨_, gd, _, es1, ep1, vs, hdt, hsz, kv, hm⟩ := I.frzK hd
    obtain ⟨rfl, rfl⟩ := dict_ep hod hdt
    obtain ⟨⟨k, v⟩, hkv⟩ : ∃ p, kvs[i]? = some p := ⟨_, List.getElem?_eq_getElem hi⟩
    obtain ⟨u, hu, ru⟩ := kv_get kv hkv
    have el : kvs.length = vs.length := Paired.length kv
    rw [el] at st
    refine wpAny_pyNext_dict_item st hm hu fun key h1 hkey st1 sb => ?_
    have I1 : Inv X pins σ H { s with heap := h1 } := I.turned (t' := s.toks) (fun b ob ne e => (sb.2 b ne).trans e) f.1 f.2.1 f.2.2.2.1 f.2.2.2.2.1 f.2.2.2.2.2
    obtain ⟨oi, e, c, dd⟩ := id st1
    refine ⟨key, rfl, go_of (s := { s with heap := h1 }) e c dd (by decide) ⟨kV k, H, I1, relV_key (show keyIs k key = true from hkey), ⟨rfl, k, v, hkv, rfl⟩, ?_, fun b m => (fr b m).1⟩⟩
    show h1.IsKeyIter it d (i + 1) kvs.length _
    rw [el]
    exact st1
  done := by
    intro X eP ew eK hc i pins s σ H E I fr st ⟨hd, hi⟩
    subst eP ew eK
    have f := fr it (by simp)
    obtain ⟨_, gd, _, es1, ep1, vs, hdt, hsz, kv, hm⟩ := I.frzK hd
    obtain ⟨rfl, rfl⟩ := dict_ep hod hdt
    obtain ⟨x1, hot, ne⟩ := hot_at hc I f
    exact keys_end_hot hot ne st gd hdt hsz hi fun h1 eb => ⟨rfl, I.turned (t' := s.toks) (fun b ob ne e => eb b ob ne e) f.1 f.2.1 f.2.2.2.1 f.2.2.2.2.1 f.2.2.2.2.2⟩
theorem turnH_keysT {kvs : List (List Key × V)} (it : Addr) (hod : o.data = .dict es ep) : TurnH P w K tg (Itkt d o kvs) [it] it (fun i h => h.IsKeyIter it d i kvs.length ep) where
  mem := (turn_keysT (P := P) (w := w) (K := K) (tg := tg) (d := d) (kvs := kvs) it hod).mem
  obj := (turn_keysT (P := P) (w := w) (K := K) (tg := tg) (d := d) (kvs := kvs) it hod).obj
  keep := (turn_keysT (P := P) (w := w) (K := K) (tg := tg) (d := d) (kvs := kvs) it hod).keep
  self := (turn_keysT (P := P) (w := w) (K := K) (tg := tg) (d := d) (kvs := kvs) it hod).self
  item := by
    intro X eP ew eK hc i pins s σ H E I fr st ⟨hd, hi⟩
    subst eP ew eK
    have f := fr it (by simp)
    obtain ⟨_, gd, _, es1, ep1, hdt, hsz, ent⟩ := I.frzT hd
    obtain ⟨rfl, rfl⟩ := dict_ep hod hdt
    obtain ⟨⟨k, v⟩, hkv⟩ : ∃ p, kvs[i]? = some p := ⟨_, List.getElem?_eq_getElem hi⟩
    obtain ⟨en, q, hen, hkey, hq⟩ := ent i k v hkv
    refine next_key_item st gd hdt hsz hen fun h1 st1 sb => ?_
    have I1 : Inv X pins σ H { s with heap := h1 } := I.turned (t' := s.toks) (fun b ob ne e => (sb.2 b ne).trans e) f.1 f.2.1 f.2.2.2.1 f.2.2.2.2.1 f.2.2.2.2.2
    obtain ⟨oi, e, c, dd⟩ := id st1
    exact ⟨en.key, rfl, go_of (s := { s with heap := h1 }) e c dd (by decide) ⟨.ref q, H, I1, hkey, ⟨rfl, k, v, q, hkv, rfl, hq⟩, st1, fun b m => (fr b m).1⟩⟩
  done := by
    intro X eP ew eK hc i pins s σ H E I fr st ⟨hd, hi⟩
    subst eP ew eK
    have f := fr it (by simp)
    obtain ⟨_, gd, _, es1, ep1, hdt, hsz, ent⟩ := I.frzT hd
    obtain ⟨rfl, rfl⟩ := dict_ep hod hdt
    obtain ⟨x1, hot, ne⟩ := hot_at hc I f
    exact keys_end_hot hot ne st gd hdt hsz hi fun h1 eb => ⟨rfl, I.turned (t' := s.toks) (fun b ob ne e => eb b ob ne e) f.1 f.2.1 f.2.2.2.1 f.2.2.2.2.1 f.2.2.2.2.2⟩
end
section
variable {X : Cx} {tg : Expr}
theorem pih_one {pins : List (Addr × Obj)} {σ : L2.St} {H : Hp} {s : Shared} {R : It → Hp → Prop} {J : It} {tn : Nat → Heap → Prop} (I : Inv X pins σ H s) (o : Obj) (T : TurnH X.prog X.w X.K tg J [s.heap.objs.size] s.heap.objs.size tn) (st : tn 0 (s.heap.push o)) (q : R J H) :
    PIEH X pins σ tg R (.ref s.heap.objs.size) { s with heap := s.heap.push o } :=
  ⟨s.heap.objs.size, [s.heap.objs.size], tn, J, H, rfl, I.kept (t' := s.toks) fun b ob e => get_push _ e, T, st, fun b m => by
    obtain rfl : b = s.heap.objs.size := by simpa using m
    exact I.fpOk (Nat.le_refl _) (I.hok.fresh (Nat.le_refl _)), q⟩
theorem pi_anyH {e : Expr} {te : TE} (he : PE X e te) : PIH X tg e (iAny X.K te) := by
  refine ⟨fun pins s σ H R I h => ?_⟩
  rcases h with h | h | h
  · refine thn (he.run pins s σ H _ I h) fun u s1 ⟨x, H1, I1, rx, a, ex, ⟨xs, sq⟩, q⟩ => ?_
    subst ex
    obtain rfl : u = Value.ref a := rx
    obtain ⟨its, rv, p, _⟩ := I1.list sq
    exact wpAny_pyIter_list p.isList (pih_one I1 _ (turnH_list a _) ⟨_, Heap.get?_push_size _ rfl, rfl, rfl⟩ q)
  · refine thn (he.run pins s σ H _ I h) fun u s1 ⟨x, H1, I1, rx, a, ex, ⟨xs, sq⟩, q⟩ => ?_
    subst ex
    obtain rfl : u = Value.ref a := rx
    obtain ⟨its, rv, p, _⟩ := I1.tuple sq
    have p1 : s1.heap.IsTuple a its.toArray := p
    exact wpAny_pyIter_tuple p1 (pih_one I1 _ (turnH_tup a _) ⟨_, Heap.get?_push_size _ rfl, rfl, rfl⟩ q)
  · refine thn (he.run pins s σ H _ I h) fun u s1 ⟨x, H1, I1, rx, d, o, ex, q⟩ => ?_
    subst ex
    obtain rfl : u = Value.ref d := rx
    rcases q with ⟨kvs, hd, q⟩ | ⟨kvs, hd, q⟩
    · obtain ⟨hs, gd, hx, es, ep, vs, hdt, hsz, kv, hm⟩ := I1.frzK hd
      refine iter_keys hs gd hx hdt (pih_one I1 _ (turnH_keys _ hdt) ⟨_, Heap.get?_push_size _ rfl, rfl, ?_⟩ q)
      rw [hsz] <;> rfl
    · obtain ⟨hs, gd, hx, es, ep, hdt, hsz, ent⟩ := I1.frzT hd
      refine iter_keys hs gd hx hdt (pih_one I1 _ (turnH_keysT _ hdt) ⟨_, Heap.get?_push_size _ rfl, rfl, ?_⟩ q)
      rw [hsz] <;> rfl
theorem k_walkH {K : PySem.W.Frag} {e : Expr} {te : TE} (h : X.K = K) (he : PE X e te) : PIH X tg e (iAny K te) := h ▸ pi_anyH he
end
end TU

set_option Elab.async false
set_option linter.all false
set_option maxRecDepth 100000
set_option maxHeartbeats 2000000
namespace TU
open PySem PySem.Spec PySem.Calls PyProof.Rows L2 HotX L2H
/-! ### a dict's keys collected while an exception is handled -/
/-- x1's object is handled, its context is None -/
structure HotO (A : Around) (x1 : Addr) (o1 : Obj) : Prop where
  hd : A.handled = some (.ref x1)
  cx : ∃ vs : Array Value, o1.data = .fields vs ∧ vs[2]? = some .none
section
variable {prog : Program} {w : World} {A : Around} {E : Value → Shared → Prop} {s : Shared} {x1 d : Addr} {o1 : Obj} {kvs : List (Key × Value)} {knd : KeyKind prog w Key} {ep : Nat}
theorem HotO.at (c : HotO A x1 o1) {h : Heap} (g : h.get? x1 = some o1) : HotAt A x1 h := by
  obtain ⟨hd, vs, e1, e2⟩ := c
  exact ⟨hd, o1, vs, g, e1, e2⟩
theorem HotO.in1 (c : HotO A x1 o1) : HotO A.in1 x1 o1 := ⟨c.hd, c.cx⟩
def KeyAt (knd : KeyKind prog w Key) (kvs : List (Key × Value)) (i : Nat) (v : Value) : Prop := ∃ k x, kvs[i]? = some (k, x) ∧ knd.is k v = true
theorem walks_keysH (c : HotO A x1 o1) (I : Addr) (hd : d ≠ I) (hx : x1 ≠ I) : Walks prog w A I [I, d, x1] [I] kvs.length (KeyAt knd kvs) (fun i h => h.IsKeyIter I d i kvs.length ep ∧ h.DictAt knd d kvs ep ∧ h.get? x1 = some o1) where
  sub := fun b m => by
    obtain rfl : b = I := by simpa using m
    simp
  frame := fun i h h1 st kp => ⟨st.1.at fun o e => kp I (by simp) o e, st.2.1.at' fun o e => kp d (by simp) o e, kp x1 (by simp) _ st.2.2⟩
  item := fun i s Q E lt st q => by
    obtain ⟨⟨k, x⟩, hk⟩ : ∃ p, kvs[i]? = some p := ⟨_, List.getElem?_eq_getElem lt⟩
    refine wpAny_pyNext_dict_item st.1 st.2.1 hk fun key h1 is st1 sb => ?_
    exact q key h1 s.toks ⟨k, x, hk, is⟩ ⟨st1, st.2.1.extBut sb.extBut hd, sb.extBut x1 _ hx st.2.2⟩ fun b o nb e => sb.extBut b o (fun z => nb (by simp [z])) e
  done := fun s Q E st q => by
    obtain ⟨od, es, gd, _, dd, _, pr, _⟩ := id st.2.1
    have sz : es.size = kvs.length := by
      have e := pr.length
      rwa [Array.length_toList] at e
    exact keys_end_hot (c.at st.2.2) hx st.1 gd dd sz (Nat.le_refl _) fun h1 eb => q h1 s.toks fun b o nb e => eb b o (fun z => nb (by simp [z])) e
  self := fun _ _ _ _ st q => wpAny_pyIter_keyiter st.1 q
/-- list.extend of an empty list by the dict's keys -/
theorem extend_keysH {R : Result → Shared → Prop} (c : HotO A x1 o1) (hs : (d == sysModules) = false) (hd : s.heap.DictAt knd d kvs ep) (g1 : s.heap.get? x1 = some o1) (S : Addr) (nd : S ≠ d) (n1 : S ≠ x1) (res : Value) (c0 : Nat) (gS : s.heap.get? S = some { cls := .type "list", data := .seq #[] c0 })
    (q : ∀ h1 tk acc c1, (∀ b o, b ≠ S → s.heap.get? b = some o → h1.get? b = some o) → h1.get? S = some { cls := .type "list", dict := none, data := .seq acc c1, slots := #[] } → ItemsOf (KeyAt knd kvs) acc kvs.length → R (.ok (.ret res)) { s with heap := h1, toks := tk }) (few : kvs.length ≤ sizeLine) :
    wpAny (model prog w) A.in1 (Builtin.List.listExtendWith (.ref S) (.ref d) res) (fun fin z => match fin with | .done f => R (.ok f) z | .again c' => c'.quiet = true ∧ codeAny (model prog w) A c' R z) (fun e z => R (.error e) z) s := by
  have hT := hd.dictOf.typeIs
  have lS := Heap.lt_size gS
  have W := walks_keysH (prog := prog) (w := w) (knd := knd) (kvs := kvs) (ep := ep) (d := d) c.in1 s.heap.objs.size (Nat.ne_of_lt hd.lt_size) (Nat.ne_of_lt (Heap.lt_size g1))
  have off : S ∉ [s.heap.objs.size, d, x1] := by
    simp only [List.mem_cons, List.not_mem_nil, or_false, not_or]
    exact ⟨Nat.ne_of_lt lS, nd, n1⟩
  have go : ∀ (h : Heap) (c2 tk : Nat), (h.IsKeyIter s.heap.objs.size d 0 kvs.length ep ∧ h.DictAt knd d kvs ep ∧ h.get? x1 = some o1) → (∀ b o, b ≠ S → s.heap.get? b = some o → h.get? b = some o) →
      h.get? S = some { cls := .type "list", data := .seq #[] c2 } → codeAny (model prog w) A (.builtin "list.extend.loop" ⟨[.ref S, .ref s.heap.objs.size, res], []⟩) R { s with heap := h, toks := tk } := by
    intro h c2 tk st kp gS2
    refine codeAny_extend_loopS W.toS few S off res kvs.length 0 _ #[] c2 rfl (Nat.zero_le _) st gS2 (ItemsOf.nil _) fun z acc c1 mv gz it => ?_
    rw [Moved.eq_with mv]
    refine q z.heap z.toks acc c1 (fun b o nb e => mv.heap b o (fun m => ?_) (kp b o nb e)) gz it
    rcases List.mem_cons.mp m with z1 | m
    · exact nb z1
    · obtain rfl := List.mem_singleton.mp m
      exact Nat.lt_irrefl _ (Heap.lt_size e)
  unfold Builtin.List.listExtendWith
  refine wpAny_bind (wpAny_typeOf (T := "dict") hT ?_)
  have ns : Builtin.List.listSameRef (.ref S) (.ref d) = false := by simp [Builtin.List.listSameRef, nd]
  have t1 : (Value.type "dict" == Value.type "list") = false := by decide
  have t2 : (Value.type "dict" == Value.type "tuple") = false := by decide
  simp only [ns, t1, t2, Bool.or_false, Bool.false_eq_true, if_false]
  refine wpAny_bind (wpAny_pyIter_dict hs hd ?_)
  have kp1 : ∀ (o : Obj) b u, s.heap.get? b = some u → (s.heap.push o).get? b = some u := fun o b u e => get_push _ e
  refine wpAny_bind (wpAny_holding (PySem.W.kdl_hint_dict (hd.push _).dictOf.typeIs ?_))
  have st0 : ∀ h : Heap, h.get? s.heap.objs.size = some { cls := .type "dict_keyiterator", data := .fields #[.ref d, rawInt 0, rawInt kvs.length, rawInt ep] } → (∀ b o, b ≠ S → s.heap.get? b = some o → h.get? b = some o) → h.IsKeyIter s.heap.objs.size d 0 kvs.length ep ∧ h.DictAt knd d kvs ep ∧ h.get? x1 = some o1 :=
    fun h e kp => ⟨⟨_, e, rfl, rfl⟩, hd.at' fun o e => kp d o nd.symm e, kp x1 o1 n1.symm g1⟩
  refine wpAny_ite_split (fun _ => ?_) (fun _ => wpAny_pure ⟨plainId_quiet PySem.F.plain_extend_loop _, go _ c0 _ (st0 _ (Heap.get?_push_size _ rfl) fun b o _ e => kp1 _ b o e) (fun b o _ e => kp1 _ b o e) (kp1 _ _ _ gS)⟩)
  refine wpAny_bind (wpAny_rule ?_)
  refine wpAny_bind ?_
  show wpAny _ _ (updateSeq S (·.push .none) >>= fun _ => updateSeq S (·.pop)) _ _ _
  refine wpAny_bind (wpAny_updateSeq (kp1 _ _ _ gS) rfl ?_)
  have gS2 := Heap.get?_update_self (Obj.mapSeq (·.push Value.none)) (kp1 { cls := .type "dict_keyiterator", data := .fields #[.ref d, rawInt 0, rawInt kvs.length, rawInt ep] } _ _ gS) rfl
  refine wpAny_updateSeq (hz := by seq_fits) gS2 rfl ?_
  have gS3 := Heap.get?_update_self (Obj.mapSeq (·.pop)) gS2 rfl
  have oth : ∀ b o, b ≠ S → (s.heap.push { cls := .type "dict_keyiterator", data := .fields #[.ref d, rawInt 0, rawInt kvs.length, rawInt ep] }).get? b = some o → (((s.heap.push { cls := .type "dict_keyiterator", data := .fields #[.ref d, rawInt 0, rawInt kvs.length, rawInt ep] }).update S (Obj.mapSeq (·.push Value.none))).update S (Obj.mapSeq (·.pop))).get? b = some o := fun b o nb e => (Heap.get?_update_other _ _ (Ne.symm nb)).trans ((Heap.get?_update_other _ _ (Ne.symm nb)).trans e)
  refine wpAny_pure ⟨plainId_quiet PySem.F.plain_extend_loop _, go _ _ _ ?_ ?_ gS3⟩
  · exact st0 _ (oth _ _ (Nat.ne_of_gt lS) (Heap.get?_push_size _ rfl)) fun b o nb e => oth b o nb (kp1 _ b o e)
  · exact fun b o nb e => oth b o nb (kp1 _ b o e)
end
end TU

set_option Elab.async false
set_option linter.all false
set_option maxRecDepth 100000
set_option maxHeartbeats 2000000
namespace TU
open PySem PySem.Spec PySem.Calls PyProof.Rows L2 HotX L2H
section
variable {prog : Program} {w : World} {A : Around} {E : Value → Shared → Prop} {s : Shared} {x1 d : Addr} {o1 : Obj} {kvs : List (Key × Value)} {knd : KeyKind prog w Key} {ep : Nat}
/-- list(d) -/
theorem list_keysH {Q : Value → Shared → Prop} (c : HotO A x1 o1) (hs : (d == sysModules) = false) (hd : s.heap.DictAt knd d kvs ep) (g1 : s.heap.get? x1 = some o1) (few : kvs.length ≤ sizeLine)
    (q : ∀ h1 tk acc c1, (∀ b o, s.heap.get? b = some o → h1.get? b = some o) → h1.get? s.heap.objs.size = some { cls := .type "list", dict := none, data := .seq acc c1, slots := #[] } → ItemsOf (KeyAt knd kvs) acc kvs.length → Q (.ref s.heap.objs.size) { s with heap := h1, toks := tk }) :
    wpAny (model prog w) A (call (.type "list") [.ref d]) Q E s := by
  refine callType_codes (Q₁ := fun ob z => ob = .ref s.heap.objs.size ∧ z = { s with heap := s.heap.push { cls := .type "list", data := .seq #[] } }) PySem.F.called_list (PySem.F.typeCall_list_1 _) PySem.F.entry_list_init (code_list_new _ ⟨rfl, rfl⟩) fun ob z hz => ?_
  obtain ⟨rfl, rfl⟩ := hz
  obtain ⟨S, eS⟩ : ∃ S, S = s.heap.objs.size := ⟨_, rfl⟩
  have gS : (s.heap.push { cls := .type "list", data := .seq #[] }).get? s.heap.objs.size = some { cls := .type "list", data := .seq #[] } := Heap.get?_push_size _ rfl
  have nd : s.heap.objs.size ≠ d := Nat.ne_of_gt hd.lt_size
  have n1 : s.heap.objs.size ≠ x1 := Nat.ne_of_gt (Heap.lt_size g1)
  refine ⟨⟨_, gS, rfl⟩, PySem.F.args_list_init_2 _ _, ?_⟩
  show wpAny _ _ (do let old ← Builtin.List.listItems (.ref s.heap.objs.size); Builtin.List.listUpdate (.ref s.heap.objs.size) (fun _ => #[]); letGo old.toList.reverse; Builtin.List.listExtendWith (.ref s.heap.objs.size) (.ref d) .none) _ _ _
  refine wpAny_bind ?_
  unfold Builtin.List.listItems
  refine wpAny_bind (wpAny_seqItems gS rfl (wpAny_pure ?_))
  show wpAny _ _ (updateSeq s.heap.objs.size (fun _ => #[]) >>= fun _ => letGo (#[] : Array Value).toList.reverse >>= fun _ => Builtin.List.listExtendWith (.ref s.heap.objs.size) (.ref d) .none) _ _ _
  refine wpAny_bind (wpAny_updateSeq gS rfl ?_)
  have gS2 := Heap.get?_update_self (Obj.mapSeq (fun _ => (#[] : Array Value))) gS rfl
  have oth : ∀ b o, b ≠ s.heap.objs.size → s.heap.get? b = some o → ((s.heap.push { cls := .type "list", data := .seq #[] }).update s.heap.objs.size (Obj.mapSeq (fun _ => (#[] : Array Value)))).get? b = some o := fun b o nb e => (Heap.get?_update_other _ _ (Ne.symm nb)).trans (get_push _ e)
  refine wpAny_bind (wpAny_letGo ?_)
  refine extend_keysH (A := A.in1) c.in1 hs (hd.at' fun o e => oth d o nd.symm e) (oth x1 _ n1.symm g1) _ nd n1 .none _ gS2 (fun h1 tk acc c1 kp g it => ?_) few
  exact ⟨rfl, q h1 tk acc c1 (fun b o e => kp b o (Nat.ne_of_lt (Heap.lt_size e)) (oth b o (Nat.ne_of_lt (Heap.lt_size e)) e)) g it⟩
/-- the keys, gathered for sorted -/
theorem gather_keysH {R : List Value → Shared → Prop} (c : HotO A x1 o1) (hs : (d == sysModules) = false) (hd : s.heap.DictAt knd d kvs ep) (g1 : s.heap.get? x1 = some o1) (few : kvs.length ≤ sizeLine)
    (q : ∀ (h1 : Heap) (tk : Nat) (acc : Array Value), (∀ b o, s.heap.get? b = some o → h1.get? b = some o) → ItemsOf (KeyAt knd kvs) acc kvs.length → R acc.toList { s with heap := h1, toks := tk }) : wpAny (model prog w) A (collect (.ref d)) R E s := by
  have nd : s.heap.objs.size ≠ d := Nat.ne_of_gt hd.lt_size
  have n1 : s.heap.objs.size ≠ x1 := Nat.ne_of_gt (Heap.lt_size g1)
  unfold collect
  refine wpAny_bind (wpAny_runValue (codeAny_builtin entry_proto_collect' ?_))
  rw [Around.under_plainId PySem.F.plain_proto_collect _]
  show wpAny _ A.in1 (newList [] >>= fun l => again (.builtin "list.__iadd__" ⟨[l, .ref d], []⟩)) _ _ s
  refine wpAny_bind (wpAny_newObj_type ?_)
  refine wpAny_pure ⟨plainId_quiet PySem.F.plain_list_iadd _, codeAny_builtin entry_list_iadd' ?_⟩
  rw [Around.under_plainId PySem.F.plain_list_iadd _]
  have gS : (s.heap.push { cls := .type "list", data := .seq ([] : List Value).toArray }).get? s.heap.objs.size = some { cls := .type "list", data := .seq #[] } := Heap.get?_push_size _ rfl
  show wpAny _ A.in1 (Builtin.List.listExtendWith (.ref s.heap.objs.size) (.ref d) (.ref s.heap.objs.size)) _ _ _
  have run := extend_keysH (A := A) (s := { s with heap := s.heap.push { cls := .type "list", data := .seq ([] : List Value).toArray } }) (d := d) (kvs := kvs) (knd := knd) (ep := ep)
    (R := fun (r : Result) (z : Shared) => ∃ (h1 : Heap) (tk : Nat) (acc : Array Value) (c1 : Nat), r = .ok (.ret (.ref s.heap.objs.size)) ∧ z = { s with heap := h1, toks := tk } ∧ (∀ b o, s.heap.get? b = some o → h1.get? b = some o) ∧ h1.get? s.heap.objs.size = some { cls := .type "list", dict := none, data := .seq acc c1, slots := #[] } ∧ ItemsOf (KeyAt knd kvs) acc kvs.length)
    c hs (hd.push _) (get_push _ g1) s.heap.objs.size nd n1 (.ref s.heap.objs.size) 0 gS (fun h1 tk acc c1 kp g it => ⟨h1, tk, acc, c1, rfl, rfl, fun b o e => kp b o (Nat.ne_of_lt (Heap.lt_size e)) (get_push _ e), g, it⟩) few
  refine wpAny_mono run (fun fin z x => ?_) fun e z x => ?_
  · cases fin with
    | done f =>
      obtain ⟨h1, tk, acc, c1, e, rfl, kp, g, it⟩ := x
      cases e
      show wpAny _ A (load s.heap.objs.size >>= _) _ _ _
      exact wpAny_bind (wpAny_load g (wpAny_pure (q h1 tk acc kp it)))
    | again cc =>
      refine ⟨x.1, codeAny_mono x.2 fun r z2 y => ?_⟩
      obtain ⟨h1, tk, acc, c1, rfl, rfl, kp, g, it⟩ := y
      show wpAny _ A (load s.heap.objs.size >>= _) _ _ _
      exact wpAny_bind (wpAny_load g (wpAny_pure (q h1 tk acc kp it)))
  · obtain ⟨_, _, _, _, bad, _⟩ := x
    cases bad
end
theorem hot_o {X : Cx} {pins : List (Addr × Obj)} {σ : L2.St} {H : Hp} {s : Shared} (c : HotC X) (I : Inv X pins σ H s) : ∃ x1 o1, HotO X.A x1 o1 ∧ s.heap.get? x1 = some o1 := by
  obtain ⟨p, ⟨hh, v1, e1, c1⟩, hp⟩ := c
  exact ⟨p.1, p.2, ⟨hh, v1, e1, c1⟩, (I.pin p (List.mem_append_left _ hp)).1⟩
section
variable {X : Cx}
theorem call_listDH (c : HotC X) : CallR X (.type "list") (fun xs H Q => ∃ (a : Addr) (kvs : List (Key × V)), xs = [.ref a] ∧ Rd H a (.dK kvs) ∧ ∀ p, H p = none → Q (.ref p) (upd H p (.lst (kvs.map fun kv => kV kv.1)))) := by
  intro pins s σ H xs us Q I r ⟨a, kvs, ex, rd, q⟩
  subst ex
  obtain ⟨u, eu, rx⟩ := vals1 r
  subst eu
  obtain rfl : u = Value.ref a := rx
  obtain ⟨z, lo, vs, rel, dd⟩ := dk_rd I.hok rd
  obtain ⟨ep, hat⟩ := dd.dictAt
  obtain ⟨x1, o1, ho, g1⟩ := hot_o c I
  have same : (kvs.map fun kv => kV kv.1) = vs.map fun p => kV p.1 := by
    have e := congrArg (List.map kV) rel.keys
    rwa [List.map_map, List.map_map] at e
  refine list_keysH ho lo hat g1 (by rw [← rel.length]; exact z) fun h1 tk acc c1 kp g it => ?_
  have rv : Vals (vs.map fun p => kV p.1) acc.toList := keys_at (by rw [Array.length_toList]; exact it.1) fun j v e => it.2 j v (by rw [← Array.getElem?_toList]; exact e)
  have ok : ∀ H1 : Hp, ObjOk X.prog X.w H1 h1 s.heap.objs.size (.lst (kvs.map fun kv => kV kv.1)) := fun H1 => ⟨by rw [List.length_map]; exact z, acc.toList, c1, by rw [same]; exact rv, by rw [Array.toArray_toList]; exact g⟩
  exact ⟨.ref s.heap.objs.size, _, I.laid (t' := tk) kp (Nat.le_refl _) (ok _), rfl, q _ (I.hok.fresh (Nat.le_refl _))⟩
theorem call_sortedDH (c : HotC X) : CallR X (.builtin "sorted") (fun xs H Q => ∃ (a : Addr) (kvs : List (Key × V)) (ks : List Str), xs = [.ref a] ∧ Rd H a (.dK kvs) ∧ kvs.map (·.1) = ks.map Sum.inr ∧ ks.length < 64 ∧
    ∀ ys p, ys.Perm ks → sortedS ys = true → H p = none → Q (.ref p) (upd H p (.lst (ys.map V.str)))) := by
  intro pins s σ H xs us Q I r ⟨a, kvs, ks, ex, rd, hks, few, q⟩
  subst ex
  obtain ⟨u, eu, rx⟩ := vals1 r
  subst eu
  obtain rfl : u = Value.ref a := rx
  obtain ⟨z, lo, vs, rel, dd⟩ := dk_rd I.hok rd
  obtain ⟨ep, hat⟩ := dd.dictAt
  obtain ⟨x1, o1, ho, g1⟩ := hot_o c I
  have texts : vs.map (·.1) = ks.map Sum.inr := rel.keys.symm.trans hks
  have el : vs.length = ks.length := by
    have e := congrArg List.length texts
    rwa [List.length_map, List.length_map] at e
  refine Calls.call_function_entry PyProof.Rows.kind_sorted PyProof.Rows.plain_sorted PyProof.Rows.entry_sorted (PyProof.Rows.args_sorted1 _) ?_
  unfold Builtin.«sorted»
  refine wpAny_bind (m := checkCount "sorted" 1 1 _) (wpAny_pure ?_)
  refine wpAny_bind (gather_keysH (A := X.A.in1) ho.in1 lo hat g1 (by rw [el, sizeLine_eq]; omega) fun h1 tk acc kp it => ?_)
  have al : acc.toList.length = ks.length := by rw [Array.length_toList, it.1, el]
  have tx : StrsAre acc.toList ks := strs_at al fun j v e => by
    obtain ⟨k, x, e1, e2⟩ := it.2 j v (by rw [← Array.getElem?_toList]; exact e)
    have e3 : (vs.map (·.1))[j]? = some k := by rw [List.getElem?_map, e1]; all_goals rfl
    rw [texts, List.getElem?_map] at e3
    cases e4 : ks[j]? with
    | none => rw [e4] at e3; cases e3
    | some y =>
      rw [e4] at e3
      obtain rfl : Sum.inr y = k := Option.some.inj e3
      obtain ⟨t, ev⟩ := Value.isStrOf_shape (x := y) (v := v) e2
      exact ⟨y, t, rfl, ev⟩
  have I1 : Inv X pins σ H { s with heap := h1, toks := tk } := I.kept kp
  refine wpAny_bind (wpAny_newList ?_ (by rw [al, sizeLine_eq]; omega))
  have gL : (h1.push (seqObj "list" acc.toList.toArray 0)).get? h1.objs.size = some (seqObj "list" acc.toList.toArray 0) := Heap.get?_push_size _ rfl
  show wpAny _ _ _ _ _ { s with heap := h1.push (seqObj "list" acc.toList.toArray 0), toks := tk }
  refine wpAny_bind (wpAny_holding (wpAny_call_entry PyProof.Rows.slot_list_sort ⟨_, gL, rfl⟩ PyProof.Rows.entry_list_sort
    (list_sort_treeK strKind_oneLt (s := { s with heap := h1.push (seqObj "list" acc.toList.toArray 0), toks := tk }) gL tx.keysOf (fun v₁ v₂ rest e => keyKind_strs (by rw [← e]; exact tx)) (by rw [al]; exact few) fun st pm so => ⟨_, rfl, ?_⟩) (PyProof.Rows.args_list_sort _)))
  obtain ⟨ys, y1, y2, y3⟩ := sorted_out_str tx pm so
  obtain ⟨e5, h5⟩ := PyProof.Rows.sortedHeap_at (vs := acc.toList) (out := (arrOf st).map (·.2)) gL
  have short : (ys.map V.str).length ≤ sizeLine := by
    rw [List.length_map, y2.length_eq, sizeLine_eq]
    omega
  refine wpAny_pure ⟨_, rfl, .ref h1.objs.size, upd H h1.objs.size (.lst (ys.map V.str)), I1.laid (t' := tk) (fun b u e => ?_) (Nat.le_refl _)
    (show ObjOk X.prog X.w _ _ _ (.lst (ys.map V.str)) from ⟨short, ((arrOf st).map (·.2)).toList, e5, vals_of_strs y1, by rw [Array.toArray_toList]; exact h5⟩), rfl, q ys _ y2 y3 (I1.hok.fresh (Nat.le_refl _))⟩
  have lb : b < h1.objs.size := Heap.lt_size e
  rw [PyProof.Rows.sortedHeap_old (Nat.ne_of_lt lb) (by rw [size_push']; exact Nat.lt_succ_of_lt lb)]
  exact get_push _ e
variable {K : PySem.W.Frag}
theorem k_listH (h : X.K = K) (c : HotC X) : CallR X (.type "list") (rListU K) := h ▸ call_list_of.or (call_listDH c)
theorem k_sortH (h : X.K = K) (c : HotC X) : CallR X (.builtin "sorted") (rSortU K) := h ▸ (call_sortedDH c).or (cr_sortedS.or cr_sortedI)
end
end TU

set_option Elab.async false
set_option linter.all false
set_option maxRecDepth 100000
set_option maxHeartbeats 2000000
namespace TU
open PySem PySem.Spec PyProof.Rows L2 HotX L2H
/-! ### a dict comprehension while an exception is handled -/
/-- a block's context that still holds the handled exception -/
abbrev blkH (X : Cx) (s : Shared) (H : Hp) (scope : Scope) (ce : Env) (fp : List Addr) : Cx := { X with s_0 := s, H_0 := H, env := ce, outer := X.stack, ex := fp, fn := fun x => scope.names.lookup x == some .cell, xe := fun _ _ => False }
section
variable {X : Cx} {pins : List (Addr × Obj)} {σ : L2.St} {H : Hp} {s : Shared}
theorem blkH_start {scope : Scope} {own : List (PySem.Str × Nat)} {fp : List Addr} (I : Inv X pins σ H s) (ok : BlkOk X.N X.env.scope scope own) (hN : X.N.Nodup) (hfp : ∀ b ∈ fp, FpOk X pins H b ∧ b < s.heap.objs.size) :
    Inv (blkH X s H scope (compEnvC scope (cellsFrom (s.heap.objs.size + 1) scope.names (cloFrom X.env.cells scope.names [])) s.heap.objs.size X.env) fp) [] (wipe σ (own.map (·.2))) H { s with heap := pushCells (s.heap.push { cls := .type "dict", data := .dict #[] }) scope.names } := by
  have J := block_start I ok hN hfp
  have o := J.ok
  refine ⟨⟨o.mod, o.kind, o.glob, o.blt, o.above, o.inj, o.has, o.cab, o.hd, o.frames, o.stk, o.exf, o.bs, o.bsz, o.noex, o.exfs, o.funs, o.frf⟩, J.os, J.bare, J.base, J.loc, J.cell, J.free, J.freeC, fun p hp => ?_, J.hok, J.len⟩
  have mp : p ∈ X.pn := by simpa using hp
  obtain ⟨g, n, l, f, c⟩ := I.pin p (List.mem_append_left _ mp)
  have lt := Heap.lt_size g
  refine ⟨pushCells_keeps _ _ _ _ (get_push _ g), n, fun z => ?_, fun m => ?_, c⟩
  · have z : p.1 = s.heap.objs.size := z
    rw [z] at lt
    exact Nat.lt_irrefl _ lt
  · exact (List.mem_cons.mp (I.stkSub _ (show p.1 ∈ frs X.stack from m))).elim l f
end
section
variable {X : Cx} {kx vx tg iter : Expr} {ifs : List Expr} {scope : Scope} {own : List (PySem.Str × Nat)} {pos : Pos} {wi : TI} {g : TG} {tt : TT} {tk tv : TE}
theorem pe_dcH (c : HotC X) (hN : X.N.Nodup) (hi : PIH X tg iter wi) (ok : BlkOk X.N X.env.scope scope own)
    (hg : ∀ (s : Shared) (H : Hp) (C : Addr) (cl : List (PySem.Str × Addr)) (fp : List Addr), PG (blkH X s H scope (compEnvC scope cl C X.env) fp) tg g) (ht : ∀ (s : Shared) (H : Hp) (C : Addr) (cl : List (PySem.Str × Addr)) (fp : List Addr), PTs (blkH X s H scope (compEnvC scope cl C X.env) fp) ifs tt)
    (hk : ∀ (s : Shared) (H : Hp) (C : Addr) (cl : List (PySem.Str × Addr)) (fp : List Addr), PE (blkH X s H scope (compEnvC scope cl C X.env) fp) kx tk) (hv : ∀ (s : Shared) (H : Hp) (C : Addr) (cl : List (PySem.Str × Addr)) (fp : List Addr), PE (blkH X s H scope (compEnvC scope cl C X.env) fp) vx tv)
    (hsx : ∀ x, foldedSetIterable iter X.env x = pure x := by intro _; rfl) : PE X (.DictComp kx vx [⟨tg, iter, ifs, 0⟩] scope pos) (tDc wi g tt tk tv (own.map (·.2))) := by
  refine ⟨fun pins s σ H Q I h => ?_⟩
  rw [arm_eval_DictComp]
  have free : ∀ y ∈ scope.names, y.2 = .free → ∃ c, X.env.cells.lookup y.1 = some c := fun y m e => (ok.free y m e).elim (fun k => I.ok.has _ (.inl k)) fun k => I.ok.has _ (.inr k)
  refine comp_val rfl hsx (closure_ok free) ok.kind (fun y m e => by rw [ok.uniq y m, e]) (thn (hi.run pins s σ H _ I h) fun xv z1 hx => thn hx fun itv z2 h2 => ?_)
  obtain ⟨it, fp, tn, J, H2, rfl, I2, T, t2, k2, q⟩ := h2
  refine wpAny_newObj_type (newEnv_comp ?_)
  obtain ⟨D, hD⟩ : ∃ D, D = z2.heap.objs.size := ⟨_, rfl⟩
  have hn : H2 D = none := I2.hok.fresh (Nat.le_of_eq hD.symm)
  obtain ⟨Wi, ⟨m0, w0⟩, turn⟩ := q D hn
  have old2 : ∀ b o, z2.heap.get? b = some o → (z2.heap.push { cls := .type "dict", data := .dict #[] }).get? b = some o := fun b o e => get_push _ e
  have I3 : Inv X pins σ (upd H2 D (.dK [])) { z2 with heap := z2.heap.push { cls := .type "dict", data := .dict #[] } } := by
    rw [hD]
    exact I2.laid (t' := z2.toks) old2 (Nat.le_refl _) (dk_empty z2.heap I2.big)
  obtain ⟨z3, hz3⟩ : ∃ z3 : Shared, z3 = { z2 with heap := z2.heap.push { cls := .type "dict", data := .dict #[] } } := ⟨_, rfl⟩
  rw [← hz3] at I3
  have e3 : z3.heap = z2.heap.push { cls := .type "dict", data := .dict #[] } := by rw [hz3]
  have k3 : ∀ b ∈ fp, FpOk X pins (upd H2 D (.dK [])) b ∧ b < z3.heap.objs.size := fun b m => by
    obtain ⟨o, eo, _⟩ := T.obj _ _ t2 b m
    have lt := Heap.lt_size eo
    refine ⟨⟨?_, (k2 b m).2⟩, by rw [e3, Heap.size_push]; exact Nat.lt_succ_of_lt lt⟩
    rw [upd_ne (by rw [hD]; exact Nat.ne_of_lt lt)]
    exact (k2 b m).1
  have t3 : tn 0 z3.heap := T.keep _ _ _ t2 fun b _ o e => by rw [e3]; exact old2 b o e
  have I4 := blkH_start I3 ok hN k3
  obtain ⟨ce, hce⟩ : ∃ ce, ce = compEnvC scope (cellsFrom (z3.heap.objs.size + 1) scope.names (cloFrom X.env.cells scope.names [])) z3.heap.objs.size X.env := ⟨_, rfl⟩
  have pg := hg z3 (upd H2 D (.dK [])) z3.heap.objs.size (cellsFrom (z3.heap.objs.size + 1) scope.names (cloFrom X.env.cells scope.names [])) fp
  have pt := ht z3 (upd H2 D (.dK [])) z3.heap.objs.size (cellsFrom (z3.heap.objs.size + 1) scope.names (cloFrom X.env.cells scope.names [])) fp
  have pk := hk z3 (upd H2 D (.dK [])) z3.heap.objs.size (cellsFrom (z3.heap.objs.size + 1) scope.names (cloFrom X.env.cells scope.names [])) fp
  have pv := hv z3 (upd H2 D (.dK [])) z3.heap.objs.size (cellsFrom (z3.heap.objs.size + 1) scope.names (cloFrom X.env.cells scope.names [])) fp
  show codeAny _ _ (.compStart (.DictComp kx vx [⟨tg, iter, ifs, 0⟩] scope pos) 0 (.ref it) (.ref z2.heap.objs.size) _) _ { ({ z2 with heap := z2.heap.push { cls := .type "dict", data := .dict #[] } } : Shared) with heap := pushCells ((z2.heap.push { cls := .type "dict", data := .dict #[] }).push { cls := .type "dict", data := .dict #[] }) scope.names }
  rw [← hD]
  have ez : ({ ({ z2 with heap := z2.heap.push { cls := .type "dict", data := .dict #[] } } : Shared) with heap := pushCells ((z2.heap.push { cls := .type "dict", data := .dict #[] }).push { cls := .type "dict", data := .dict #[] }) scope.names } : Shared) = { z3 with heap := pushCells (z3.heap.push { cls := .type "dict", data := .dict #[] }) scope.names } := by rw [hz3]
  have ecc : (compEnvC scope (cellsFrom ((z2.heap.push { cls := .type "dict", data := .dict #[] }).objs.size + 1) scope.names (cloFrom X.env.cells scope.names [])) (z2.heap.push { cls := .type "dict", data := .dict #[] }).objs.size X.env) = ce := by rw [hce, e3]
  rw [ez]
  show codeAny _ _ (.compStart (.DictComp kx vx [⟨tg, iter, ifs, 0⟩] scope pos) 0 (.ref it) (.ref D) (compEnvC scope (cellsFrom ((z2.heap.push { cls := .type "dict", data := .dict #[] }).objs.size + 1) scope.names (cloFrom X.env.cells scope.names [])) (z2.heap.push { cls := .type "dict", data := .dict #[] }).objs.size X.env)) (cPost (model X.prog X.w) X.A X.xe (EP X pins σ Q) (.ref D) (compEnvC scope (cellsFrom ((z2.heap.push { cls := .type "dict", data := .dict #[] }).objs.size + 1) scope.names (cloFrom X.env.cells scope.names [])) (z2.heap.push { cls := .type "dict", data := .dict #[] }).objs.size X.env)) _
  rw [ecc]
  rw [← hce] at I4 pg pt pk pv
  have eL : ce.locals = z3.heap.objs.size := by rw [hce]; rfl
  have no3 : ∀ b ∈ fp, (upd H2 D (.dK [])) b = none := fun b m => (k3 b m).1.1
  generalize upd H2 D (.dK []) = H3 at I3 I4 pg pt pk pv w0 no3 k3
  obtain ⟨z4, hz4⟩ : ∃ z4 : Shared, z4 = { z3 with heap := pushCells (z3.heap.push { cls := .type "dict", data := .dict #[] }) scope.names } := ⟨_, rfl⟩
  rw [← hz4] at I4 ⊢
  have t4 : tn 0 z4.heap := T.keep _ _ _ t3 fun b _ o e => by rw [hz4]; exact pushCells_keeps _ _ _ _ (get_push _ e)
  have cB : HotC (blkH X z3 H3 scope ce fp) := c
  have stat : ∀ {σ' : L2.St} {H' : Hp} {z : Shared}, Inv (blkH X z3 H3 scope ce fp) [] σ' H' z → (∀ b ∈ fp, H' b = none) → ∀ b ∈ fp, FpOk (blkH X z3 H3 scope ce fp) [] H' b := fun {σ' H' z} J n b m =>
    ⟨n b m, (J.ok.exf b m).1, J.ok.exfs b m, .inl m, fun x c e => (J.ok.exf b m).2 x c e, fun p hp => (k3 b m).1.2.2.2.2.2 p (List.mem_append_left _ (by simpa using (show p ∈ X.pn ++ ([] : List (Addr × Obj)) from hp)))⟩
  have loop : codeAny (model X.prog X.w) X.A (.compLoop (.DictComp kx vx [⟨tg, iter, ifs, 0⟩] scope pos) 0 (.ref it) (.ref D) ce) (cPost (model X.prog X.w) X.A X.xe (EP X pins σ Q) (.ref D) ce) z4 := by
    refine compLoop_anyD (fun n z => ∃ i H', Inv (blkH X z3 H3 scope ce fp) [] (wipe σ (own.map (·.2))) H' z ∧ tn i z.heap ∧ (∀ b ∈ fp, H' b = none) ∧ Wi i n H') ?_ m0 ⟨0, H3, I4, t4, no3, w0⟩
    rintro n z5 ⟨i, H5, I5, t5, n5, w5⟩
    rcases turn i n H5 w5 with ⟨stop, qq⟩ | ⟨go, Nx, hNx, step⟩
    · refine thnF (T.done (blkH X z3 H3 scope ce fp) rfl rfl rfl cB i [] z5 _ H5 (fun _ _ => False) I5 (stat I5 n5) t5 stop) fun r z6 ⟨hr, I6⟩ => ?_
      rw [hr]
      have home : Inv X pins σ H5 z6 := I3.call' (ch := fp) I6.os I6.base I6.hok I6.bare fun b m => ⟨(k3 b m).1.2.2.2.1, (k3 b m).1.2.1, (k3 b m).1.2.2.2.2.1, (k3 b m).1.2.2.2.2.2⟩
      obtain ⟨f0, f1, f2, f3, f4, f5⟩ : FpOk X pins H5 ce.locals := by rw [eL]; exact I3.fpOk (Nat.le_refl _) (by rw [← eL]; exact I6.free)
      obtain ⟨m, hm, _⟩ := I6.loc
      exact ⟨m, hm, fun h' sb => ⟨.ref D, H5, home.turned (t' := z6.toks) (fun b o ne e => (sb.2 b ne).trans e) f0 f1 f3 f4 f5, rfl, qq⟩⟩
    · refine thnF (T.item (blkH X z3 H3 scope ce fp) rfl rfl rfl cB i [] z5 _ H5 (fun _ _ => False) I5 (stat I5 n5) t5 go) fun r z6 ⟨u, hr, h6⟩ => ?_
      rw [hr]
      refine thnF h6 fun _ z7 ⟨x, H7, I7, r7, y7, t7, n7⟩ => ?_
      have P7 := I7.pinned (stat I7 n7) (T.obj _ _ t7)
      refine thnF (pg.run _ z7 _ H7 x u _ P7 r7 (step x H7 y7)) fun _ z8 ⟨σ8, H8, I8, w8, q8⟩ => ?_
      refine thnF (pt.run _ z8 σ8 H8 _ I8 q8) fun b z9 ⟨H9, I9, q9⟩ => ?_
      have next : ∀ {z : Shared} {H' : Hp}, Inv (blkH X z3 H3 scope ce fp) ([] ++ pinsAt fp z7.heap) σ8 H' z → Nx H' → ∃ m, m < n ∧ ∃ i H', Inv (blkH X z3 H3 scope ce fp) [] (wipe σ (own.map (·.2))) H' z ∧ tn i z.heap ∧ (∀ b ∈ fp, H' b = none) ∧ Wi i m H' := fun {z H'} J nx => by
        obtain ⟨m', lt, wm⟩ := hNx H' nx
        have pin : ∀ b ∈ fp, ∀ o, z7.heap.get? b = some o → z.heap.get? b = some o ∧ H' b = none := fun b m o e => ⟨(J.pin (b, o) (List.mem_append_right _ (List.mem_append_right _ (mem_pinsAt m e)))).1, (J.pin (b, o) (List.mem_append_right _ (List.mem_append_right _ (mem_pinsAt m e)))).2.1⟩
        refine ⟨m', lt, i + 1, H', (J.unpinned (pins := [])).weak (by rw [← w8, wipe_length]) (fun j v e => (wipe_some (by rw [w8]; exact e)).1), T.keep _ _ _ t7 fun b m o e => (pin b m o e).1, fun b m => ?_, wm⟩
        obtain ⟨o, e, _⟩ := T.obj _ _ t7 b m
        exact (pin b m o e).2
      cases b with
      | false => exact next I9 q9
      | true =>
        refine thnF (pk.run _ z9 σ8 H9 _ I9 q9) fun u1 z10 ⟨y1, H10, I10, r10, q10⟩ => ?_
        refine thnF (pv.run _ z10 σ8 H10 _ I10 q10) fun u2 z11 ⟨y2, H11, I11, r11, kvs, k, ek, g11, few, nx⟩ => ?_
        subst ek
        exact d_dictSet (X := blkH X z3 H3 scope ce fp) I11 g11 few r10 r11 fun z12 I12 => next I12 nx
  exact codeAny_compStart_dict loop (T.self X.A 0 _ _ _ t4 loop)
end
end TU

set_option Elab.async false
set_option linter.all false
set_option maxRecDepth 100000
namespace TU
open PySem PySem.Spec PyProof.Rows L2
/-! ### own errors without fields -/
structure X0 (K : PySem.W.Frag) (mg : Str → Option Value) (x : Str) (C : Addr) : Prop where
  q : ∃ (B newId initId : String) (bmB : List Value), ExcBaseFacts B newId initId bmB ∧ PySem.W.excIn K C bmB newId = true
  ex : PySem.W.subIn K (.ref C) (.type "BaseException") = some true
  ty : PySem.W.typeIn K (.ref C) = some (.type "type")
  kp : PySem.W.keepIn K (.ref C) = true
  g : mg x = some (.ref C)
  te : PySem.W.exmOne K (.ref C) (.ref C) = some true
section
variable {X : Cx} {C : Addr} {x : Str} {p pos : Pos}
/-- x() is made, to be raised -/
theorem pmk_x0 (T : X0 X.K X.mg x C) (hg : Gl X x := by rfl) (hdb : (x == ("__debug__" : Str)) = false := by decide) : PMk X (.Call (.Name x p) [] [] pos) (fun _ H Q => Q (.ref C) none H) := by
  intro pins s σ H Q I h
  obtain ⟨B, newId, initId, bmB, F, q⟩ := T.q
  refine wpAny_Call_Name_kw (ld_glob I hg T.g ?_ hdb)
  refine PySem.W.callWith_K0 I.kIn T.kp ?_
  show wpAny _ _ (call (.ref C) []) _ _ _
  obtain ⟨bm, N, nm, qn, bs, hdct, sn, sub, ab, col, dd, k0, k1, k2, k3, k5, mN, hC, hN, hni, tl⟩ := exc_obj I.kIn q
  exact wpAny_call_exc_subT F tl hC hN hni (fun h' e hm => mk_of I hm (raises_own T.ex T.ty) h (I.hok.gone hm.new)) (by size_fits)
def tRz0 (C : Addr) (W : WX) : TS := fun _ σ H => W (.ref C) none σ H
theorem ps_rz0 {W : WX} {pos2 : Pos} (hc : X.calm = true) (T : X0 X.K X.mg x C) (tk : Takes X W) (hg : Gl X x := by rfl) (hdb : (x == ("__debug__" : Str)) = false := by decide) : PS X (.Raise (some (.Call (.Name x p) [] [] pos)) none pos2) (tRz0 C W) := ps_raise hc tk (pmk_x0 T hg hdb)
end
theorem x0_mk {K : PySem.W.Frag} {h : Heap} {mg : Str → Option Value} {x : Str} {C : Addr} {B newId initId : String} {bmB : List Value} (X : K.In h) (G : h.Ns mainGlobals mg) (aC : PySem.W.nsIn K mainGlobals x = some (some (.ref C))) (F : ExcBaseFacts B newId initId bmB)
    (q : PySem.W.excIn K C bmB newId = true) (eC : PySem.W.subIn K (.ref C) (.type "BaseException") = some true) (tC : PySem.W.typeIn K (.ref C) = some (.type "type")) (kC : PySem.W.keepIn K (.ref C) = true) (iC : PySem.W.isClsIn K C = true)
    (sC : PySem.W.subIn K (.ref C) (.ref C) = some true) : X0 K mg x C :=
  ⟨⟨B, newId, initId, bmB, F, q⟩, eC, tC, kC, PySem.W.mg_of X G aC, exm_me eC iC tC sC⟩
end TU

set_option Elab.async false
set_option linter.all false
set_option maxRecDepth 100000
namespace TU
open PySem PySem.Spec PyProof.Rows L2 L2H
/-! ### defs called while an exception is handled -/
structure DfH (P : Program) (w : World) (K : PySem.W.Frag) (mg : Str → Option Value) (base : Heap) (x : Str) (ps : List Str) (k : Nat) (sp : Sp) : Prop where
  ex : ∃ f fd, FnH P w K mg base (L2.CX P w) k f fd ps sp ∧ mg x = some (.ref f) ∧ PySem.W.keepIn K (.ref f) = true ∧ Binds K fd ps []
structure DmH (P : Program) (w : World) (K : PySem.W.Frag) (mg : Str → Option Value) (base : Heap) (C : Addr) (m : Str) (ps : List Str) (k : Nat) (sp : Sp) : Prop where
  ex : ∃ f fd, FnH P w K mg base (L2.CX P w) k f fd ps sp ∧ Meth K C m f ∧ Binds K fd ps []
section
variable {P : Program} {w : World} {K : PySem.W.Frag} {mg : Str → Option Value} {base : Heap}
theorem okH {x qual : Str} {st : Stmt} {f : Addr} {fd : FuncData} {N ps : List Str} {k : Nat} {sp : Sp} (F : Fun K x qual st f fd) (S : FnScope N ps (defScope st)) (len : ∀ vs H Q E, sp vs H Q E → vs.length = ps.length)
    (hbody : ∀ (cdv : Value) (A : Around) (outer : List Env) (s : Shared) (H : Hp) (vs : List V) (Q : VK) (E : XK) (p : Addr × Obj), Hot1 A p → RoomH k (A.deeper (envOfC qual (defScope st) s.heap.objs.size f cdv)) → sp vs H Q E →
      ∃ t, PSs (cxH (L2.CX P w) P w K mg base N qual (defScope st) f cdv A outer s H E p) (defBody st) t ∧ t { nx := fun _ H' => Q .non H', rt := Q } (L2.start N vs) H) : FnH P w K mg base (L2.CX P w) (k + 1) f fd ps sp := by
  obtain ⟨oc, od, kV, doc, pm, an, cdv, ct, osl, rfl, lk, hcd⟩ := F.ex
  exact fn_ofH lk hcd S len fun A outer s H vs Q E p hot hr h => hbody cdv A outer s H vs Q E p hot hr h
theorem TopF.dfH {x : Str} {st : Stmt} {N ps : List Str} {k : Nat} {sp : Sp} (F : TopF K mg x st ps) (S : FnScope N ps (defScope st)) (len : ∀ vs H Q E, sp vs H Q E → vs.length = ps.length)
    (hbody : ∀ (f : Addr) (cdv : Value) (A : Around) (outer : List Env) (s : Shared) (H : Hp) (vs : List V) (Q : VK) (E : XK) (p : Addr × Obj), RoomH k (A.deeper (envOfC x (defScope st) s.heap.objs.size f cdv)) → HotC (cxH (L2.CX P w) P w K mg base N x (defScope st) f cdv A outer s H E p) → sp vs H Q E →
      ∃ t, PSs (cxH (L2.CX P w) P w K mg base N x (defScope st) f cdv A outer s H E p) (defBody st) t ∧ t { nx := fun _ H' => Q .non H', rt := Q } (L2.start N vs) H) : DfH P w K mg base x ps (k + 1) sp := by
  obtain ⟨f, fd, F0, hm, hb⟩ := F.ex
  exact ⟨f, fd, okH F0 S len fun cdv A outer s H vs Q E p hot hr h => hbody f cdv A outer s H vs Q E p hr ⟨p, hot, List.mem_cons_self⟩ h, hm, F0.kp, hb⟩
theorem TopM.dmH {C : Addr} {m qual : Str} {st : Stmt} {N ps : List Str} {k : Nat} {sp : Sp} (F : TopM K C m qual st ps) (S : FnScope N ps (defScope st)) (len : ∀ vs H Q E, sp vs H Q E → vs.length = ps.length)
    (hbody : ∀ (f : Addr) (cdv : Value) (A : Around) (outer : List Env) (s : Shared) (H : Hp) (vs : List V) (Q : VK) (E : XK) (p : Addr × Obj), RoomH k (A.deeper (envOfC qual (defScope st) s.heap.objs.size f cdv)) → HotC (cxH (L2.CX P w) P w K mg base N qual (defScope st) f cdv A outer s H E p) → sp vs H Q E →
      ∃ t, PSs (cxH (L2.CX P w) P w K mg base N qual (defScope st) f cdv A outer s H E p) (defBody st) t ∧ t { nx := fun _ H' => Q .non H', rt := Q } (L2.start N vs) H) : DmH P w K mg base C m ps (k + 1) sp := by
  obtain ⟨f, fd, F0, hm, hb⟩ := F.ex
  exact ⟨f, fd, okH F0 S len fun cdv A outer s H vs Q E p hot hr h => hbody f cdv A outer s H vs Q E p hr ⟨p, hot, List.mem_cons_self⟩ h, hm, hb⟩
end
theorem _root_.L2H.RoomH.units {k : Nat} {A : Around} (r : RoomH k A) : A.units + 64 < cLine := by have := r.un; omega
theorem roomS {k : Nat} {A : Around} (v : Option Value) (r : Room k A) : RoomH k (A.mark v) := ⟨r.dp, r.un⟩
/-- an except suite holds its exception -/
theorem suiteHot {X : Cx} {a : Addr} {oe : Obj} {cls : Value} {d : Option Addr} {pn : List (Addr × Obj)} (z : L2N.Zn cls d oe) (f : ∃ vs, oe.data = .fields vs) : HotC (X.suite a ((a, oe) :: pn)) := by
  obtain ⟨vs, e⟩ := f
  exact ⟨(a, oe), ⟨rfl, vs, e, z.2.2 vs e⟩, List.mem_cons_self⟩
section
variable {X : Cx} {C : Addr} {m x : Str} {k : Nat} {ps fs : List Str} {sp : Sp} {o e : Expr} {es : List Expr} {ta : TE} {t : TA} {pos apos p : Pos} {E : L2.St → XK}
theorem pe_dfH (F : DfH X.prog X.w X.K X.mg X.base x ps k sp) (hr : RoomH k X.A) (hc : HotC X) (ha : PA X (e :: es) t) (hg : Gl X x := by rfl) (hdb : (x == ("__debug__" : Str)) = false := by decide)
    (he : starEach (e :: es) X.env = (false, eval e X.env) :: starEach es X.env := by rfl) (hpl : (backTo pos (starEach es X.env)).any (·.1) = false := by rfl) : PE X (.Call (.Name x p) (e :: es) [] pos) (tCallS sp (fun _ => E0) t) := by
  obtain ⟨f, fd, F0, hm, hk, hb⟩ := F.ex
  exact pe_callH F0 hr hc hg hm hk hb (fun _ _ s s' e' H' I h => passL _ _ _ _ _ _ I h) ha hdb he hpl
theorem pe_dmH {pl : Sem Bool} (he : PE X o ta) (c : Kl X.K X.mg x C fs) (F : DmH X.prog X.w X.K X.mg X.base C m ps k sp) (hr : RoomH k X.A) (hc : HotC X) (ha : PA X (e :: es) t)
    (hst : starEach (e :: es) X.env = (false, eval e X.env) :: starEach es X.env := by rfl) (hpl : (backTo pos (starEach es X.env)).any (·.1) = false := by rfl)
    (ht : eval (.Call (.Attribute o m apos) (e :: es) [] pos) X.env = (do
      let ov ← eval o X.env
      standAt apos.atName
      let (f, first) ← holding [ov] (getMethod ov m pl)
      callWith pos f first (backTo pos (starEach (e :: es) X.env)) (backToKw pos (keywordEach [] X.env))) := by rfl) : PE X (.Call (.Attribute o m apos) (e :: es) [] pos) (tMethX C m sp (fun _ => E0) ta t) := by
  obtain ⟨f, fd, F0, hm, hb⟩ := F.ex
  exact pe_methH (pl := pl) he c.cl hm F0 hr hc hb (fun _ _ s s' e' H' I h => passL _ _ _ _ _ _ I h) ha hst hpl ht
theorem pe_dmH0 {pl : Sem Bool} (he : PE X o ta) (c : Kl X.K X.mg x C fs) (F : DmH X.prog X.w X.K X.mg X.base C m ps k sp) (hr : RoomH k X.A) (hc : HotC X)
    (ht : eval (.Call (.Attribute o m apos) [] [] pos) X.env = (do
      let ov ← eval o X.env
      standAt apos.atName
      let (f, first) ← holding [ov] (getMethod ov m pl)
      callWith pos f first (backTo pos (starEach [] X.env)) (backToKw pos (keywordEach [] X.env))) := by rfl) : PE X (.Call (.Attribute o m apos) [] [] pos) (tMethX C m sp (fun _ => E0) ta tNil) := by
  obtain ⟨f, fd, F0, hm, hb⟩ := F.ex
  refine ⟨fun pins s σ H Q I h => PySem.W.methodCall_KW (pl := pl) (thn (he.run pins s σ H _ I h) fun u s1 ⟨x, H1, I1, rx, a, dx, fs, ex, ea, l, q⟩ => ?_) ht⟩
  subst ex
  cases (show u = Value.ref a from rx)
  exact getmeth_ok I1 ea c.cl hm l (PySem.W.callWith_K0 (first := [.ref a]) I1.kIn hm.kp (run_fnH (us := [.ref a]) (vs := [.ref a]) (E := fun _ => E0) F0 hr hc hb (fun _ s s' e' H' I h => passL _ _ _ _ _ _ I h) I1 (.cons rfl .nil) q))
theorem pe_dmN {pl : Sem Bool} (he : PE X o ta) (c : Kl X.K X.mg x C fs) (F : DmN X.prog X.w X.K X.mg X.base C m ps k sp) (hr : Room k X.A) (hx : ∀ σ, PassesAt (L2N.CX X.prog X.w) X σ (E σ)) (ha : PA X (e :: es) t)
    (hst : starEach (e :: es) X.env = (false, eval e X.env) :: starEach es X.env := by rfl) (hpl : (backTo pos (starEach es X.env)).any (·.1) = false := by rfl)
    (ht : eval (.Call (.Attribute o m apos) (e :: es) [] pos) X.env = (do
      let ov ← eval o X.env
      standAt apos.atName
      let (f, first) ← holding [ov] (getMethod ov m pl)
      callWith pos f first (backTo pos (starEach (e :: es) X.env)) (backToKw pos (keywordEach [] X.env))) := by rfl) : PE X (.Call (.Attribute o m apos) (e :: es) [] pos) (tMethX C m sp E ta t) := by
  obtain ⟨f, fd, F0, hm, hb⟩ := F.ex
  refine ⟨fun pins s σ H Q I h => PySem.W.methodCall_KW (pl := pl) (thn (he.run pins s σ H _ I h) fun u s1 ⟨x, H1, I1, rx, a, dx, fs, ex, ea, l, q⟩ => ?_) ht⟩
  subst ex
  cases (show u = Value.ref a from rx)
  refine getmeth_ok I1 ea c.cl hm l (PySem.W.callWith_K (first := [.ref a]) (h₀ := X.base) I.ok.mod.kin hm.kp (thn (ha.run pos pins s1 σ H1 _ I1 q) fun us s2 ⟨vs, H2, I2, r, q2⟩ => ⟨I2.kIn, ?_⟩) hst hpl)
  exact run_fnS (us := .ref a :: us) (vs := .ref a :: vs) F0 hr hb (hx σ) I2 (.cons rfl r) q2
end
end TU

set_option Elab.async false
set_option linter.all false
set_option maxRecDepth 100000
namespace TU
open PySem PySem.Spec PyProof.Rows L2 L2H
theorem sky_imp {B h : Heap} {l : List Env} {a L : Addr} {Z Z' : Obj → Prop} (z : ∀ o, Z o → Z' o) (x : Sky B l a Z L h) : Sky B l a Z' L h := by
  rcases x with ⟨x1, x2, x3, oe, vs, x4, x5, x6⟩ | x | x
  · exact .inl ⟨x1, x2, x3, oe, vs, x4, z _ x5, x6⟩
  · obtain ⟨y1, y2, y3, y4⟩ := x
    exact .inr (.inl ⟨y1, y2, y3, tracedZ_imp z y4⟩)
  · obtain ⟨y1, y2, y3, y4⟩ := x
    exact .inr (.inr ⟨y1, y2, y3, tracedZ_imp z y4⟩)
/-- what takes any error takes one whose context is None -/
theorem takes_N {X : Cx} {W : WX} (tk : Takes X W) : L2N.Takes X W := fun u s' ⟨a, B, sI, pins, σ, H, cls, d, e, I, nb, up, sky, r⟩ => tk u s' ⟨a, B, sI, pins, σ, H, cls, d, e, I, nb, up, sky_imp (fun o z => z.zc) sky, r⟩
theorem pe_never {X : Cx} {e : Expr} : PE X e (fun _ _ _ => False) := ⟨fun _ _ _ _ _ _ h => h.elim⟩
end TU

set_option Elab.async false
set_option linter.all false
set_option maxRecDepth 100000
namespace TU
open PySem PySem.Spec PyProof.Rows L2 RT
/-! ### list(reversed(t)), t a tuple -/
theorem rt_nolen : typeLookup (.type "reversed") "__len__" = pure none := by rw [typeLookup_type, builtinLookup_eq_fast]; kernel_rfl
theorem rt_hints : typeLookup (.type "reversed") "__length_hint__" = pure (some (.builtin "reversed.__length_hint__")) := by rw [typeLookup_type, builtinLookup_eq_fast]; kernel_rfl
section
variable {prog : Program} {w : World} {A : Around} {E : Value → Shared → Prop} {s : Shared} {it t : Addr} {items : Array Value}
theorem walks_rt (hh : A.handled = none) (hne : t ≠ it) (hz : items.size ≤ sizeLine) : Walks prog w A it [it, t] [it] items.size (fun i v => items[items.size - 1 - i]? = some v) (fun i h => i ≤ items.size ∧ IsRt h it t ((items.size : Int) - 1 - (i : Nat)) ∧ IsTup h t items) where
  sub := fun b hb => by simp at hb; simp [hb]
  frame := fun _ _ _ st hk => ⟨st.1, st.2.1.at fun o e => hk it (by simp) o e, by
    obtain ⟨o, e, r⟩ := st.2.2
    exact ⟨o, hk t (by simp) o e, r⟩⟩
  item := fun i s Q E hi st hQ => by
    have hj : items.size - 1 - i < items.size := by omega
    have hx := Array.getElem?_eq_getElem hj
    have h1 := st.2.1
    rw [show (items.size : Int) - 1 - ((i : Nat) : Int) = ((items.size - 1 - i : Nat) : Int) by omega] at h1
    refine next_rt_item h1 st.2.2 hx hz fun h' st' sb => ?_
    refine hQ _ h' (s.toks + 1) hx ⟨hi, ?_, ?_⟩ fun b o hb e => (sb.2 b (fun z => hb (by simp [z]))).trans e
    · rw [show (items.size : Int) - 1 - ((i + 1 : Nat) : Int) = ((items.size - 1 - i : Nat) : Int) - 1 by omega]
      exact st'
    · obtain ⟨o, e, r⟩ := st.2.2
      exact ⟨o, (sb.2 t hne).trans e, r⟩
  done := fun s Q E st hQ => by
    have h1 := st.2.1
    rw [show (items.size : Int) - 1 - ((items.size : Nat) : Int) = -1 by omega] at h1
    exact next_rt_end hh h1 fun h' eb => hQ h' s.toks fun b o hb e => eb b o (fun z => hb (by simp [z])) e
  self := fun _ _ _ _ st hQ => iter_rt st.2.1 hQ
theorem rt_hslot : Slot "reversed" "__length_hint__" "reversed.__length_hint__" := .of (owner := "reversed") (n := "__length_hint__") (by rw [typeLookup_type, builtinLookup_eq_fast]; kernel_rfl) (by decide +kernel) (by decide +kernel) (by decide +kernel) (by first | exact .inl (by decide +kernel) | exact .inr (by decide +kernel)) (by rw [isSubtype_type]; kernel_rfl)
theorem rt_hentry : entryFor table "reversed.__length_hint__" = some Builtin.«reversed.__length_hint__» := entryFor_of_tree (by kernel_rfl)
theorem rt_hargs (a : Value) : argsOk "reversed.__length_hint__" ⟨[a], []⟩ := by
  unfold argsOk; rw [signature?_of (id := "reversed.__length_hint__") (n := ['_', '_', 't', 'n', 'i', 'h', '_', 'h', 't', 'g', 'n', 'e', 'l', '_', '_']) (o := ['d', 'e', 's', 'r', 'e', 'v', 'e', 'r']) (by kernel_rfl) owner_rt]; kernel_rfl
theorem rt_hint (hit : IsRt s.heap it t ((items.size : Int) - 1)) (ht : IsTup s.heap t items) (hz : items.size ≤ sizeLine) {Q : Bool → Shared → Prop} (h : ∀ b tk, Q b { s with toks := tk }) : wpAny (model prog w) A (Builtin.List.listLengthHint (.ref it)) Q E s := by
  have hT := IsRt.typeIs (s := s) hit
  obtain ⟨o, ho, hc, hd⟩ := id hit
  have hn := line63
  unfold Builtin.List.listLengthHint; refine wpAny_bind (wpAny_specialOf hT rt_nolen ?_)
  show wpAny (model prog w) A (specialOf (Value.ref it) (Str.ofString "__length_hint__") >>= _) _ _ s; refine wpAny_bind (wpAny_specialOf hT rt_hints ?_)
  generalize hid : ("reversed.__length_hint__" : String) = id0; wp_delta
  rw [show splitId id0 = some ("reversed", "__length_hint__") from by subst hid; decide +kernel]; subst hid
  refine wpAny_bind (wpAny_isInstance (b := true) hT (by rw [isSubtype_type]; kernel_rfl) ?_)
  refine wpAny_ite_split (fun z => absurd z (by decide)) (fun _ => ?_)
  refine wpAny_ite_split (fun z => absurd z (by decide +kernel)) (fun _ => ?_)
  refine wpAny_bind (wpAny_rule ?_)
  refine wpAny_bind (wpAny_of_eq (rt_hslot.bind _) ?_)
  refine wpAny_bind (wpAny_attempt (wpAny_call_entry rt_hslot hT rt_hentry ?_ (rt_hargs _)))
  unfold Builtin.«reversed.__length_hint__»
  refine wpAny_bind (wpAny_of_eq (a := Value.ref it) rfl ?_)
  refine wpAny_bind (wpAny_field ho hd (x := .ref t) rfl ?_)
  rw [if_neg (show ¬ ((Value.ref t == Value.none) = true) from by simp)]
  refine wpAny_bind (len_tuple ht (by omega) ?_)
  refine wpAny_bind (wpAny_of_eq (a := some ((items.size : Nat) : Int)) rfl ?_)
  try dsimp only
  refine wpAny_bind (wpAny_field (s := { s with toks := s.toks + 1 + 1 }) ho hd (x := rawInt ((items.size : Int) - 1)) rfl ?_)
  show wpAny (model prog w) A.in1 (if ((items.size : Nat) : Int) < (items.size : Int) - 1 + 1 then _ else _) _ _ _
  rw [if_neg (by omega)]
  refine wpAny_bind (wpAny_mkInt ?_)
  refine wpAny_pure ⟨_, rfl, ?_⟩
  try dsimp only
  refine wpAny_bind (wpAny_of_eq (a := some ((items.size : Int) - 1 + 1)) rfl ?_)
  try dsimp only
  refine wpAny_ite_split (fun z => ?_) (fun _ => ?_)
  · exfalso
    have e : Builtin.List.listFitsIndex ((items.size : Int) - 1 + 1) = true := by
      unfold Builtin.List.listFitsIndex
      rw [Bool.and_eq_true, decide_eq_true_eq, decide_eq_true_eq]
      omega
    rw [e] at z
    cases z
  refine wpAny_ite_split (fun z => absurd z (by omega)) (fun _ => ?_)
  refine wpAny_ite_split (fun z => ?_) (fun _ => wpAny_pure (h _ _))
  exfalso
  have e : Builtin.List.listTooLong ((items.size : Int) - 1 + 1).toNat = false := decide_eq_false (by omega)
  rw [e] at z
  cases z
theorem rt_extend {R : Result → Shared → Prop} (hh : A.handled = none) (hit : IsRt s.heap it t ((items.size : Int) - 1)) (ht : IsTup s.heap t items) (hne : t ≠ it) (hn : items.size ≤ sizeLine) (S : Addr) (hSi : S ≠ it) (hSt : S ≠ t) (res : Value) (c : Nat) (hS : s.heap.get? S = some { cls := .type "list", data := .seq #[] c })
    (hR : ∀ h' tk acc' c', (∀ b o, b ≠ S → b ≠ it → s.heap.get? b = some o → h'.get? b = some o) → h'.get? S = some { cls := .type "list", dict := none, data := .seq acc' c', slots := #[] } → ItemsOf (fun i v => items[items.size - 1 - i]? = some v) acc' items.size → R (.ok (.ret res)) { s with heap := h', toks := tk }) :
    wpAny (model prog w) A.in1 (Builtin.List.listExtendWith (.ref S) (.ref it) res) (fun fin s' => match fin with | .done f => R (.ok f) s' | .again c' => c'.quiet = true ∧ codeAny (model prog w) A c' R s') (fun e s' => R (.error e) s') s := by
  have Wk := (walks_rt (prog := prog) (w := w) (A := A.in1) (it := it) (t := t) (items := items) hh hne hn).toS
  have hSf : S ∉ [it, t] := by simp only [List.mem_cons, List.not_mem_nil, or_false, not_or]; exact ⟨hSi, hSt⟩
  have hT := IsRt.typeIs (s := s) hit
  have h1 : Builtin.List.listSameRef (.ref S) (.ref it) = false := by simp [Builtin.List.listSameRef, hSi]
  unfold Builtin.List.listExtendWith; refine wpAny_bind (wpAny_typeOf hT ?_)
  rw [if_neg (by rw [h1]; decide)]
  refine wpAny_bind (iter_rt hit ?_); refine wpAny_bind (wpAny_holding (rt_hint hit ht hn fun room tk0 => ?_))
  have e0 : ((items.size : Nat) : Int) - 1 - ((0 : Nat) : Int) = (items.size : Int) - 1 := by omega
  have key : ∀ (h : Heap) (c1 tk : Nat), (∀ b o, b ≠ S → s.heap.get? b = some o → h.get? b = some o) → h.get? S = some { cls := .type "list", data := .seq #[] c1 } → codeAny (model prog w) A (.builtin "list.extend.loop" ⟨[.ref S, .ref it, res], []⟩) R { s with heap := h, toks := tk } := by
    intro h c1 tk hk hS1
    obtain ⟨ot, het, rt⟩ := ht
    refine codeAny_extend_loopS Wk hn S hSf res items.size 0 { s with heap := h, toks := tk } #[] c1 rfl (Nat.zero_le _) ⟨Nat.zero_le _, by rw [e0]; exact hit.at fun o e => hk it o hSi.symm e, ⟨ot, hk t ot hSt.symm het, rt⟩⟩ hS1 (ItemsOf.nil _) fun s' acc' c' hm hS' hacc => ?_
    rw [Moved.eq_with hm]
    refine hR s'.heap s'.toks acc' c' (fun b o hb hb2 e => hm.heap b o (fun hmem => ?_) (hk b o hb e)) hS' hacc
    rcases List.mem_cons.mp hmem with e' | hmem
    · exact hb e'
    · exact hb2 (List.mem_singleton.mp hmem)
  have quiet := plainId_quiet PySem.F.plain_extend_loop
  refine wpAny_ite_split (fun _ => ?_) (fun _ => wpAny_pure ⟨quiet _, key _ c tk0 (fun b o _ e => e) hS⟩)
  refine wpAny_bind (wpAny_rule ?_); refine wpAny_bind ?_
  show wpAny (model prog w) A.in1 (updateSeq S (·.push .none) >>= fun _ => updateSeq S (·.pop)) _ _ _
  refine wpAny_bind (wpAny_updateSeq hS rfl ?_)
  have hS2 := Heap.get?_update_self (Obj.mapSeq (·.push Value.none)) hS rfl; refine wpAny_updateSeq (hz := by seq_fits) hS2 rfl ?_
  have hS3 := Heap.get?_update_self (Obj.mapSeq (·.pop)) hS2 rfl
  exact wpAny_pure ⟨quiet _, key _ _ tk0 (fun b o hb e => (Heap.get?_update_other _ _ (Ne.symm hb)).trans ((Heap.get?_update_other _ _ (Ne.symm hb)).trans e)) hS3⟩
theorem rt_init {R : Result → Shared → Prop} (hh : A.handled = none) (hit : IsRt s.heap it t ((items.size : Int) - 1)) (ht : IsTup s.heap t items) (hne : t ≠ it) (hn : items.size ≤ sizeLine) (S : Addr) (hSi : S ≠ it) (hSt : S ≠ t) (hS : s.heap.get? S = some { cls := .type "list", data := .seq #[] })
    (hR : ∀ h' tk acc' c', (∀ b o, b ≠ S → b ≠ it → s.heap.get? b = some o → h'.get? b = some o) → h'.get? S = some { cls := .type "list", dict := none, data := .seq acc' c', slots := #[] } → ItemsOf (fun i v => items[items.size - 1 - i]? = some v) acc' items.size → R (.ok (.ret .none)) { s with heap := h', toks := tk }) :
    wpAny (model prog w) A.in1 (Builtin.«list.__init__» ⟨[.ref S, .ref it], []⟩) (fun fin s' => match fin with | .done f => R (.ok f) s' | .again c' => c'.quiet = true ∧ codeAny (model prog w) A c' R s') (fun e s' => R (.error e) s') s := by
  show wpAny (model prog w) A.in1 (do let old ← Builtin.List.listItems (.ref S); Builtin.List.listUpdate (.ref S) (fun _ => #[]); letGo old.toList.reverse; Builtin.List.listExtendWith (.ref S) (.ref it) .none) _ _ s
  refine wpAny_bind ?_; unfold Builtin.List.listItems; refine wpAny_bind (wpAny_seqItems hS rfl (wpAny_pure ?_))
  show wpAny (model prog w) A.in1 (updateSeq S (fun _ => #[]) >>= fun _ => letGo (#[] : Array Value).toList.reverse >>= fun _ => Builtin.List.listExtendWith (.ref S) (.ref it) .none) _ _ s
  refine wpAny_bind (wpAny_updateSeq hS rfl ?_)
  have hS2 := Heap.get?_update_self (Obj.mapSeq (fun _ => (#[] : Array Value))) hS rfl
  have oth : ∀ b o, b ≠ S → s.heap.get? b = some o → (s.heap.update S (Obj.mapSeq (fun _ => (#[] : Array Value)))).get? b = some o := fun b o hb e => (Heap.get?_update_other _ _ (Ne.symm hb)).trans e
  refine wpAny_bind (wpAny_letGo ?_)
  obtain ⟨o, e, r⟩ := ht
  refine rt_extend hh (hit.at fun o e => oth it o hSi.symm e) ⟨o, oth t o hSt.symm e, r⟩ hne hn S hSi hSt .none _ hS2 (fun h' tk acc' c' hk hS' hacc => ?_)
  exact hR h' tk acc' c' (fun b o hb hb2 e => hk b o hb hb2 (oth b o hb e)) hS' hacc
theorem rt_call {Q : Value → Shared → Prop} (hh : A.handled = none) (hit : IsRt s.heap it t ((items.size : Int) - 1)) (ht : IsTup s.heap t items) (hne : t ≠ it) (hn : items.size ≤ sizeLine)
    (hQ : ∀ h' tk acc' c', (∀ b o, b ≠ it → s.heap.get? b = some o → h'.get? b = some o) → h'.get? s.heap.objs.size = some { cls := .type "list", dict := none, data := .seq acc' c', slots := #[] } → ItemsOf (fun i v => items[items.size - 1 - i]? = some v) acc' items.size → Q (.ref s.heap.objs.size) { s with heap := h', toks := tk }) :
    wpAny (model prog w) A (call (.type "list") [.ref it]) Q E s := by
  refine callType_codes (Q₁ := fun obj z => obj = .ref s.heap.objs.size ∧ z = { s with heap := s.heap.push { cls := .type "list", data := .seq #[] } }) PySem.F.called_list (PySem.F.typeCall_list_1 _) PySem.F.entry_list_init (code_list_new _ ⟨rfl, rfl⟩) fun obj z hz => ?_
  obtain ⟨rfl, rfl⟩ := hz
  have hS : (s.heap.push { cls := .type "list", data := .seq #[] }).get? s.heap.objs.size = some { cls := .type "list", data := .seq #[] } := Heap.get?_push_size _ rfl
  obtain ⟨oi, hoi, _⟩ := id hit
  obtain ⟨o, e, r⟩ := ht
  refine ⟨⟨_, hS, rfl⟩, PySem.F.args_list_init_2 _ _, rt_init (A := A.in1) hh (hit.at fun o e => Heap.get?_push_of_some _ e) ⟨o, Heap.get?_push_of_some _ e, r⟩ hne hn _ (Nat.ne_of_gt (Heap.lt_size hoi)) (Nat.ne_of_gt (Heap.lt_size e)) hS (fun h' tk acc' c' hk hS' hacc => ?_)⟩
  exact ⟨rfl, hQ h' tk acc' c' (fun b o hb e => hk b o (Nat.ne_of_lt (Heap.lt_size e)) hb (Heap.get?_push_of_some _ e)) hS' hacc⟩
end
def tLstRev (K : PySem.W.Frag) (te : TE) : TE := fun σ H Q => te σ H fun v H1 => ∃ (a : Addr) (xs : List V), v = .ref a ∧ SqT K H1 a xs ∧ ∀ q, H1 q = none → Q (.ref q) (upd H1 q (.lst xs.reverse))
theorem pe_lstRev {X : Cx} {e : Expr} {te : TE} {p p2 pos pos2 : Pos} (hc : X.calm = true) (hg : Gl X "list") (hm : X.mg "list" = none) (hg2 : Gl X "reversed") (hm2 : X.mg "reversed" = none) (he : PE X e te)
    (hs : starEach [e] X.env = (false, eval e X.env) :: starEach [] X.env := by rfl)
    (hs2 : starEach [.Call (.Name "reversed" p2) [e] [] pos2] X.env = (false, eval (.Call (.Name "reversed" p2) [e] [] pos2) X.env) :: starEach [] X.env := by rfl) :
    PE X (.Call (.Name "list" p) [.Call (.Name "reversed" p2) [e] [] pos2] [] pos) (tLstRev X.K te) := by
  refine ⟨fun pins s σ H Q I h => ?_⟩
  refine Call_ (ld_blt I hg hm (show bootBuiltins "list" = some (.type "list") by decide +kernel) (callWith_type1 (args_cons (Call_ (ld_blt I hg2 hm2 boot_reversed (callWith_type1 (args_cons (thn (he.run pins s σ H _ I h) fun u s1 ⟨v, H1, I1, r1, q1⟩ => args_nil ?_) hs) hs rfl))) hs2) hs2 rfl))
  obtain ⟨a, xs, ev, hq, q⟩ := q1
  subst ev
  obtain rfl : u = Value.ref a := r1
  obtain ⟨its, rv, p', hz⟩ := I1.tuple hq
  have hl := rv.length
  have hn := line63
  refine call_reversed_tup p' (fun A E Q k => len_tuple p' (by simp only [List.size_toArray] <;> omega) k) (args_nil ?_)
  have k0 : ∀ b o, s1.heap.get? b = some o → (s1.heap.push (rtObj a ((its.toArray.size : Int) - 1))).get? b = some o := fun b o e => Heap.get?_push_of_some _ e
  have I2 : Inv X pins σ H1 { s1 with heap := s1.heap.push (rtObj a ((its.toArray.size : Int) - 1)), toks := s1.toks + 1 + 1 } := I1.kept (t' := s1.toks + 1 + 1) k0
  have fp := I1.fpOk (H' := H1) (b := s1.heap.objs.size) (Nat.le_refl _) (I1.hok.fresh (Nat.le_refl _))
  obtain ⟨ot, hot, rt⟩ := p'
  have hne : a ≠ s1.heap.objs.size := Nat.ne_of_lt (Heap.lt_size hot)
  have hn2 : its.toArray.size ≤ sizeLine := by rw [List.size_toArray, ← hl]; exact hz
  refine rt_call (s := { s1 with heap := s1.heap.push (rtObj a ((its.toArray.size : Int) - 1)), toks := s1.toks + 1 + 1 }) (I1.ok.hd hc) ⟨_, Heap.get?_push_size _ rfl, rfl, rfl⟩ ⟨ot, k0 _ _ hot, rt⟩ hne hn2 fun h' tk acc' c' hk e hi => ?_
  have rr := vals_rev rv hi
  have nz : s1.heap.objs.size ≤ (s1.heap.push (rtObj a ((its.toArray.size : Int) - 1))).objs.size := by rw [Heap.size_push]; exact Nat.le_succ _
  have hz2 : xs.reverse.length ≤ sizeLine := by rw [List.length_reverse]; exact hz
  exact ⟨.ref _, upd H1 _ (.lst xs.reverse), I2.turnedNew (t' := tk) (ch := [s1.heap.objs.size]) (fun b o hb e => hk b o (fun z => hb (by simp [z])) e) (fun b hb => by rw [List.mem_singleton.mp hb]; exact fp) (Nat.le_refl _) (show ObjOk X.prog X.w _ _ _ (.lst xs.reverse) from ⟨hz2, acc'.toList, c', rr, by rw [Array.toArray_toList]; exact e⟩), rfl, q _ (I1.hok.fresh nz)⟩
end TU

set_option Elab.async false
set_option linter.all false
set_option maxRecDepth 100000
namespace TU
open PySem PySem.Spec PyProof.Rows L2
theorem exm_no {K : PySem.W.Frag} {C B : Addr} (h1 : PySem.W.subIn K (.ref B) (.type "BaseException") = some true) (h2 : PySem.W.isClsIn K B = true) (h3 : PySem.W.typeIn K (.ref B) = some (.type "type")) (h4 : PySem.W.subIn K (.ref C) (.ref B) = some false) :
    PySem.W.exmOne K (.ref C) (.ref B) = some false := by
  have c1 : (PySem.W.clsIn K B).isSome = true := h2
  have c3 : (PySem.W.subIn K (.ref B) (.type "BaseException") == some true) = true := by
    rw [h1]
    rfl
  unfold PySem.W.exmOne
  rw [if_pos c3]
  show (if ((PySem.W.clsIn K B).isSome && PySem.W.typeIn K (.ref B) == some (.type "type")) = true then PySem.W.subIn K (.ref C) (.ref B) else none) = some false
  rw [c1, h3, if_pos (by rfl), h4]
/-! ### several clauses, each with its name -/
abbrev HdL := List (Nat × Value × (Addr → Value → Option Addr → TS))
def wManyA (K : PySem.W.Frag) (Wout : WX) (D : Ends) : HdL → WX
  | [] => Wout
  | (i, c, ts) :: r => wAs K c i ts (wManyA K Wout D r) D
inductive HdsA (X : Cx) : List ExceptHandler → HdL → Prop
  | nil : HdsA X [] []
  | cons {x n : Str} {i : Nat} {c : Value} {ts : Addr → Value → Option Addr → TS} {b0 : Stmt} {suite : List Stmt} {np pos' : Pos} {hds : List ExceptHandler} {l : HdL} (hi : X.N[i]? = some n) (hln : X.env.kindOf n = some .local) (hc : Names X x c)
      (hsu : ∀ (a : Addr) (oe : Obj) (cls : Value) (d : Option Addr) (pn : List (Addr × Obj)), Zc cls d oe → (∃ vs, oe.data = .fields vs) → PSs (X.suite a ((a, oe) :: pn)) (b0 :: suite) (ts a cls d)) (r : HdsA X hds l) :
      HdsA X (.ExceptHandler (some (.Name x np)) (some n) (b0 :: suite) pos' :: hds) ((i, c, ts) :: l)
section
variable {X : Cx} {body : List Stmt} {h0 : ExceptHandler} {hds : List ExceptHandler} {l : HdL} {pos : Pos} {tb : WX → TS} {Wout : WX}
theorem ps_try_manyA (hs : X.stack = X.env :: X.outer) (hf : X.env.frame = some X.env.locals) (hN : X.N.Nodup) (tk : Takes X Wout)
    (hb : ∀ (W : WX) (pn : List (Addr × Obj)) (xe : Value → Shared → Prop), Takes (X.tr pn xe) W → PassesOwn (model X.prog X.w) X.A X.env xe → PSs (X.tr pn xe) body (tb W))
    (hh : HdsA X (h0 :: hds) l) : PS X (.Try body (h0 :: hds) [] [] pos) (fun D σ H => tb (wManyA X.K Wout D l) D σ H) := by
  refine ⟨fun pins s σ H D I h => ?_⟩
  have ok := I.ok
  have hfr : X.A.frames = some (X.env :: X.outer) := by rw [ok.frames, hs]
  refine wpAny_Try_except (wpAny_mono ((hb (wManyA X.K Wout D l) (X.pn ++ pins) (fun e z1 => wpAny (model X.prog X.w) X.A (noteFrame e X.env) (fun _ z2 => wpAny (model X.prog X.w) X.A (setFlight e none) (fun _ z3 =>
    wpAny (model X.prog X.w) X.A (handleBy e X.env (h0 :: hds)) (L2.SP X pins D) X.xe z3) X.xe z2) X.xe z1) (fun u sq xx => ?_) PassesOwn.looking).run [] s σ H D (I.toTry _) h) (fun f z1 hsp => ?_) (fun e z1 he => he))
  · obtain ⟨a, B, sI, pins2, σ2, H2, cls, d, rfl, J0, nb, up, sky, na, os, ag, wsh⟩ := xx
    have J : Inv X pins σ2 H2 sI := J0.ofTry ok
    have sky2 : Sky B (X.env :: X.outer) a (Zc cls d) X.env.locals sq.heap := by rw [← hs]; exact sky
    show wpAny (model X.prog X.w) X.A (noteFrame (.ref a) X.env) _ _ sq; refine Sky.land Zc.steady hfr hf sky2 fun h3 fl3 up3 => ?_
    have J3 : Inv X pins σ2 H2 { sq with heap := h3 } := J.landed nb fl3.1 (up.trans up3) os ag
    obtain ⟨oe3, vs3, he3, hz3, hd3⟩ := fl3.there
    have nfr : a ∉ frs (X.env :: X.outer) := fun hm => by
      obtain ⟨_, o2, e2, hnf⟩ := fl3.2.2.1.mem hm
      rw [he3] at e2
      cases e2
      exact hnf _ hd3
    have nL : a ≠ X.env.locals := fun z => nfr (List.mem_filterMap.mpr ⟨X.env, List.mem_cons_self, by rw [hf, z]⟩)
    have nF : a ∉ X.fs := fun hm => by
      obtain ⟨e, he, q⟩ := List.mem_filterMap.mp hm
      exact nfr (List.mem_filterMap.mpr ⟨e, List.mem_cons_of_mem _ he, q⟩)
    have S3 := J3.suite he3 hd3 na nL nF
    have go : ∀ {hds2 : List ExceptHandler} {l2 : HdL}, HdsA X hds2 l2 → wManyA X.K Wout D l2 cls d σ2 H2 → wpAny (model X.prog X.w) X.A (handleBy (.ref a) X.env hds2) (L2.SP X pins D) X.xe { sq with heap := h3 } := by
      intro hds2 l2 hk
      induction hk with
      | nil =>
        intro wsh
        refine wpAny_handleBy_nil ?_
        obtain ⟨k1, k2, k3, oe, vs, T, oT, ts2, he, hz, hd, h1, hr⟩ := id fl3
        unfold PySem.passOn; refine wpAny_bind (wpAny_field he hd h1 ?_)
        rw [if_neg (show ¬ ((Value.ref T == Value.none) = true) from by simp)]
        have fin : wpAny (model X.prog X.w) X.A (setFlight (.ref a) X.env.frame) (fun _ z4 => wpAny (model X.prog X.w) X.A (throw (.ref a) : Sem Flow) (L2.SP X pins D) X.xe z4) X.xe { sq with heap := h3 } := by
          rw [hf]
          exact HandSPX.setFlight_upZ fl3 fun h4 hh4 up4 => wpAny_throw (tk _ _ ⟨a, B, sI, pins, σ2, H2, cls, d, rfl, J, nb, (up.trans up3).trans up4, .inr (.inr (by rw [hs]; exact hh4)), na, os, ag, wsh⟩)
        first
          | exact wpAny_bind (wpAny_pure (wpAny_bind fin))
          | exact wpAny_bind fin
      | @cons x n i c ts b0 suite np pos2 hds3 l3 hi hln hc hsu r ih =>
        intro wsh
        obtain ⟨b, hb1, hyes, hno⟩ := wsh
        have hloc : Loc X.env.scope n := .inl hln
        refine wpAny_handleBy_cons (codeAny_handlers_test ?_) (by intro q; cases q)
        have LM := PySem.W.exm_one (M := model X.prog X.w) (J3.kIn) (fun A Q E z k q => wpAny_typeOf_ref (k _ _ he3) (by rw [hz3.1]; exact q)) hb1
        have test : ∀ {Q : Value → Shared → Prop} {E : Value → Shared → Prop}, Q c { sq with heap := h3 } → wpAny (model X.prog X.w) (X.A.mark (some (.ref a))) (eval (.Name x np) X.env) Q E { sq with heap := h3 } := fun {Q E} q => by
          obtain ⟨hg, hdbg, hm | ⟨hm, hv, hnn⟩⟩ := hc
          · exact ld_glob (X := X.suite a ((a, oe3) :: (X.pn ++ pins))) S3 hg hm q hdbg
          · exact ld_blt (X := X.suite a ((a, oe3) :: (X.pn ++ pins))) S3 hg hm hv q hnn hdbg
        refine test (LM.here ?_)
        cases b with
        | true =>
          refine codeAny_handlers_suite_as (HandSPX.lands_againZ fl3 fun h4 fl4 up4 => ?_)
          have J4 : Inv X pins σ2 H2 { sq with heap := h4 } := J.landed nb fl4.1 ((up.trans up3).trans up4) os ag
          obtain ⟨oe4, vs4, he4, hz4, hd4⟩ := fl4.there
          refine store_ok (X := X.suite a ((a, oe4) :: (X.pn ++ pins))) (v := .ref a) (J4.suite he4 hd4 na nL nF) hN hi hloc rfl (fun z5 S5 => ?_) (.inr hln)
          refine wpAny_mono ((hsu a oe4 cls d (X.pn ++ pins) hz4 ⟨_, hd4⟩).run [] z5 _ H2 _ S5 (hyes rfl a na)) (fun f z6 hsp => ?_) (fun _ _ z => False.elim z)
          have fin : ∀ {σ6 : L2.St} {H6 : Hp} {Q : Shared → Prop}, Inv (X.suite a ((a, oe4) :: (X.pn ++ pins))) [] σ6 H6 z6 → (∀ z7, Inv X pins (σ6.set i none) H6 z7 → Q z7) →
              wpAny (model X.prog X.w) X.A (do bindName X.env n .none; unbindBehindTheSuite X.env n pos2) (fun _ z7 => Q z7) X.xe z6 := fun {σ6 H6 Q} S6 hq => gone_ok (S6.unsuite ok) hN hi hln hq
          cases f with
          | next => obtain ⟨σ6, H6, S6, q6⟩ := hsp; exact fin S6 fun z7 J7 => ⟨_, _, J7, q6⟩
          | brk => obtain ⟨σ6, H6, S6, q6⟩ := hsp; exact fin S6 fun z7 J7 => ⟨_, _, J7, q6⟩
          | cont => obtain ⟨σ6, H6, S6, q6⟩ := hsp; exact fin S6 fun z7 J7 => ⟨_, _, J7, q6⟩
          | ret u => obtain ⟨v6, σ6, H6, S6, r6, q6⟩ := hsp; exact fin S6 fun z7 J7 => ⟨_, _, _, J7, r6, q6⟩
        | false => exact ih (hno rfl)
    exact go hh wsh
  · cases f with
    | next => obtain ⟨σ2, H2, J2, q⟩ := hsp; exact wpAny_execs_nil ⟨σ2, H2, J2.ofTry ok, q⟩
    | brk => obtain ⟨σ2, H2, J2, q⟩ := hsp; exact ⟨σ2, H2, J2.ofTry ok, q⟩
    | cont => obtain ⟨σ2, H2, J2, q⟩ := hsp; exact ⟨σ2, H2, J2.ofTry ok, q⟩
    | ret u => obtain ⟨v, σ2, H2, J2, r, q⟩ := hsp; exact ⟨v, σ2, H2, J2.ofTry ok, r, q⟩
end
/-! ### max(xs, default=d) of ints -/
def rMaxD (K : PySem.W.Frag) : List V → List V → Hp → VK → Prop := fun xs zs H Q => ∃ (a : Addr) (ns : List Int) (d : V), xs = [.ref a] ∧ zs = [d] ∧ SqL K H a (ns.map V.int) ∧ ((ns = [] ∧ Q d H) ∨ ∃ y ys, ns = y :: ys ∧ Q (.int (PySem.W.maxOf y ys)) H)
theorem reads_ints0 {h : Heap} : ∀ {ns : List Int} {us : List Value}, Vals (ns.map V.int) us → ReadsAll h us (ns.map PyData.int) []
  | [], _, r => by
    cases r
    exact .nil
  | n :: ns, _, r => by
    cases r with
    | cons a b =>
      obtain ⟨t, rfl⟩ := a
      exact ReadsAll.cons (as := []) (bs := []) (Reads.int n t) (reads_ints0 b)
theorem cr_maxD {X : Cx} (hc : X.calm = true) (hu : X.A.units + 64 < cLine) : CallRK X (.builtin "max") [Str.ofString "default"] (rMaxD X.K) := by
  intro pins s σ H vs zs us ws Q I r rz h
  obtain ⟨a, ns, d, rfl, rfl, hs, q⟩ := h
  obtain rfl := Vals.ref1 r
  obtain ⟨w1, rfl, e1⟩ := vals1 rz
  obtain ⟨its, rv, p', hz⟩ := I.list hs
  refine PySem.W.max_list_datum_default (α := Int) (xs := ns) (I.ok.hd hc) p'.isList ⟨[], (show ReadsAll s.heap its.toArray.toList (ns.map PyData.int) [] from reads_ints0 (h := s.heap) rv)⟩ (show X.A.units + 1 + 0 < cLine by omega) (fun e h' tk k => ?_) (fun y ys i v h' tk e hi hv k => ?_)
  · rcases q with ⟨_, q⟩ | ⟨y, ys, e2, _⟩
    · exact ⟨d, H, I.kept (t' := tk) k, e1, q⟩
    · rw [e] at e2
      cases e2
  · rcases q with ⟨e2, _⟩ | ⟨y2, ys2, e2, q⟩
    · rw [e] at e2
      cases e2
    · rw [e] at e2
      cases e2
      obtain ⟨as, rd⟩ := hv
      have : ∃ t, v = .int (PySem.W.maxOf y ys) t := by
        cases rd with
        | int i t => exact ⟨t, rfl⟩
      exact ⟨.int _, H, I.kept (t' := tk) k, this, q⟩
/-! ### loops over what is known item by item -/
section
variable {K : PySem.W.Frag} {H : Hp} {D : Ends} {σ : L2.St}
def runF (G : Hp → Prop) (g : TG) (tb : TS) (D : Ends) : List V → L2.St → Hp → Prop
  | [] => D.nx
  | x :: r => fun σ H => g x σ H fun σ2 H2 => tb { D with nx := fun σ' H' => G H' ∧ runF G g tb D r σ' H', ct := fun σ' H' => G H' ∧ runF G g tb D r σ' H', bk := D.nx } σ2 H2
theorem run_at {G : Hp → Prop} {g : TG} {tb : TS} {J : It} {xs : List V} (w : Walk J xs.length G (YAt xs)) (h0 : G H) (h : runF G g tb D xs σ H) : forB J g tb D σ H := by
  refine for_any w (fun i σ H => G H ∧ runF G g tb D (xs.drop i) σ H) ⟨h0, by rw [List.drop_zero]; exact h⟩ (fun i σ H _ p => p.1) (fun i x σ H H' hi p y => ?_) (fun σ H p => ?_)
  · obtain ⟨e, y⟩ := y
    subst e
    have e2 : xs.drop i = x :: xs.drop (i + 1) := by
      rw [← List.getElem_cons_drop hi]
      rw [List.getElem?_eq_getElem hi] at y
      cases y
      rfl
    have p2 := p.2
    rw [e2] at p2
    exact p2
  · have p2 := p.2
    rw [List.drop_length] at p2
    exact p2
end
/-! ### zip of two tuples -/
section
variable {K : PySem.W.Frag} {a b : Addr} {xs ys : List V}
theorem walk_zipT {n : Nat} (hn : n = min xs.length ys.length) : Walk (RZ.ItzT K a b) n (fun H => SqT K H a xs ∧ SqT K H b ys) (YPair (fun i => xs[i]?) (fun i => ys[i]?)) := by
  subst hn
  refine ⟨fun i _ hi q => ?_, fun _ q => ⟨xs, ys, q.1, q.2, by omega⟩, fun i H v H' _ q y => ?_⟩
  · have h1 : i < xs.length := by omega
    have h2 : i < ys.length := by omega
    exact ⟨xs, ys, xs[i], ys[i], q.1, q.2, by simp [h1], by simp [h2]⟩
  · obtain ⟨T, x, z, h1, h2, h3, h4, h5⟩ := y
    exact ⟨T, x, z, h1, h2, h3, h4 xs q.1, h5 ys q.2⟩
end
end TU

set_option Elab.async false
set_option linter.all false
set_option maxRecDepth 100000
namespace TU
open PySem PySem.Spec PyProof.Rows L2 He
/-! ### what the text's top has written: nested tuples, dicts with texts as keys -/
mutual
def trIn (K : PySem.W.Frag) : Nat → Value → Option Tr
  | 0, _ => none
  | n + 1, v => match v with
    | .none => some .non
    | .bool b => some (.bl b)
    | .int i _ => some (.int i)
    | .str x _ => some (.str x)
    | .ref a => match K.lookup a with
      | some ⟨.type c, _, .seq its _, _⟩ => (match decide (c = "tuple") && decide (its.size ≤ sizeLine) with
        | true => (trsIn K n its.toList).map Tr.tup
        | false => none)
      | _ => none
    | _ => none
def trsIn (K : PySem.W.Frag) : Nat → List Value → Option (List Tr)
  | 0, _ => none
  | _ + 1, [] => some []
  | n + 1, v :: vs => match trIn K n v, trsIn K n vs with
    | some d, some ds => some (d :: ds)
    | _, _ => none
end
section
variable {K : PySem.W.Frag}
theorem trIn_ok : ∀ n : Nat, (∀ (v : Value) (d : Tr), trIn K n v = some d → ∃ x, RelV x v ∧ (∀ a, v = .ref a → x = .ref a) ∧ ∀ H P, T K H P x d) ∧
    ∀ (vs : List Value) (ds : List Tr), trsIn K n vs = some ds → ∃ xs, Vals xs vs ∧ ∀ H P, Ts K H P xs ds := by
  intro n
  induction n with
  | zero => exact ⟨fun v d h => by simp [trIn] at h, fun vs ds h => by simp [trsIn] at h⟩
  | succ n ih =>
    refine ⟨fun v d h => ?_, fun vs ds h => ?_⟩
    · cases v with
      | none => simp only [trIn] at h; cases h; exact ⟨.non, rfl, (fun a z => nomatch z), fun _ _ => .non⟩
      | bool b => simp only [trIn] at h; cases h; exact ⟨.bl b, rfl, (fun a z => nomatch z), fun _ _ => .bl b⟩
      | int i t => simp only [trIn] at h; cases h; exact ⟨.int i, ⟨t, rfl⟩, (fun a z => nomatch z), fun _ _ => .int i⟩
      | str x t => simp only [trIn] at h; cases h; exact ⟨.str x, ⟨t, rfl⟩, (fun a z => nomatch z), fun _ _ => .str x⟩
      | ref a =>
        simp only [trIn] at h
        split at h
        · rename_i c dd its k sl q
          split at h
          · rename_i e
            rw [Bool.and_eq_true, decide_eq_true_eq, decide_eq_true_eq] at e
            obtain ⟨rfl, hz⟩ := e
            cases q2 : trsIn K n its.toList with
            | none => rw [q2] at h; cases h
            | some ds =>
              rw [q2] at h
              cases h
              obtain ⟨xs, hv, ht⟩ := ih.2 _ _ q2
              exact ⟨.ref a, rfl, (fun b z => by cases z; rfl), fun H P => .tup (.inr ⟨_, its, k, q, rfl, rfl, hz, hv⟩) (ht H P)⟩
          · cases h
        · cases h
      | _ => simp [trIn] at h
    · cases vs with
      | nil => simp only [trsIn] at h; cases h; exact ⟨[], .nil, fun _ _ => .nil⟩
      | cons v vs =>
        simp only [trsIn] at h
        split at h
        · rename_i d ds e1 e2
          cases h
          obtain ⟨x, r, _, t⟩ := ih.1 _ _ e1
          obtain ⟨xs, rs, ts⟩ := ih.2 _ _ e2
          exact ⟨x :: xs, .cons r rs, fun H P => .cons (t H P) (ts H P)⟩
        · cases h
/-- a global tuple, whatever its depth -/
theorem glob_tree {h : Heap} {mg : Str → Option Value} {x : Str} {a : Addr} {d : Tr} {n : Nat} (X : K.In h) (G : h.Ns mainGlobals mg) (ha : PySem.W.nsIn K mainGlobals x = some (some (.ref a))) (ht : trIn K n (.ref a) = some d) : ∃ A, mg x = some (.ref A) ∧ ∀ H P, T K H P (.ref A) d := by
  obtain ⟨y, _, e, t⟩ := (trIn_ok n).1 _ _ ht
  rw [e a rfl] at t
  exact ⟨a, PySem.W.mg_of X G ha, t⟩
/-- a global dict: its pairs -/
structure GD (K : PySem.W.Frag) (w : World) (A : Addr) (tb : List (Str × Tr)) : Prop where
  kd : ∃ es n, KDict K w A es n
  at_ : ∀ k d, lk tb k = some d → ∃ u x, PySem.W.nsIn K A k = some (some u) ∧ RelV x u ∧ ∀ H P, T K H P x d
def gdIn (K : PySem.W.Frag) (A : Addr) (tb : List (Str × Tr)) : List (Option Tr) := tb.map fun p => match PySem.W.nsIn K A p.1 with | some (some u) => trIn K 20 u | _ => none
theorem gd_of {w : World} {A : Addr} {tb : List (Str × Tr)} {ks : List Str} (h1 : dicW K A = some (keysIn w.params ks)) (h2 : gdIn K A tb = tb.map fun p => some p.2) : GD K w A tb := by
  refine ⟨dicW_ok h1, fun k d e => ?_⟩
  have m := lk_mem e
  obtain ⟨i, hi, e2⟩ := List.getElem_of_mem m
  have q : (gdIn K A tb)[i]? = (tb.map fun p => some p.2)[i]? := by rw [h2]
  unfold gdIn at q
  rw [List.getElem?_map, List.getElem?_map, List.getElem?_eq_getElem hi, e2] at q
  have q2 : (match PySem.W.nsIn K A k with | some (some u) => trIn K 20 u | _ => none) = some d := Option.some.inj q
  split at q2
  · rename_i u e3
    obtain ⟨x, r, _, t⟩ := (trIn_ok 20).1 _ _ q2
    exact ⟨u, x, e3, r, t⟩
  · cases q2
theorem glob_dict {w : World} {h : Heap} {mg : Str → Option Value} {x : Str} {a : Addr} {tb : List (Str × Tr)} {ks : List Str} (X : K.In h) (G : h.Ns mainGlobals mg) (ha : PySem.W.nsIn K mainGlobals x = some (some (.ref a))) (h1 : dicW K a = some (keysIn w.params ks)) (h2 : gdIn K a tb = tb.map fun p => some p.2) : ∃ A, mg x = some (.ref A) ∧ GD K w A tb :=
  ⟨a, PySem.W.mg_of X G ha, gd_of h1 h2⟩
theorem GD.kdct {w : World} {A : Addr} {tb : List (Str × Tr)} (g : GD K w A tb) {k : Str} {d : Tr} (e : lk tb k = some d) : ∃ x, KDct K w A k x ∧ ∀ H P, T K H P x d := by
  obtain ⟨es, n, kd⟩ := g.kd
  obtain ⟨u, x, e2, r, t⟩ := g.at_ k d e
  exact ⟨x, ⟨es, n, u, kd.at_, kd.lit, e2, r⟩, t⟩
/-- c[k], k in c: .. or a global dict -/
def rIxW (K : PySem.W.Frag) (w : World) : R2 := fun x y H Q => rIxU K x y H Q ∨ rIxD K w x y H Q
def rInW (K : PySem.W.Frag) (w : World) : R2 := fun x y H Q => rInU false K x y H Q ∨ ∃ d es n z r, KDict K w d es n ∧ x = .str z ∧ y = .ref d ∧ PySem.W.nsIn K d z = some r ∧ Q (.bl r.isSome) H
theorem op_inW {X : Cx} (hu : X.A.units + 64 < cLine) : OpR X (compareOp .In) (rInW X.K X.w) := by
  intro pins s σ H x y v u Q I rx ry h
  rcases h with h | ⟨d, es, n, z, r, kd, e1, e2, e3, q⟩
  · exact op_inU hu pins s σ H x y v u Q I rx ry h
  · exact op_in_kd kd pins s σ H x y v u Q I rx ry ⟨z, r, e1, e2, e3, q⟩
theorem k_ixW {X : Cx} {K : PySem.W.Frag} {w : World} (h : X.K = K) (hw : X.w = w) (hu : X.A.units + 64 < cLine) : IxR X (rIxW K w) := h ▸ hw ▸ (ix_any hu).or ix_kdict
theorem k_inW {X : Cx} {K : PySem.W.Frag} {w : World} (h : X.K = K) (hw : X.w = w) (hu : X.A.units + 64 < cLine) : OpR X (compareOp .In) (rInW K w) := h ▸ hw ▸ op_inW hu
end
section
variable {K : PySem.W.Frag} {w : World} {H : Hp} {Q : VK} {A : Addr} {tb : List (Str × Tr)} {k : Str} {d : Tr} {y : V}
theorem q_ixG (g : GD K w A tb) (e : lk tb k = some d) (q : ∀ x, (∀ H P, T K H P x d) → Q x H) : rIxW K w (.ref A) (.str k) H Q := by
  obtain ⟨x, kd, t⟩ := g.kdct e
  exact .inr ⟨A, k, x, rfl, rfl, kd, q x t⟩
theorem q_inG (g : GD K w A tb) (e : lk tb k = some d) (q : Q (.bl true) H) : rInW K w (.str k) (.ref A) H Q := by
  obtain ⟨es, n, kd⟩ := g.kd
  obtain ⟨u, x, e2, r, t⟩ := g.at_ k d e
  exact .inr ⟨A, es, n, k, some u, kd, rfl, rfl, e2, q⟩
end
/-! ### what is walked: .. or a text -/
def iAnyS (K : PySem.W.Frag) (te : TE) : TI := fun σ H R => iAny K te σ H R ∨ iStr te σ H R
theorem k_walkS {X : Cx} {K : PySem.W.Frag} {tg e : Expr} {te : TE} (h : X.K = K) (he : PE X e te) : PI X tg e (iAnyS K te) := h ▸ PIor (pi_any he) (pi_str he)
end TU

set_option Elab.async false
set_option linter.all false
set_option maxRecDepth 100000
namespace TU
open PySem PySem.Spec PyProof.Rows L2
section
variable {X : Cx} {k : Nat} {ps : List Str} {sp : Sp} {x : Str} {p pos : Pos}
/-- a def of the text, called without arguments; nothing is raised -/
theorem pe_dfZ (F : Df X.prog X.w X.K X.mg X.base x ps k sp) (hr : Room k X.A) (hg : Gl X x := by rfl) (hdb : (x == ("__debug__" : Str)) = false := by decide) : PE X (.Call (.Name x p) [] [] pos) (tCallS sp (fun _ => E0) tNil) := by
  obtain ⟨f, fd, F0, hm, hk, hb⟩ := F.ex
  refine ⟨fun pins s σ H Q I h => wpAny_Call_Name_kw (ld_glob I hg hm ?_ hdb)⟩
  exact PySem.W.callWith_K0 I.kIn hk (run_fnS (us := []) (E := fun _ => E0) F0 hr hb (fun _ s s' e' H' I h => passL _ _ _ _ _ _ I h) I .nil h)
end
section
variable {K : PySem.W.Frag} {σ : L2.St} {H : Hp} {D : Ends} {Q : VK} {te ta tb tc td ty tv : TE} {tr tk : TA}
theorem q_disp {trs : List (TE × TE)} (h : ∀ p, H p = none → tPairs trs σ (upd H p (.dK [])) fun ps H2 => H2 p = some (.dK []) ∧ ∃ kvs : List (Key × V), ps = kvs.map (fun kv => (kV kv.1, kv.2)) ∧ kvs.length ≤ 15 ∧ Q (.ref p) (upd H2 p (.dK (mergeK [] kvs)))) : tDisp trs σ H Q := h
theorem q_pcons {a b : TE} {r : List (TE × TE)} {R : List (V × V) → Hp → Prop} (h : a σ H fun x H1 => b σ H1 fun y H2 => tPairs r σ H2 fun ps H3 => R ((x, y) :: ps) H3) : tPairs ((a, b) :: r) σ H R := h
theorem q_pnil {R : List (V × V) → Hp → Prop} (h : R [] H) : tPairs [] σ H R := h
theorem q_ckw {r : List V → List V → Hp → VK → Prop} (h : tr σ H fun vs H1 => tk σ H1 fun zs H2 => r vs zs H2 Q) : tCKw r tr tk σ H Q := h
theorem q_lrev (h : te σ H fun v H1 => ∃ (a : Addr) (xs : List V), v = .ref a ∧ SqT K H1 a xs ∧ ∀ q, H1 q = none → Q (.ref q) (upd H1 q (.lst xs.reverse))) : tLstRev K te σ H Q := h
theorem q_zip {R : It → Hp → Prop} (h : tr σ H fun vs H1 => ∃ a b xs ys, vs = [.ref a, .ref b] ∧ ((SqL K H1 a xs ∧ SqL K H1 b ys ∧ R (Itz K a b) H1) ∨ (SqT K H1 a xs ∧ SqT K H1 b ys ∧ R (RZ.ItzT K a b) H1))) : RZ.iZipA K tr σ H R := h
theorem q_revI {R : It → Hp → Prop} (h : te σ H fun v H1 => ∃ (a : Addr) (xs : List V), v = .ref a ∧ ((SqL K H1 a xs ∧ R (Itv K a xs.length) H1) ∨ (SqT K H1 a xs ∧ R (RT.ItvT K a xs.length) H1))) : RT.iRevA K te σ H R := h
theorem q_daug {rd : R2} (h : td σ H fun x H1 => ty σ H1 fun y H2 => ∃ a v, x = .ref a ∧ DGet H2 a y (some v) ∧ tv σ H2 fun y2 H3 => rd v y2 H3 fun z H4 => ∃ H5, DPut H4 a y z H5 ∧ D.nx σ H5) : sDAug td ty tv rd D σ H := h
theorem q_while {c : TT} {tb : TS} (h : ∃ W : Nat → L2.St → Hp → Prop, (∃ m, W m σ H) ∧ ∀ m σ H, W m σ H → c σ H fun b H1 => if b = true then ∃ N : L2.St → Hp → Prop, (∀ σ' H', N σ' H' → ∃ m', m' < m ∧ W m' σ' H') ∧ tb { D with nx := N, ct := N, bk := D.nx } σ H1 else D.nx σ H1) : tWhile c tb D σ H := h
/-- a while whose turns are counted down from n; at 0 the test fails -/
theorem while_dn {c : TT} {tb : TS} (n : Nat) (Pv : Nat → L2.St → Hp → Prop) (h0 : Pv n σ H) (hs : ∀ m σ H, Pv m σ H → c σ H fun b H1 => if b = true then ∃ k, m = k + 1 ∧ tb { D with nx := Pv k, ct := Pv k, bk := D.nx } σ H1 else D.nx σ H1)
    (mono : ∀ σ H R R', (∀ b H1, R b H1 → R' b H1) → c σ H R → c σ H R') : tWhile c tb D σ H := by
  refine ⟨Pv, ⟨n, h0⟩, fun m σ H p => mono σ H _ _ (fun b H1 q => ?_) (hs m σ H p)⟩
  cases b with
  | false => exact q
  | true =>
    obtain ⟨k, rfl, q⟩ := q
    exact ⟨Pv k, fun σ' H' p' => ⟨k, Nat.lt_succ_self k, p'⟩, q⟩
end
section
variable {X : Cx} {i : Nat} {y : Str} {py : Pos} {kx vx tg iter : Expr} {ifs : List Expr} {scope : Scope} {own : List (Str × Nat)} {pos spos : Pos} {wi : TI} {g : TG} {tt : TT} {tk tv : TE}
/-- y = {k: v for ..} -/
theorem ps_setDc (hc : X.calm = true) (hN : X.N.Nodup) (hy : X.N[i]? = some y) (hyl : X.env.scope.names.lookup y = some .local) (hsw : swapsWith (.DictComp kx vx [⟨tg, iter, ifs, 0⟩] scope pos) (some (.Name y py)) spos.line X.env = pure true) (hi : PI X tg iter wi) (ok : BlkOk X.N X.env.scope scope own)
    (hg : ∀ (s : Shared) (H : Hp) (C : Addr) (cl : List (Str × Addr)) (fp : List Addr), PG (X.blk s H scope (compEnvC scope cl C X.env) fp) tg g) (ht : ∀ (s : Shared) (H : Hp) (C : Addr) (cl : List (Str × Addr)) (fp : List Addr), PTs (X.blk s H scope (compEnvC scope cl C X.env) fp) ifs tt)
    (hk : ∀ (s : Shared) (H : Hp) (C : Addr) (cl : List (Str × Addr)) (fp : List Addr), PE (X.blk s H scope (compEnvC scope cl C X.env) fp) kx tk) (hv : ∀ (s : Shared) (H : Hp) (C : Addr) (cl : List (Str × Addr)) (fp : List Addr), PE (X.blk s H scope (compEnvC scope cl C X.env) fp) vx tv)
    (hs : ∀ x, foldedSetIterable iter X.env x = pure x := by intro _; rfl) : PS X (.Assign [.Name y py] (.DictComp kx vx [⟨tg, iter, ifs, 0⟩] scope pos) spos) (tAsg (tDc wi g tt tk tv (own.map (·.2))) (gName i)) := by
  refine ⟨fun pins s σ H D I h => ?_⟩
  rw [exec_Assign_Name_used _ _ _ _ hsw]; refine wpAny_bind (wpAny_standAt (wpAny_bind ?_))
  show wpAny (model X.prog X.w) X.A (do let _ ← comprehension (.DictComp kx vx [⟨tg, iter, ifs, 0⟩] scope pos) scope X.env (firstIterPos [⟨tg, iter, ifs, 0⟩] pos) newDict false (eval iter X.env) (some (assign (.Name y py) X.env))) _ _ s
  have h : tDc wi g tt tk tv (own.map (·.2)) σ H (fun x H1 => gName i x σ H1 D.nx) := h
  refine wpAny_bind (thn (dc_core (Qf := fun _ z => L2.SP X pins D .next z) hc hN I hi ok hg ht hk hv hs h fun L C z m H2 J q hn f => ?_) fun _ z hq => wpAny_pure (wpAny_pure hq))
  show wpAny (model X.prog X.w) X.A (assign (.Name y py) X.env (.ref L)) _ _ z
  refine wpAny_assign_Name (store_ok2 (v := V.ref L) J hN hy (.inl hyl) rfl (fun z2 J2 ⟨a, sb, ha⟩ => ?_) (.inr hyl))
  obtain ⟨f0, f1, f2, f3, f4, f5⟩ := f
  have ne : C ≠ a := ha.elim (fun e => by rw [e]; exact f1) fun e c => f4 y a e c.symm
  exact ⟨m, hn.sameBut sb ne, fun h3 sb3 => ⟨_, H2, J2.turned (t' := z2.toks) (fun b o hb e => (sb3.2 b hb).trans e) f0 f1 f3 f4 f5, q⟩⟩
theorem sw_trueD {l : Nat} {gs : List Comprehension} {env : Env} (hk : env.scope.kind = .function) (hy : env.scope.names.lookup y = some .local) (hl : (py.line == pos.line) = true) (ha : (scope.names.any fun (n, k) => n == y && (k == .local || k == .cell)) = false) : swapsWith (.DictComp kx vx gs scope pos) (some (.Name y py)) l env = pure true := by
  have ky : env.kindOf y = some .local := hy
  have hb : env.blockKind = .function := by unfold Env.blockKind; rw [hk]; rfl
  unfold swapsWith; simp only [hb, ky, ha, Expr.pos, hl]; rfl
end
end TU

set_option Elab.async false
set_option linter.all false
set_option maxRecDepth 100000
namespace TU
open PySem PySem.Spec PyProof.Rows L2
/-- (word, house) == (word, house), both equal -/
def rEqY (K : PySem.W.Frag) : R2 := fun x y H Q => ∃ (p q a b : Addr) (v u : V) (h g : Hs) (d : Tr) (N1 N2 M1 M2 : Addr → Prop), x = .ref p ∧ y = .ref q ∧ SqT K H p [v, .ref a] ∧ SqT K H q [u, .ref b] ∧ T K H N1 (.ref a) (.dic (hK h)) ∧ T K H N2 (.ref b) (.dic (hK g)) ∧
  (∀ z, N1 z → ¬ N2 z) ∧ Wf h ∧ Wf g ∧ Sml h ∧ cpH h = cpH g ∧ T K H M1 v d ∧ T K H M2 u d ∧ nod d = true ∧ dep d ≤ 60 ∧ Q (.bl true) H
theorem op_eqY {X : Cx} (hu : X.A.units + 64 < cLine) : OpR X (compareOp .Eq) (rEqY X.K) := by
  intro pins s σ H x y v u Q I rx ry h
  obtain ⟨p, q, a, b, v1, u1, h, g, d, N1, N2, M1, M2, rfl, rfl, sp, sq, ta, tb, dis, wh, wg, sm, e, td, te, nd, dd, k⟩ := h
  cases (show v = Value.ref p from rx)
  cases (show u = Value.ref q from ry)
  obtain ⟨its, r1, t1, _⟩ := I.tuple sp
  obtain ⟨jts, r2, t2, _⟩ := I.tuple sq
  obtain ⟨i2, i1, rfl, ri2, ri1⟩ := vals2 r1
  obtain ⟨j2, j1, rfl, rj2, rj1⟩ := vals2 r2
  have ei : i1 = Value.ref a := ri1
  have ej : j1 = Value.ref b := rj1
  subst ei ej
  have tr := tree_house I ta tb dis wh wg sm e
  have t62 : PySem.W.EqTree X.prog X.w s 62 i2 j2 true := by
    refine .leaf fun A hu => ?_
    obtain ⟨as, q1, _⟩ := T.reads I d v1 i2 td ri2
    obtain ⟨bs, q2, _⟩ := T.reads I d u1 j2 te rj2
    have z := SeqAt.eqAt_plain _ _ A s i2 j2 _ _ q1 q2 (plain_py d nd) (plain_py d nd) (by
      rw [depth_py, Nat.min_self]
      omega)
    rw [show PyData.eqv (py d) (py d) = true from eqb_refl nd] at z
    exact z
  refine PySem.W.eq_tuplesT (n := 62) (vs := #[i2, Value.ref a]) (vs' := #[j2, Value.ref b]) (e := fun _ => true) t1 t2 (fun j h1 h2 => ?_) (by omega) ⟨.bl true, H, I, rfl, k⟩
  match j, h1, h2 with
  | 0, _, _ => exact t62
  | 1, _, _ => exact tr
def rEqW (K : PySem.W.Frag) : R2 := fun x y H Q => rEqU K x y H Q ∨ rEqY K x y H Q
theorem k_eqW {X : Cx} {K : PySem.W.Frag} (h : X.K = K) (hu : X.A.units + 64 < cLine) : OpR X (compareOp .Eq) (rEqW K) := h ▸ (op_eqU hu).or (op_eqY hu)
theorem glob_str {K : PySem.W.Frag} {h : Heap} {mg : Str → Option Value} {x : Str} {i : Str} {t : Tok} (X : K.In h) (G : h.Ns mainGlobals mg) (ha : PySem.W.nsIn K mainGlobals x = some (some (.str i t))) : ∃ t, mg x = some (.str i t) := ⟨t, PySem.W.mg_of X G ha⟩
end TU

set_option Elab.async false
set_option linter.all false
set_option maxRecDepth 100000
set_option maxHeartbeats 1000000

namespace K82
open PySem PySem.Spec PyProof.Rows L2 L2H TU
local macro_rules | `(tactic| walk_at "g1") => `(tactic| first
  | with_reducible refine q_seq ?_
  | with_reducible refine q_asg ?_
  | with_reducible refine q_drop ?_
  | with_reducible refine q_ret ?_
  | with_reducible refine q_if ?_
  | with_reducible refine q_gname ?_
  | with_reducible refine q_gsub ?_
  | ((with_reducible refine' q_var ?hv ?_); (case hv => rfl))
  | with_reducible refine q_c ?_
  | with_reducible refine q_op ?_
  | with_reducible refine q_test ?_
  | with_reducible refine q_tr ?_
  | with_reducible refine q_trB ?_
  | with_reducible refine q_bl ?_
  | with_reducible refine q_not ?_
  | with_reducible refine q_and ?_
  | with_reducible refine q_or ?_
  | with_reducible refine q_cons ?_
  | with_reducible refine q_nil ?_
  | with_reducible refine q_I0 ?_
  | with_reducible refine q_addI ?_
  | with_reducible refine q_eqS ?_
  | with_reducible refine q_eqI ?_
  | with_reducible refine q_neS ?_
  | with_reducible refine q_neI ?_
  | with_reducible refine q_eqB ?_
  | with_reducible refine q_t ?_
  | with_reducible refine q_f ?_
  | with_reducible refine q_nf ?_
  | with_reducible refine q_nt ?_
  | with_reducible refine q_is ?_
  | with_reducible refine q_isn ?_
  | with_reducible refine q_nis ?_
  | with_reducible refine q_nisn ?_
  | with_reducible refine q_callS ?_
  | with_reducible refine q_cb ?_
  | with_reducible refine q_tup ?_
  | with_reducible refine q_lst ?_
  | with_reducible refine q_bm ?_
  | with_reducible refine q_rz ?_
  | with_reducible refine q_next ?_
  | with_reducible refine q_retN ?_
  | with_reducible refine q_ifE ?_
  | with_reducible refine q_un ?_
  | with_reducible refine q_U ?_
  | with_reducible refine q_for ?_
  | with_reducible refine q_sl ?_
  | with_reducible refine q_part ?_
  | with_reducible refine q_nopart ?_
  | with_reducible refine q_int ?_
  | with_reducible refine q_andV ?_
  | with_reducible refine q_orV ?_
  | with_reducible refine q_notV ?_
  | with_reducible refine q_dc ?_
  | with_reducible refine q_lc ?_
  | with_reducible refine q_yes ?_
  | with_reducible refine q_dnew ?_
  | with_reducible refine q_methX ?_
  | with_reducible refine q_fld ?_
  | with_reducible refine q_sfld ?_
  | with_reducible refine q_chain ?_
  | with_reducible refine q_lcX ?_
  | with_reducible refine q_scP ?_
  | with_reducible refine q_dnewT ?_
  | with_reducible refine q_cont ?_
  | with_reducible refine q_rng1 ?_
  | with_reducible refine q_bm0 ?_
  | with_reducible refine q_make ?_
  | with_reducible refine q_rng2 ?_
  | with_reducible refine q_rng3 ?_
  | ((with_reducible refine q_size ?hz ?_); (case hz => (simp only [List.length_cons, List.length_nil]; decide))))
local macro_rules | `(tactic| walk_at "g") => `(tactic| repeat walk_at "g1")

local macro_rules | `(tactic| walk_at "sm") => `(tactic| first | assumption | exact same_new (by assumption) | exact Same.refl')
local macro_rules | `(tactic| walk_at "lf") => `(tactic| first
  | assumption
  | exact upd_same
  | exact sq_new
  | exact st_new
  | ((refine Sm.sqT ?hs ?hr); (case hs => (first | assumption | exact same_new (by assumption))); (case hr => walk_at "lf"))
  | ((refine Sm.sqL ?hs ?hr); (case hs => (first | assumption | exact same_new (by assumption))); (case hr => walk_at "lf"))
  | ((refine Sm.rd ?hs ?hr); (case hs => (first | assumption | exact same_new (by assumption))); (case hr => walk_at "lf"))
  | ((refine T.mono ?hs ?hr); (case hs => (first | assumption | exact same_new (by assumption))); (case hr => walk_at "lf"))
  | ((refine Ts.mono ?hs ?hr); (case hs => (first | assumption | exact same_new (by assumption))); (case hr => walk_at "lf"))
  | ((refine Tk.mono ?hs ?hr); (case hs => (first | assumption | exact same_new (by assumption))); (case hr => walk_at "lf"))
  | ((refine Own.mono ?hr ?hs); (case hs => (first | assumption | exact same_new (by assumption))); (case hr => walk_at "lf"))
  | ((refine Sm.at ?hs ?hr); (case hs => (first | assumption | exact same_new (by assumption))); (case hr => walk_at "lf")))
local macro_rules | `(tactic| walk_at "ix") => `(tactic| ((with_reducible refine' q_ixT ?h1 ?h2 ?_); (case h1 => walk_at "lf"); (case h2 => rfl)))

def topS (i : Nat) : Stmt := PySem.Challenge.pw_trundleyard_k82_yard_merges.main.body.getD i (.Pass ⟨0, 0, 0, 0⟩)
abbrev s_BadName___init : Stmt := inClass (topS 2) 0
abbrev s_Unknown___init : Stmt := inClass (topS 3) 0
abbrev s_Misfit___init : Stmt := inClass (topS 4) 0
abbrev s_TooMany___init : Stmt := inClass (topS 5) 0
abbrev s_check_key : Stmt := topS 7
abbrev s_entry_in : Stmt := topS 8
abbrev s_same_keys : Stmt := topS 9
abbrev s_is_name : Stmt := topS 13
abbrev s_check_name : Stmt := topS 14
abbrev s_is_act : Stmt := topS 27
abbrev s_blocks_of : Stmt := topS 28
abbrev s_all_statements : Stmt := topS 29
abbrev s_rows_within : Stmt := topS 30
abbrev s_numbered : Stmt := topS 31
abbrev s_count_either : Stmt := topS 32
abbrev s_greatest_depth : Stmt := topS 33
abbrev s_parts_of_condition : Stmt := topS 34
abbrev s_all_conditions : Stmt := topS 35
abbrev s_is_slow : Stmt := topS 36
abbrev s_statement_is_slow : Stmt := topS 37
abbrev s_check_items : Stmt := topS 38
abbrev s_check_condition : Stmt := topS 39
abbrev s_check_statement : Stmt := topS 40
abbrev s_check_program : Stmt := topS 41
abbrev s_named_items : Stmt := topS 42
abbrev s_names_of_condition : Stmt := topS 43
abbrev s_names_in : Stmt := topS 44
abbrev s_need : Stmt := topS 53
abbrev s_check_ranges : Stmt := topS 54
abbrev s_check_lift : Stmt := topS 55
abbrev s_check_lane : Stmt := topS 56
abbrev s_check_machine : Stmt := topS 57
abbrev s_check_parcel : Stmt := topS 58
abbrev s_check_one_program : Stmt := topS 59
abbrev s_check_entry : Stmt := topS 60
abbrev s_check_places : Stmt := topS 61
abbrev s_check_yard : Stmt := topS 62
abbrev s_message_words : Stmt := topS 63
abbrev s_check_keys : Stmt := topS 65
abbrev s_names_of : Stmt := topS 66
abbrev s_settled : Stmt := topS 67
abbrev s_merge : Stmt := topS 68
abbrev s_error_words : Stmt := topS 69
abbrev s_merge_yards : Stmt := topS 70
abbrev s_law_jar : Stmt := topS 72
abbrev s_law_draw : Stmt := topS 73
abbrev s_law_yard : Stmt := topS 74
abbrev s_law_menu : Stmt := topS 75
abbrev s_law_copy : Stmt := topS 76
abbrev s_law_grown : Stmt := topS 77
abbrev s_law_entry_at : Stmt := topS 78
abbrev s_law_merge : Stmt := topS 79
abbrev s_law_words : Stmt := topS 80
abbrev s_law : Stmt := topS 81
abbrev gt_ACTS : Tr := (.tup [(.str "go"), (.str "turn"), (.str "wait"), (.str "open"), (.str "call"), (.str "charge"), (.str "take"), (.str "put"), (.str "give"), (.str "get"), (.str "send"), (.str "drop"), (.str "stop")])
abbrev gt_HEADINGS_program : Tr := (.tup [(.str "n"), (.str "e"), (.str "s"), (.str "w")])
abbrev gt_REGISTERS : Tr := (.tup [(.str "a"), (.str "b"), (.str "c")])
abbrev gt_NAMED : Tr := (.tup [(.str "spot"), (.str "door"), (.str "lift"), (.str "parcel"), (.str "machine"), (.str "word")])
abbrev gt_PARTS : List (Str × Tr) := [("go", (.tup [(.str "spot")])), ("turn", (.tup [(.str "heading")])), ("wait", (.tup [(.str "number")])), ("open", (.tup [(.str "door")])), ("call", (.tup [(.str "lift")])), ("charge", (.tup [])), ("take", (.tup [(.str "parcel")])), ("put", (.tup [(.str "parcel")])), ("give", (.tup [(.str "parcel"), (.str "machine")])), ("get", (.tup [(.str "parcel"), (.str "machine")])), ("send", (.tup [(.str "machine"), (.str "word"), (.str "number")])), ("drop", (.tup [(.str "word")])), ("stop", (.tup [])), ("set", (.tup [(.str "register"), (.str "number")])), ("add", (.tup [(.str "register"), (.str "number")]))]
abbrev gt_READING_PARTS : List (Str × Tr) := [("free", (.tup [(.str "spot")])), ("at", (.tup [(.str "spot")])), ("has", (.tup [(.str "parcel")])), ("here", (.tup [(.str "parcel")])), ("got", (.tup [(.str "word")])), ("open", (.tup [(.str "door")])), ("low", (.tup [(.str "number")])), ("is", (.tup [(.str "register"), (.str "number")]))]
abbrev gt_RANGES : List (Str × Tr) := [("wait", (.tup [(.int 1), (.int 9)])), ("send", (.tup [(.int 1), (.int 4)])), ("set", (.tup [(.int 0), (.int 7)])), ("add", (.tup [(.int 1), (.int 7)])), ("low", (.tup [(.int 0), (.int 60)])), ("is", (.tup [(.int 0), (.int 7)]))]
abbrev gt_TABLES : Tr := (.tup [(.str "spots"), (.str "doors"), (.str "lifts"), (.str "lanes"), (.str "kinds"), (.str "machines"), (.str "parcels"), (.str "programs")])
abbrev gt_PLURAL : List (Str × Tr) := [("spot", (.str "spots")), ("door", (.str "doors")), ("lift", (.str "lifts")), ("lane", (.str "lanes")), ("kind", (.str "kinds")), ("machine", (.str "machines")), ("parcel", (.str "parcels")), ("program", (.str "programs"))]
abbrev gt_MOST : List (Str × Tr) := [("spots", (.int 24)), ("doors", (.int 6)), ("lifts", (.int 3)), ("lanes", (.int 60)), ("kinds", (.int 6)), ("machines", (.int 6)), ("parcels", (.int 8)), ("programs", (.int 8))]
abbrev gt_HEADINGS_yard : Tr := (.tup [(.str "n"), (.str "e"), (.str "s"), (.str "w")])
abbrev gt_SPOT_RANGES : Tr := (.tup [(.tup [(.int 1), (.int 3)]), (.tup [(.int 0), (.int 9)]), (.tup [(.int 0), (.int 4)])])
abbrev gt_KIND_RANGES : Tr := (.tup [(.tup [(.int 1), (.int 3)]), (.tup [(.int 1), (.int 3)]), (.tup [(.int 0), (.int 2)]), (.tup [(.int 0), (.int 3)]), (.tup [(.int 0), (.int 9)]), (.tup [(.int 0), (.int 60)]), (.tup [(.int 0), (.int 3)]), (.tup [(.int 0), (.int 4)])])
section
variable {P : Program} {w : World} {K : PySem.W.Frag} {mg : Str → Option Value} {base : Heap} {C_Unknown C_Misfit C_TooMany C_BadName : Addr}

/-- check_key(house, key) -/
def spCK (C : Addr) : Sp := fun vs H Q E => ∃ (a : Addr) (kvs : List (Key × V)) (k : Str), vs = [.ref a, .str k] ∧ Rd H a (.dK kvs) ∧
  ((valV kvs (.inr k)).isSome = true → Q .non H) ∧ ((valV kvs (.inr k)).isSome = false → XUnk C "table" k H E)
theorem sc_check_key : FnScope ["house", "key"] ["house", "key"] (defScope s_check_key) := ⟨rfl, rfl, rfl, by decide +kernel, rfl, by decide +kernel, by decide +kernel⟩
theorem d_check_key (B : Bt mg) (F : TopF K mg "check_key" s_check_key ["house", "key"]) (X_Unknown : Xc P w K mg base "Unknown" ["what", "name"] C_Unknown) : Df P w K mg base "check_key" ["house", "key"] 3 (spCK C_Unknown) := by
  refine F.df sc_check_key (fun vs H Q E h => ?len) (fun f cdv A outer s H vs Q E hr h => ?body)
  case body =>
   have hu := hr.units
   refine ⟨_, (pss_one (ps_if (pt_cmpR (k_nin (K := K) rfl hu) (pv 1) (pv 0) (by rfl))
      (pss_one (ps_rz rfl X_Unknown (hr.mono (by decide)) (takes_of rfl rfl rfl rfl) (pa_cons pe_str (pa_cons (pv 1) pa_nil))))
      pss_nil)), ?_⟩
   obtain ⟨a, kvs, k, rfl, hd, h1, h2⟩ := h
   walk_at "g"
   refine q_ninD (.inr k) hd ?_
   walk_at "g"
   cases e : (valV kvs (Sum.inr k)).isSome with
   | true =>
     refine q_f ?_
     walk_at "g"
     exact h1 e
   | false =>
     refine q_t ?_
     walk_at "g"
     exact q_mk rfl fun d H' s _ hd => h2 e d H' s hd
  case len =>
   obtain ⟨a, kvs, k, rfl, _⟩ := h
   rfl
/-- check_edit(house, edit) -/
def spCE (K : PySem.W.Frag) (C : Addr) : Sp := fun vs H Q E => ∃ (N : Addr → Prop) (a : Addr) (v : V) (h : Hs) (e : Ed), vs = [.ref a, v] ∧ T K H N (.ref a) (.dic (hK h)) ∧ T K H ff v e.tr ∧
  match app1 h e with
  | .ok _ => Q .non H
  | .error (w, n) => XUnk C w n H E
/-- copy_house(house) -/
def spCH (K : PySem.W.Frag) : Sp := fun vs H Q _ => ∃ (N : Addr → Prop) (a : Addr) (h : Hs), vs = [.ref a] ∧ T K H N (.ref a) (.dic (hK h)) ∧ Wf h ∧ Fits 60 h ∧ h.length ≤ 900 ∧
  ∀ r H', Same H H' → Own K (fun b => H b = none) H' r (cpH h) → Q (.ref r) H'
/-- change_tables(tables, edit) -/
def spCT (K : PySem.W.Frag) (C : Addr) : Sp := fun vs H Q E => ∃ (N : Addr → Prop) (a : Addr) (v : V) (h : Hs) (e : Ed), vs = [.ref a, v] ∧ Own K N H a h ∧ T K H ff v e.tr ∧ Wf h ∧ Fits 900 h ∧
  match app1 h e with
  | .ok h' => ∀ q es es', N q → H q = some (.dK es) → Own K N (upd H q (.dK es')) a h' → Q .non (upd H q (.dK es'))
  | .error (w, n) => XUnk C w n H E
/-- apply_edits(house, edits) -/
def spAE (K : PySem.W.Frag) (C : Addr) : Sp := fun vs H Q E => ∃ (N : Addr → Prop) (a b : Addr) (h : Hs) (xs : List V) (es : List Ed), vs = [.ref a, .ref b] ∧ T K H N (.ref a) (.dic (hK h)) ∧ SqL K H b xs ∧ Ts K H ff xs (es.map Ed.tr) ∧
  Wf h ∧ (∀ e ∈ es, e.Imm) ∧ (∃ n, Fits n h ∧ n + es.length ≤ 60) ∧ h.length ≤ 900 ∧
  match appAll (cpH h) es with
  | .ok h' => ∀ r H', Same H H' → Own K (fun b => H b = none) H' r (cpH h') → Q (.ref r) H'
  | .error (w, n) => XUnk C w n H E
/-- apply_edit(house, edit) -/
def spA1 (K : PySem.W.Frag) (C : Addr) : Sp := fun vs H Q E => ∃ (N : Addr → Prop) (a : Addr) (v : V) (h : Hs) (e : Ed), vs = [.ref a, v] ∧ T K H N (.ref a) (.dic (hK h)) ∧ T K H ff v e.tr ∧
  Wf h ∧ e.Imm ∧ Fits 59 h ∧ h.length ≤ 900 ∧
  match app1 (cpH h) e with
  | .ok h' => ∀ r H', Same H H' → Own K (fun b => H b = none) H' r (cpH h') → Q (.ref r) H'
  | .error (w, n) => XUnk C w n H E
/-- inverse(house, edit) -/
def spIV (K : PySem.W.Frag) (C : Addr) : Sp := fun vs H Q E => ∃ (N : Addr → Prop) (a : Addr) (v : V) (h : Hs) (e : Ed), vs = [.ref a, v] ∧ T K H N (.ref a) (.dic (hK h)) ∧ T K H ff v e.tr ∧ Wf h ∧
  match app1 h e with
  | .ok _ => ∀ u H', Same H H' → T K H' ff u (inv1 h e).tr → Q u H'
  | .error (w, n) => XUnk C w n H E
/-- inverse_of(house, edits) -/
def spIO (K : PySem.W.Frag) (C : Addr) : Sp := fun vs H Q E => ∃ (N : Addr → Prop) (a b : Addr) (h : Hs) (xs : List V) (es : List Ed), vs = [.ref a, .ref b] ∧ T K H N (.ref a) (.dic (hK h)) ∧ SqL K H b xs ∧ Ts K H ff xs (es.map Ed.tr) ∧
  Wf h ∧ (∀ e ∈ es, e.Imm) ∧ (∃ n, Fits n h ∧ n + es.length ≤ 60) ∧ h.length ≤ 900 ∧
  match appAll (cpH h) es with
  | .ok _ => ∀ r H' ys, Same H H' → H r = none → H' r = some (.lst ys) → Ts K H' ff ys ((invs (cpH h) es).reverse.map Ed.tr) → Q (.ref r) H'
  | .error (w, n) => XUnk C w n H E
/-- entry_in(house, key, name) -/
def spEI (K : PySem.W.Frag) (C : Addr) : Sp := fun vs H Q E => ∃ (N : Addr → Prop) (a : Addr) (k n : Str) (h : Hs), vs = [.ref a, .str k, .str n] ∧ T K H N (.ref a) (.dic (hK h)) ∧ Wf h ∧
  match lk h k with
  | some t => ∀ u H', Same H H' → T K H' ff u (match lk t n with | some d => .tup [.bl true, d] | none => .tup [.bl false, .non]) → Q u H'
  | none => XUnk C "table" k H E
theorem sc_entry_in : FnScope ["house", "key", "name"] ["house", "key", "name"] (defScope s_entry_in) := ⟨rfl, rfl, rfl, by decide +kernel, rfl, by decide +kernel, by decide +kernel⟩
theorem d_entry_in (B : Bt mg) (F : TopF K mg "entry_in" s_entry_in ["house", "key", "name"]) (D_check_key : Df P w K mg base "check_key" ["house", "key"] 3 (spCK C_Unknown)) : Df P w K mg base "entry_in" ["house", "key", "name"] 4 (spEI K C_Unknown) := by
  refine F.df sc_entry_in (fun vs H Q E h => ?len) (fun f cdv A outer s H vs Q E hr h => ?body)
  case body =>
   have hu := hr.units
   refine ⟨_, (pss_cons (ps_expr (pe_df D_check_key (hr.mono (by decide)) (fun σ => passAt (takes_of rfl rfl rfl rfl) σ) (pa_cons (pv 0) (pa_cons (pv 1) pa_nil))))
      (pss_cons (ps_if (pt_cmpR (k_in (K := K) rfl hu) (pv 2) (pe_ix (k_ix (K := K) rfl hu) (pv 0) (pv 1) (fun _ _ => rfl)) (by rfl))
      (pss_one (ps_ret (pe_tup (pa_cons pe_bl (pa_cons (pe_ix (k_ix (K := K) rfl hu) (pe_ix (k_ix (K := K) rfl hu) (pv 0) (pv 1) (fun _ _ => rfl)) (pv 2) (fun _ _ => rfl)) pa_nil)))))
      pss_nil)
      (pss_one (ps_ret (pe_tup (pa_cons pe_bl (pa_cons pe_non pa_nil))))))), ?_⟩
   obtain ⟨N, a, k, n, h, rfl, ha, wf, hq⟩ := h
   obtain ⟨a', kvs, ea, _, hr2, tk⟩ := ha.dicAt
   cases ea
   walk_at "g"
   refine ⟨a, kvs, k, rfl, hr2, fun hk => ?_, fun hk => ?_⟩
   · cases e1 : lk h k with
     | none =>
       rw [T.ntab tk e1] at hk
       cases hk
     | some t =>
       rw [e1] at hq
       obtain ⟨q', es', h1, _, h2, h3⟩ := T.tab tk e1
       walk_at "g"
       refine q_ixK (.inr k) hr2 h1 ?_
       refine q_inD (.inr n) h2 ?_
       walk_at "g"
       cases e2 : lk t n with
       | some d =>
         obtain ⟨vd, g1, g2⟩ := h3.ent e2
         have tq : T K H ff vd d := g2.imm (immT_lk (wf.tab _ (lk_mem e1)).2 e2)
         rw [g1]
         walk_at "g"
         refine q_ixK (.inr k) hr2 h1 ?_
         walk_at "g"
         refine q_ixK (.inr n) h2 g1 ?_
         walk_at "g"
         intro p hp
         have s1 := same_new (o := .tup [.bl true, vd]) hp
         refine hq _ _ s1 ?_
         rw [e2]
         exact .tup st_new (.cons (.bl _) (.cons (tq.mono s1) .nil))
       | none =>
         have g1 := h3.nent e2
         rw [g1]
         walk_at "g"
         intro p hp
         have s1 := same_new (o := .tup [.bl false, .non]) hp
         refine hq _ _ s1 ?_
         rw [e2]
         exact .tup st_new (.cons (.bl _) (.cons .non .nil))
   · cases e1 : lk h k with
     | none =>
       rw [e1] at hq
       exact hq
     | some t =>
       obtain ⟨q, es, h1, _⟩ := T.tab tk e1
       rw [h1] at hk
       cases hk
  case len =>
   obtain ⟨N, a, k, n, h, rfl, _⟩ := h
   rfl

/-- same_keys(house, other) -/
def spSK (K : PySem.W.Frag) : Sp := fun vs H Q _ => ∃ (N1 N2 : Addr → Prop) (a b : Addr) (h g : Hs), vs = [.ref a, .ref b] ∧ T K H N1 (.ref a) (.dic (hK h)) ∧ T K H N2 (.ref b) (.dic (hK g)) ∧ h.length ≤ 40 ∧ g.length ≤ 40 ∧
  ∀ H', Same H H' → Q (.bl (decide (srt (nms h) = srt (nms g)))) H'
theorem sc_same_keys : FnScope ["house", "other"] ["house", "other"] (defScope s_same_keys) := ⟨rfl, rfl, rfl, by decide +kernel, rfl, by decide +kernel, by decide +kernel⟩
theorem d_same_keys (B : Bt mg) (F : TopF K mg "same_keys" s_same_keys ["house", "other"]) : Df P w K mg base "same_keys" ["house", "other"] 1 (spSK K) := by
  refine F.df sc_same_keys (fun vs H Q E h => ?len) (fun f cdv A outer s H vs Q E hr h => ?body)
  case body =>
   have hu := hr.units
   refine ⟨_, (pss_one (ps_ret (pe_cmpR (k_eq (K := K) rfl hu) (pe_callB (k_sort (K := K) rfl rfl) (by rfl) B.b_sorted (by decide +kernel) (pa_cons (pv 0) pa_nil)) (pe_callB (k_sort (K := K) rfl rfl) (by rfl) B.b_sorted (by decide +kernel) (pa_cons (pv 1) pa_nil)) (nomark _)))), ?_⟩
   obtain ⟨N1, N2, a, b, h, g, rfl, ha, hb, hl, gl, hq⟩ := h
   obtain ⟨a', ka, ea, _, hra, tka⟩ := ha.dicAt
   cases ea
   obtain ⟨b', kb, eb, _, hrb, tkb⟩ := hb.dicAt
   cases eb
   walk_at "g"
   refine q_sortD (ks := nms h) hra (tka.keys.trans (keys_hK h)) (by rw [nms_len]; omega) fun p hp => ?_
   have s1 := same_new (o := .lst ((srt (nms h)).map V.str)) hp
   walk_at "g"
   refine q_sortD (ks := nms g) (Sm.rd s1 hrb) (tkb.keys.trans (keys_hK g)) (by rw [nms_len]; omega) fun q hq1 => ?_
   have s2 := same_new (o := .lst ((srt (nms g)).map V.str)) hq1
   refine q_eqSs (Sm.sqL s2 sq_new) sq_new ?_
   exact hq _ (s1.trans s2)
  case len =>
   obtain ⟨N1, N2, a, b, h, g, rfl, _⟩ := h
   rfl
/-- check_keys(base, houses) -/
def spCKs (K : PySem.W.Frag) (C : Addr) : Sp := fun vs H Q E => ∃ (N : Addr → Prop) (a l : Addr) (h : Hs) (xs : List V) (gs : List Hs), vs = [.ref a, .ref l] ∧ T K H N (.ref a) (.dic (hK h)) ∧ SqL K H l xs ∧ Ts K H N xs (gs.map fun g => Tr.dic (hK g)) ∧ h.length ≤ 40 ∧ (∀ g ∈ gs, g.length ≤ 40) ∧
  ((∀ g ∈ gs, srt (nms h) = srt (nms g)) → ∀ H', Same H H' → Q .non H') ∧ ((∃ g ∈ gs, srt (nms h) ≠ srt (nms g)) → XUnk C "house" "tables" H E)
theorem sc_check_keys : FnScope ["base", "houses", "house"] ["base", "houses"] (defScope s_check_keys) := ⟨rfl, rfl, rfl, by decide +kernel, rfl, by decide +kernel, by decide +kernel⟩
theorem d_check_keys (B : Bt mg) (F : TopF K mg "check_keys" s_check_keys ["base", "houses"]) (X_Misfit : Xc P w K mg base "Misfit" ["what", "name"] C_Misfit) (D_same_keys : Df P w K mg base "same_keys" ["house", "other"] 1 (spSK K)) : Df P w K mg base "check_keys" ["base", "houses"] 3 (spCKs K C_Misfit) := by
  refine F.df sc_check_keys (fun vs H Q E h => ?len) (fun f cdv A outer s H vs Q E hr h => ?body)
  case body =>
   have hu := hr.units
   refine ⟨_, (pss_one (ps_lockU (ps_for (passes_of rfl) rfl (k_walk (K := K) rfl (pv 1)) (pg_name (i := 2) sc_check_keys.nd rfl (Or.inl rfl))
      (pss_one (ps_if (pt_not (k_tr (K := K) rfl (pe_df D_same_keys (hr.mono (by decide)) (fun σ => passAt (takes_of rfl rfl rfl rfl) σ) (pa_cons (pv 0) (pa_cons (pv 2) pa_nil)))))
      (pss_one (ps_rz rfl X_Misfit (hr.mono (by decide)) (takes_of rfl rfl rfl rfl) (pa_cons pe_str (pa_cons pe_str pa_nil))))
      pss_nil))))), ?_⟩
   obtain ⟨N, a, l, h, xs, gs, rfl, ha, hl, hxs, l1, l2, hq, hx⟩ := h
   walk_at "g"
   refine .inl ?_
   walk_at "g"
   refine q_items ?_
   walk_at "g"
   refine q_itemsE (xs := xs) hl ?_
   have hlen : xs.length = gs.length := by rw [hxs.length, List.length_map]
   refine for_items (xs := xs) (fun i σ Hi => ∃ (v2 : Option V), σ = [some (.ref a), some (.ref l), v2] ∧ Same H Hi ∧ ∀ g ∈ gs.take i, srt (nms h) = srt (nms g)) ?_ ?_ ?_ ?_
   · exact ⟨none, rfl, Same.refl', fun g m => nomatch (show g ∈ [] from m)⟩
   · rintro i σ Hi _ ⟨v2, rfl, si, _⟩
     exact Sm.sqL si hl
   · rintro i x σ Hi hx2 ⟨v2, rfl, si, ai⟩
     obtain ⟨d, g1, g2⟩ := hxs.gets hx2
     obtain ⟨g, hg, rfl⟩ := map_at g1
     obtain ⟨b, kvs, rfl, _⟩ := (g2.mono si).dicAt
     walk_at "g"
     refine ⟨N, N, a, b, h, g, rfl, ha.mono si, g2.mono si, l1, l2 g (mem_at hg), fun H2 s2 => ?_⟩
     walk_at "g"
     refine q_ndec (fun c => ?_) (fun c => ?_)
     · walk_at "g"
       exact q_mk rfl fun d H' s _ hd => hx ⟨g, mem_at hg, c⟩ d H' ((si.trans s2).trans s) hd
     · walk_at "g"
       refine ⟨_, rfl, si.trans s2, fun y m => ?_⟩
       rw [take_more hg] at m
       rcases List.mem_append.mp m with m | m
       · exact ai y m
       · rw [List.mem_singleton.mp m]
         exact c
   · rintro σ Hi ⟨v2, rfl, si, ai⟩
     rw [hlen, List.take_length] at ai
     walk_at "g"
     exact hq ai _ si
  case len =>
   obtain ⟨N, a, l, h, xs, gs, rfl, _⟩ := h
   rfl
/-- names_of(houses, key) -/
def spNO (K : PySem.W.Frag) : Sp := fun vs H Q _ => ∃ (N : Addr → Prop) (l : Addr) (key : Str) (xs : List V) (gs : List Hs), vs = [.ref l, .str key] ∧ SqL K H l xs ∧ Ts K H N xs (gs.map fun g => Tr.dic (hK g)) ∧ gs.length ≤ 3 ∧
  (∀ g ∈ gs, ∃ t, lk g key = some t ∧ t.length ≤ 20) ∧ ∀ p H', Same H H' → H p = none → H' p = some (.lst ((srt (uni (tabs key gs))).map V.str)) → Q (.ref p) H'
theorem sc_names_of : FnScope ["houses", "key", "met", "house", "name"] ["houses", "key"] (defScope s_names_of) := ⟨rfl, rfl, rfl, by decide +kernel, rfl, by decide +kernel, by decide +kernel⟩
theorem d_names_of (B : Bt mg) (F : TopF K mg "names_of" s_names_of ["houses", "key"]) : Df P w K mg base "names_of" ["houses", "key"] 1 (spNO K) := by
  refine F.df sc_names_of (fun vs H Q E h => ?len) (fun f cdv A outer s H vs Q E hr h => ?body)
  case body =>
   have hu := hr.units
   refine ⟨_, (pss_cons (ps_set (i := 2) sc_names_of.nd rfl (Or.inl rfl) pe_dnewK)
      (pss_cons (ps_lockU (ps_for (passes_of rfl) rfl (k_walk (K := K) rfl (pv 0)) (pg_name (i := 3) sc_names_of.nd rfl (Or.inl rfl))
      (pss_one (ps_lockU (ps_for (passes_of rfl) rfl (k_walk (K := K) rfl (pe_ix (k_ix (K := K) rfl hu) (pv 3) (pv 1) (fun _ _ => rfl))) (pg_name (i := 4) sc_names_of.nd rfl (Or.inl rfl))
      (pss_one (ps_asg pe_bl (pg_sub (pv 2) (pv 4) (set_any hu)))))))))
      (pss_one (ps_ret (pe_callB (k_sort (K := K) rfl rfl) (by rfl) B.b_sorted (by decide +kernel) (pa_cons (pv 2) pa_nil)))))), ?_⟩
   obtain ⟨N, l, key, xs, gs, rfl, hl, hxs, gl, hk, hq⟩ := h
   walk_at "g"
   intro m hm
   have s0 : Same H (upd H m (.dK [])) := same_new hm
   walk_at "g"
   refine .inl ?_
   walk_at "g"
   refine q_items ?_
   walk_at "g"
   refine q_itemsE (xs := xs) (Sm.sqL s0 hl) ?_
   have hlen : xs.length = gs.length := by rw [hxs.length, List.length_map]
   refine for_items (xs := xs) (fun i σ Hi => ∃ (v3 v4 : Option V) (kvs : List (Key × V)), σ = [some (.ref l), some (.str key), some (.ref m), v3, v4] ∧ Same H Hi ∧ Hi m = some (.dK kvs) ∧ kvs.map (·.1) = (uni (tabs key (gs.take i))).map Sum.inr ∧ kvs.length ≤ 20 * i) ?_ ?_ ?_ ?_
   · exact ⟨none, none, [], rfl, s0, upd_same, rfl, Nat.le_refl _⟩
   · rintro i σ Hi _ ⟨v3, v4, kvs, rfl, si, _⟩
     exact Sm.sqL si hl
   · rintro i x σ Hi hx ⟨v3, v4, kvs, rfl, si, em, ek, el⟩
     obtain ⟨d, g1, g2⟩ := hxs.gets hx
     obtain ⟨g, hg, rfl⟩ := map_at g1
     obtain ⟨t, ht, tl⟩ := hk g (mem_at hg)
     have hi3 : i < 3 := by
       have := (List.getElem?_eq_some_iff.mp hg).1
       omega
     obtain ⟨b, kb, rfl, _, hrb, tkb⟩ := g2.dicAt
     obtain ⟨q, es, z1, _, z2, z3⟩ := T.tab tkb ht
     walk_at "g"
     refine q_lockS (Sm.rd si z2) fun Hl od un D' lkd hD' => ?_
     walk_at "g"
     refine q_keys ?_
     walk_at "g"
     have L0 : Lk1 H q es od Hl := ⟨fun b o e n => lkd.l1.keep b o (si b o e) n, lkd.at_⟩
     have hmq : m ≠ q := L0.ne z2 hm
     refine q_ixK (.inr key) (lkd.rs _ _ (fun _ _ z => nomatch z) (Sm.rd si hrb)) z1 ?_
     refine q_keysE lkd.at_ ?_
     have hel : es.length = t.length := by rw [z3.length]; unfold tK; rw [List.length_map]
     refine for_keysS (kvs := es) (fun j σ Hj => ∃ (v4 : Option V) (kvs : List (Key × V)), σ = [some (.ref l), some (.str key), some (.ref m), some (.ref b), v4] ∧ Lk1 H q es od Hj ∧ Hj m = some (.dK kvs) ∧ kvs.map (·.1) = (((nms t).take j).foldl addN (uni (tabs key (gs.take i)))).map Sum.inr ∧ kvs.length ≤ 20 * i + j) ?_ ?_ ?_ ?_
     · exact ⟨v4, kvs, rfl, L0, by rw [lkd.el m hmq]; exact em, ek, by omega⟩
     · rintro j σ Hj _ ⟨v4, kvs, rfl, l1, _⟩
       exact l1.at_
     · rintro j k v σ Hj hkv ⟨v4, kvs, rfl, l1, em, ek, el⟩
       obtain ⟨d0, y1, y2⟩ := Tk.at z3 hkv
       obtain ⟨p, hp, ep⟩ := map_at y1
       cases ep
       have hj : j < t.length := (List.getElem?_eq_some_iff.mp hp).1
       have hnt : (nms t)[j]? = some p.1 := nms_at (n := p.1) (d := p.2) hp
       walk_at "g"
       refine q_setD (.inr p.1) em (len_small (by omega)) ?_
       have kk := keys_putN (n := p.1) (v := .bl true) ek
       refine ⟨_, _, rfl, l1.upd z2 hm, upd_same, ?_, ?_⟩
       · rw [kk, take_more hnt, List.foldl_append]
         rfl
       · have e1 : (putK kvs (.inr p.1) (.bl true)).length = (addN (((nms t).take j).foldl addN (uni (tabs key (gs.take i)))) p.1).length := by
           have := congrArg List.length kk
           rw [List.length_map, List.length_map] at this
           exact this
         have e2 : kvs.length = (((nms t).take j).foldl addN (uni (tabs key (gs.take i)))).length := by
           have := congrArg List.length ek
           rw [List.length_map, List.length_map] at this
           exact this
         have := addN_len (((nms t).take j).foldl addN (uni (tabs key (gs.take i)))) p.1
         omega
     · rintro σ Hj ⟨v4, kvs, rfl, l1, em, ek, el⟩
       refine hD'.nx _ _ l1.at_ ?_
       rw [hel, ← nms_len t, List.take_length] at ek
       refine ⟨_, _, kvs, rfl, l1.out lkd si, by rw [lkd.un _ _ hmq]; exact em, ?_, by omega⟩
       rw [ek]
       refine congrArg _ ?_
       unfold uni tabs
       rw [take_more hg, List.map_append, List.foldl_append]
       show _ = (nms ((lk g key).getD [])).foldl addN _
       rw [ht]
       rfl
   · rintro σ Hi ⟨v3, v4, kvs, rfl, si, em, ek, el⟩
     rw [hlen, List.take_length] at ek
     have hkl : (uni (tabs key gs)).length = kvs.length := by
       have := congrArg List.length ek
       rw [List.length_map, List.length_map] at this
       exact this.symm
     walk_at "g"
     refine q_sortD (ks := uni (tabs key gs)) (.inl em) ek (by omega) fun p hp => ?_
     exact hq p _ (si.trans (same_new hp)) (si.free hp) upd_same
  case len =>
   obtain ⟨N, l, key, xs, gs, rfl, _⟩ := h
   rfl
/-- settled(base, one, two) -/
def spSe (K : PySem.W.Frag) : Sp := fun vs H Q _ => ∃ (x y z : V) (b o t : En), vs = [x, y, z] ∧ T K H ff x (enc b) ∧ T K H ff y (enc o) ∧ T K H ff z (enc t) ∧ (∀ e ∈ [b, o, t], ∀ d, e = some d → imm d = true ∧ dep d ≤ 50) ∧
  ∀ p v H', Same H H' → H' p = some (.tup [.bl (set1 b o t).1, v]) → T K H' ff v (enc (set1 b o t).2) → Q (.ref p) H'
theorem enc_nod {e : En} (h : ∀ d, e = some d → imm d = true ∧ dep d ≤ 50) : TU.nod (enc e) = true ∧ TU.dep (enc e) ≤ 60 := by
  cases e with
  | none => exact ⟨rfl, (show 1 ≤ 60 by decide)⟩
  | some d =>
    obtain ⟨h1, h2⟩ := h d rfl
    have h3 := nod_of_imm h1
    refine ⟨by simp only [enc, TU.nod, nods, h3, Bool.and_self], ?_⟩
    simp only [enc, TU.dep, deps]
    omega
theorem sc_settled : FnScope ["base", "one", "two"] ["base", "one", "two"] (defScope s_settled) := ⟨rfl, rfl, rfl, by decide +kernel, rfl, by decide +kernel, by decide +kernel⟩
theorem d_settled (B : Bt mg) (F : TopF K mg "settled" s_settled ["base", "one", "two"]) : Df P w K mg base "settled" ["base", "one", "two"] 1 (spSe K) := by
  refine F.df sc_settled (fun vs H Q E h => ?len) (fun f cdv A outer s H vs Q E hr h => ?body)
  case body =>
   have hu := hr.units
   refine ⟨_, (pss_cons (ps_if (PW.pt (pw_or (pt_cmpR (k_eq (K := K) rfl hu) (pv 1) (pv 2) (nomark _)) (pw_or1 (pt_cmpR (k_eq (K := K) rfl hu) (pv 2) (pv 0) (nomark _)))))
      (pss_one (ps_ret (pe_tup (pa_cons pe_bl (pa_cons (pv 1) pa_nil)))))
      pss_nil)
      (pss_cons (ps_if (pt_cmpR (k_eq (K := K) rfl hu) (pv 1) (pv 0) (nomark _))
      (pss_one (ps_ret (pe_tup (pa_cons pe_bl (pa_cons (pv 2) pa_nil)))))
      pss_nil)
      (pss_one (ps_ret (pe_tup (pa_cons pe_bl (pa_cons (pv 0) pa_nil))))))), ?_⟩
   obtain ⟨x, y, z, b, o, t, rfl, tx, ty, tz, he, hq⟩ := h
   have nb := enc_nod (he b (by simp))
   have no := enc_nod (he o (by simp))
   have nt := enc_nod (he t (by simp))
   have e1 : eqb (enc o) (enc t) = eqO o t := rfl
   have e2 : eqb (enc t) (enc b) = eqO t b := rfl
   have e3 : eqb (enc o) (enc b) = eqO o b := rfl
   have fin : ∀ {c : Bool} {v : V} {r : En}, set1 b o t = (c, r) → T K H ff v (enc r) → ∀ p, H p = none → Q (.ref p) (upd H p (.tup [.bl c, v])) := fun {c v r} e tv p hp => by
     refine hq p v _ (same_new hp) ?_ ?_
     · rw [e]
       exact upd_same
     · rw [e]
       exact tv.mono (same_new hp)
   walk_at "g"
   refine q_eqT ty tz no.1 nt.1 no.2 ?_
   rw [e1]
   walk_at "g"
   refine q_ite (fun c => ?_) (fun c => ?_)
   · walk_at "g"
     exact fin (if_pos (.inl c)) ty
   · walk_at "g"
     refine q_eqT tz tx nt.1 nb.1 nt.2 ?_
     rw [e2]
     walk_at "g"
     refine q_ite (fun c2 => ?_) (fun c2 => ?_)
     · walk_at "g"
       exact fin (if_pos (.inr c2)) ty
     · have n1 : ¬ (eqO o t = true ∨ eqO t b = true) := fun z => z.elim (fun z => by rw [c] at z; cases z) (fun z => by rw [c2] at z; cases z)
       walk_at "g"
       refine q_eqT ty tx no.1 nb.1 no.2 ?_
       rw [e3]
       walk_at "g"
       refine q_ite (fun c3 => ?_) (fun c3 => ?_)
       · walk_at "g"
         exact fin ((if_neg n1).trans (if_pos c3)) tz
       · walk_at "g"
         exact fin ((if_neg n1).trans (if_neg (by rw [c3]; exact Bool.false_ne_true))) tx
  case len =>
   obtain ⟨x, y, z, b, o, t, rfl, _⟩ := h
   rfl

/-- merge(base, one, two) -/
def MOk (h : Hs) : Prop := Wf h ∧ Fits 20 h ∧ All (fun d => dep d ≤ 50) h
def spMe (K : PySem.W.Frag) (C : Addr) : Sp := fun vs H Q E => ∃ (N : Addr → Prop) (a b c : Addr) (h o t : Hs), vs = [.ref a, .ref b, .ref c] ∧ T K H N (.ref a) (.dic (hK h)) ∧ T K H N (.ref b) (.dic (hK o)) ∧ T K H N (.ref c) (.dic (hK t)) ∧
  MOk h ∧ MOk o ∧ MOk t ∧ h.length ≤ 40 ∧ o.length ≤ 40 ∧ t.length ≤ 40 ∧
  ((srt (nms h) = srt (nms o) ∧ srt (nms h) = srt (nms t)) → ∀ p r l ys H', Same H H' → SqT K H' p [.ref r, .ref l] → Own K (fun b => H b = none) H' r (mHs h o t) → H' l = some (.lst ys) → H l = none → Ts K H' ff ys ((srtP (mCs h o t)).map pr) → Q (.ref p) H') ∧
  (¬ (srt (nms h) = srt (nms o) ∧ srt (nms h) = srt (nms t)) → XUnk C "house" "tables" H E)
-- merge: 0 base, 1 one, 2 two, 3 house, 4 met, 5 key, 6 table, 7 name, 8 found, 9 other, 10 is_conflict, 11 stands
theorem sc_merge : FnScope ["base", "one", "two", "house", "met", "key", "table", "name", "found", "other", "is_conflict", "stands"] ["base", "one", "two"] (defScope s_merge) := ⟨rfl, rfl, rfl, by decide +kernel, rfl, by decide +kernel, by decide +kernel⟩
theorem d_merge (B : Bt mg) (F : TopF K mg "merge" s_merge ["base", "one", "two"]) (D_names_of : Df P w K mg base "names_of" ["houses", "key"] 1 (spNO K)) (D_settled : Df P w K mg base "settled" ["base", "one", "two"] 1 (spSe K)) (D_entry_in : Df P w K mg base "entry_in" ["house", "key", "name"] 4 (spEI K C_Unknown)) (D_check_keys : Df P w K mg base "check_keys" ["base", "houses"] 3 (spCKs K C_Misfit)) : Df P w K mg base "merge" ["base", "one", "two"] 5 (spMe K C_Misfit) := by
  refine F.df sc_merge (fun vs H Q E h => ?len) (fun f cdv A outer s H vs Q E hr h => ?body)
  case body =>
   have hu := hr.units
   refine ⟨_, (pss_cons (ps_expr (pe_df D_check_keys (hr.mono (by decide)) (fun σ => passAt (takes_of rfl rfl rfl rfl) σ) (pa_cons (pv 0) (pa_cons (pe_lst (pa_cons (pv 1) (pa_cons (pv 2) pa_nil))) pa_nil))))
      (pss_cons (ps_set (i := 3) sc_merge.nd rfl (Or.inl rfl) pe_dnewK)
      (pss_cons (ps_set (i := 4) sc_merge.nd rfl (Or.inl rfl) (pe_lst pa_nil))
      (pss_cons (ps_lockU (ps_for (passes_of rfl) rfl (k_walk (K := K) rfl (pv 0)) (pg_name (i := 5) sc_merge.nd rfl (Or.inr rfl))
      (pss_cons (ps_set (i := 6) sc_merge.nd rfl (Or.inl rfl) pe_dnewK)
      (pss_cons (ps_lockU (ps_for (passes_of rfl) rfl (k_walk (K := K) rfl (pe_df D_names_of (hr.mono (by decide)) (fun σ => passAt (takes_of rfl rfl rfl rfl) σ) (pa_cons (pe_lst (pa_cons (pv 0) (pa_cons (pv 1) (pa_cons (pv 2) pa_nil)))) (pa_cons (pv 5) pa_nil)))) (pg_name (i := 7) sc_merge.nd rfl (Or.inr rfl))
      (pss_cons (ps_setLc (i := 8) (own := [("other", 9)]) (by rfl) sc_merge.nd rfl rfl (sw_true rfl rfl rfl (by kernel_rfl)) (k_walk (K := K) rfl (pe_tup (pa_cons (pv 0) (pa_cons (pv 1) (pa_cons (pv 2) pa_nil))))) (blkOk_by (by kernel_rfl)) (fun _ _ _ _ _ => (pg_name (i := 9) sc_merge.nd rfl (Or.inl rfl))) (fun _ _ _ _ _ => pts_nil) (fun _ _ _ _ _ => (pe_df0 D_entry_in (hr.mono (by decide)) (pa_cons (pv 9) (pa_cons (pv 5) (pa_cons (pv 7) pa_nil))))))
      (pss_cons (ps_asg (pe_df D_settled (hr.mono (by decide)) (fun σ => passAt (takes_of rfl rfl rfl rfl) σ) (pa_cons (pe_ix (k_ix (K := K) rfl hu) (pv 8) pe_int (fun _ _ => rfl)) (pa_cons (pe_ix (k_ix (K := K) rfl hu) (pv 8) pe_int (fun _ _ => rfl)) (pa_cons (pe_ix (k_ix (K := K) rfl hu) (pv 8) pe_int (fun _ _ => rfl)) pa_nil)))) (k_tup (K := K) (n := 2) rfl (by rfl) (pgs_cons (pg_name (i := 10) sc_merge.nd rfl (Or.inl rfl)) (pgs_cons (pg_name (i := 11) sc_merge.nd rfl (Or.inl rfl)) pgs_nil))))
      (pss_cons (ps_if (k_tr (K := K) rfl (pv 10))
      (pss_one (ps_expr (k_append (K := K) rfl (pv 4) (pa_cons (pe_tup (pa_cons (pv 5) (pa_cons (pv 7) pa_nil))) pa_nil))))
      pss_nil)
      (pss_one (ps_if (k_tr (K := K) rfl (pe_ix (k_ix (K := K) rfl hu) (pv 11) pe_int (fun _ _ => rfl)))
      (pss_one (ps_asg (pe_ix (k_ix (K := K) rfl hu) (pv 11) pe_int (fun _ _ => rfl)) (pg_sub (pv 6) (pv 7) (set_any hu))))
      pss_nil)))))))
      (pss_one (ps_asg (pv 6) (pg_sub (pv 3) (pv 5) (set_any hu))))))))
      (pss_one (ps_ret (pe_tup (pa_cons (pv 3) (pa_cons (pe_callB (k_sortP (K := K) rfl) (by rfl) B.b_sorted (by decide +kernel) (pa_cons (pv 4) pa_nil)) pa_nil))))))))), ?_⟩
   obtain ⟨N, a, b, c, h, o, t, rfl, ha, hb, hc, mh, mo, mt, l1, l2, l3, hq, hx⟩ := h
   walk_at "g"
   intro p0 hp0
   have s0 := same_new (o := .lst [.ref b, .ref c]) hp0
   walk_at "g"
   refine ⟨N, a, p0, h, _, [o, t], rfl, ha.mono s0, sq_new, .cons (hb.mono s0) (.cons (hc.mono s0) .nil), l1, ?_, fun hs H1 s1 => ?_, fun hs => ?_⟩
   · intro g m
     rcases List.mem_cons.mp m with e | m
     · rw [e]
       exact l2
     · rw [List.mem_singleton.mp m]
       exact l3
   · have so := hs o (by simp)
     have st := hs t (by simp)
     have s01 := s0.trans s1
     walk_at "g"
     intro r hr
     have s2 := same_new (o := .dK []) hr
     walk_at "g"
     intro l hl
     have s3 := same_new (o := .lst []) hl
     have s03 := s01.trans (s2.trans s3)
     have hr0 : H r = none := s01.free hr
     have hl0 : H l = none := (s01.trans s2).free hl
     walk_at "g"
     obtain ⟨a', kvs, ea, _, hra, tka⟩ := ha.dicAt
     cases ea
     have hlen : kvs.length = h.length := by rw [tka.length]; exact List.length_map _
     refine q_lockS (Sm.rd s03 hra) fun Hl od un D' lkd hD' => ?_
     walk_at "g"
     refine q_keys ?_
     walk_at "g"
     refine q_keysE lkd.at_ ?_
     have L0 : Lk1 H a kvs od Hl := ⟨fun b o e n => lkd.l1.keep b o (s03 b o e) n, lkd.at_⟩
     have hrl : r ≠ l := ne_of_none (H := upd H1 r (.dK [])) upd_same hl
     have er : Hl r = some (.dK []) := by
       rw [lkd.el r (L0.ne hra hr0)]
       exact s3 _ _ upd_same
     have el : Hl l = some (.lst []) := by
       rw [lkd.el l (L0.ne hra hl0)]
       exact upd_same
     refine for_keysS (kvs := kvs) (fun i σ Hi => ∃ (v5 v6 v7 v8 v9 v10 v11 : Option V) (ys : List V), σ = [some (.ref a), some (.ref b), some (.ref c), some (.ref r), some (.ref l), v5, v6, v7, v8, v9, v10, v11] ∧ Lk1 H a kvs od Hi ∧ Own K (fun b => H b = none ∧ b ≠ l) Hi r ((mHs h o t).take i) ∧
       Hi l = some (.lst ys) ∧ Ts K Hi ff ys ((((nms h).take i).flatMap fun k => mCon h o t k).map pr) ∧ ys.length ≤ 60 * i) ?_ ?_ ?_ ?_
     · exact ⟨none, none, none, none, none, none, none, [], rfl, L0, Own.nil er ⟨hr0, hrl⟩, el, .nil, Nat.le_refl _⟩
     · rintro i σ Hi _ ⟨v5, v6, v7, v8, v9, v10, v11, ys, rfl, l1', _⟩
       exact l1'.at_
     · rintro i k v σ Hi hkv ⟨v5, v6, v7, v8, v9, v10, v11, ys, rfl, li, oi, ei, ti, yl⟩
       obtain ⟨d0, g1, g2⟩ := Tk.at tka hkv
       obtain ⟨n, t0, hn, rfl, rfl⟩ := hK_at g1
       have hnm : n ∈ nms h := mem_nms (mem_at hn)
       have hno : n ∈ nms o := (srt_perm _).mem_iff.mp (by rw [← so]; exact (srt_perm _).mem_iff.mpr hnm)
       have hnt : n ∈ nms t := (srt_perm _).mem_iff.mp (by rw [← st]; exact (srt_perm _).mem_iff.mpr hnm)
       have e0 : lk h n = some t0 := lk_of_mem mh.1.nd (mem_at hn)
       obtain ⟨t1, e1⟩ := lk_mem_nms hno
       obtain ⟨t2, e2⟩ := lk_mem_nms hnt
       have hi40 : i < 40 := by
         have := (List.getElem?_eq_some_iff.mp hkv).1
         omega
       walk_at "g"
       intro q hq0
       have hqH : H q = none := li.fresh hq0
       have hql : q ≠ l := fun z => by rw [z, ei] at hq0; cases hq0
       have li2 := li.same (same_new (o := .dK []) hq0)
       have oi2 := oi.live.mono (same_new (o := .dK []) hq0)
       have ei2 := same_new (o := .dK []) hq0 _ _ ei
       have ti2 := ti.mono (same_new (o := .dK []) hq0)
       have eq2 : (upd Hi q (.dK [])) q = some (.dK []) := upd_same
       have oN : ∀ b, ((H b = none ∧ b ≠ l) ∧ Hi b ≠ none) → b ≠ q := fun b z e => z.2 (by rw [e]; exact hq0)
       generalize upd Hi q (.dK []) = Hj at li2 oi2 ei2 ti2 eq2
       walk_at "g"
       refine .inl ?_
       walk_at "g"
       refine q_items ?_
       walk_at "g"
       intro p1 hp1
       have rs1 := li2.rs hra
       have s4 := same_new (o := .lst [.ref a, .ref b, .ref c]) hp1
       walk_at "g"
       refine ⟨N, p1, n, _, [h, o, t], rfl, sq_new, .cons ((ha.rs rs1).mono s4) (.cons ((hb.rs rs1).mono s4) (.cons ((hc.rs rs1).mono s4) .nil)), Nat.le_refl _, ?_, fun p Hk s5 hpn hp => ?_⟩
       · intro g m
         rcases List.mem_cons.mp m with e | m
         · rw [e]
           exact ⟨t0, e0, mh.2.1 _ (lk_mem e0)⟩
         · rcases List.mem_cons.mp m with e | m
           · rw [e]
             exact ⟨t1, e1, mo.2.1 _ (lk_mem e1)⟩
           · rw [List.mem_singleton.mp m]
             exact ⟨t2, e2, mt.2.1 _ (lk_mem e2)⟩
       · have s45 := s4.trans s5
         have hpl : p ≠ l := fun z => by
           rw [z] at hpn
           rw [s4 _ _ ei2] at hpn
           cases hpn
         have mNl : (mN h o t n).length ≤ 60 := by
           have z1 := uni_len (tabs n [h, o, t]) []
           have z2 := (srt_perm (uni (tabs n [h, o, t]))).length_eq
           have f0 := mh.2.1 _ (lk_mem e0)
           have f1 := mo.2.1 _ (lk_mem e1)
           have f2 := mt.2.1 _ (lk_mem e2)
           have z3 : ((tabs n [h, o, t]).map List.length).sum = t0.length + (t1.length + (t2.length + 0)) := by
             unfold tabs
             simp only [List.map_cons, List.map_nil, List.sum_cons, List.sum_nil, e0, e1, e2, Option.getD]
           have f0' : t0.length ≤ 20 := f0
           have f1' : t1.length ≤ 20 := f1
           have f2' : t2.length ≤ 20 := f2
           have z4 : (uni (tabs n [h, o, t])).length ≤ 0 + ((tabs n [h, o, t]).map List.length).sum := z1
           show (srt (uni (tabs n [h, o, t]))).length ≤ 60
           omega
         have hmN : srt (uni (tabs n [h, o, t])) = mN h o t n := rfl
         rw [hmN] at hp
         refine q_itemsE (xs := (mN h o t n).map V.str) (.inl (.inl hp)) ?_
         refine for_items (xs := (mN h o t n).map V.str) (fun j σ Hm => ∃ (v7 v8 v9 v10 v11 : Option V) (es : List (Key × V)) (ys : List V), σ = [some (.ref a), some (.ref b), some (.ref c), some (.ref r), some (.ref l), some (.str n), some (.ref q), v7, v8, v9, v10, v11] ∧ Lk1 H a kvs od Hm ∧
           Own K (fun b => (H b = none ∧ b ≠ l) ∧ Hi b ≠ none) Hm r ((mHs h o t).take i) ∧ Hm p = some (.lst ((mN h o t n).map V.str)) ∧ Hm q = some (.dK es) ∧ Tk K Hm ff es (tK (((mN h o t n).take j).filterMap fun x => (mS h o t n x).2.map fun d => (x, d))) ∧ Hm l = some (.lst ys) ∧
           Ts K Hm ff ys (((((nms h).take i).flatMap fun k => mCon h o t k) ++ ((mN h o t n).take j).filterMap fun x => if (mS h o t n x).1 = true then some (n, x) else none).map pr) ∧ ys.length ≤ 60 * i + j) ?_ ?_ ?_ ?_
         · exact ⟨v7, v8, v9, v10, v11, [], ys, rfl, li2.same s45, oi2.mono s45, hp, s45 _ _ eq2, .nil, s45 _ _ ei2, by rw [List.take_zero, List.filterMap_nil, List.append_nil]; exact ti2.mono s45, by omega⟩
         · rintro j σ Hm _ ⟨v7, v8, v9, v10, v11, es, ys, rfl, _, _, e, _⟩
           exact .inl (.inl e)
         · rintro j y σ Hm hy ⟨v7, v8, v9, v10, v11, es, ys, rfl, lm, om, pm, qm, tm, em, cm, yl2⟩
           obtain ⟨x, hx', rfl⟩ := hlist_at hy
           have hxl : j < (mN h o t n).length := (List.getElem?_eq_some_iff.mp hx').1
           walk_at "g"
           refine q_tups ?_
           walk_at "g"
           intro p2 hp2
           have s6 := same_new (o := .tup [.ref a, .ref b, .ref c]) hp2
           have rs2 := (lm.rs hra).trans (RS.of s6)
           refine q_tupsE (xs := ([(a, h), (b, o), (c, t)] : List (Addr × Hs)).map fun z => V.ref z.1) st_new ?_
           intro d hd
           have ep2 : SqT K (upd Hm p2 (.tup [.ref a, .ref b, .ref c])) p2 (([(a, h), (b, o), (c, t)] : List (Addr × Hs)).map fun z => V.ref z.1) := st_new
           refine lc_any (walk_tup (K := K) (a := p2) (xs := ([(a, h), (b, o), (c, t)] : List (Addr × Hs)).map fun z => V.ref z.1)) (fun m Hx => Same (upd Hm p2 (.tup [.ref a, .ref b, .ref c])) Hx ∧ ∃ acc, Hx d = some (.lst acc) ∧ Ts K Hx ff acc ((([(a, h), (b, o), (c, t)] : List (Addr × Hs)).take m).map fun z => enc (ent z.2 n x)) ∧ acc.length = m) ?_ ?_ ?_ ?_
           · exact ⟨same_new hd, [], upd_same, .nil, rfl⟩
           · rintro m Hx _ ⟨sx, _⟩
             exact Sm.sqT sx ep2
           · rintro m y Hx' Hx hm3 ⟨sx, acc, ea, ta, la⟩ ⟨rfl, hy2⟩
             obtain ⟨z, hz, rfl⟩ := map_at hy2
             have zz : T K H N (.ref z.1) (.dic (hK z.2)) ∧ Wf z.2 ∧ ∃ tz, lk z.2 n = some tz := by
               have mz := mem_at hz
               rcases List.mem_cons.mp mz with e | mz
               · rw [e]
                 exact ⟨ha, mh.1, _, e0⟩
               · rcases List.mem_cons.mp mz with e | mz
                 · rw [e]
                   exact ⟨hb, mo.1, _, e1⟩
                 · rw [List.mem_singleton.mp mz]
                   exact ⟨hc, mt.1, _, e2⟩
             obtain ⟨z1, z2, tz, z3⟩ := zz
             walk_at "g"
             refine ⟨rfl, ?_⟩
             walk_at "g"
             refine ⟨N, z.1, n, x, z.2, rfl, (z1.rs rs2).mono sx, z2, ?_⟩
             rw [z3]
             intro u Hy sy tu
             have tu2 : T K Hy ff u (enc (ent z.2 n x)) := by
               unfold ent
               rw [z3]
               cases q9 : lk tz x with
               | some d9 =>
                 rw [q9] at tu
                 simp only [Option.bind, q9]
                 exact tu
               | none =>
                 rw [q9] at tu
                 simp only [Option.bind, q9]
                 exact tu
             have hm : m < 3 := hm3
             refine ⟨acc, sy _ _ ea, len_small (by omega), ?_, acc ++ [u], upd_same, ?_, by rw [List.length_append, la]; rfl⟩
             · intro b9 o9 e9
               have nd9 : b9 ≠ d := ne_of_none e9 hd
               rw [upd_ne nd9]
               exact sy _ _ (sx _ _ e9)
             · rw [take_more hz, List.map_append]
               exact ((ta.mono sy).append (.cons tu2 .nil)).upd (sy _ _ ea) (fun _ z => nomatch z) (fun _ _ z => nomatch z) fun _ z => z.elim
           · rintro Hx ⟨sx, acc, ea, ta, la⟩
             have sxx := s6.trans sx
             obtain ⟨u0, u1, u2, rfl⟩ : ∃ u0 u1 u2, acc = [u0, u1, u2] := by
               match acc, la with
               | [x, y, z], _ => exact ⟨x, y, z, rfl⟩
             cases ta with
             | cons ta0 ta =>
             cases ta with
             | cons ta1 ta =>
             cases ta with
             | cons ta2 ta =>
             have enOk : ∀ {g : Hs} {tg : Tab}, MOk g → lk g n = some tg → ∀ d, ent g n x = some d → imm d = true ∧ dep d ≤ 50 := fun {g tg} mg eg d ed => by
               unfold ent at ed
               rw [eg] at ed
               have ed2 : lk tg x = some d := ed
               exact ⟨immT_lk (mg.1.tab _ (lk_mem eg)).2 ed2, mg.2.2.lk eg ed2⟩
             walk_at "g"
             refine q_ixL (.inl (.inl ea)) (atI_nat (j := 0) rfl) ?_
             walk_at "g"
             refine q_ixL (.inl (.inl ea)) (atI_nat (j := 1) rfl) ?_
             walk_at "g"
             refine q_ixL (.inl (.inl ea)) (atI_nat (j := 2) rfl) ?_
             walk_at "g"
             refine ⟨u0, u1, u2, ent h n x, ent o n x, ent t n x, rfl, ta0, ta1, ta2, ?_, fun p5 vs Hy sy ep tv => ?_⟩
             · intro e m
               rcases List.mem_cons.mp m with c | m
               · rw [c]
                 exact enOk mh e0
               · rcases List.mem_cons.mp m with c | m
                 · rw [c]
                   exact enOk mo e1
                 · rw [List.mem_singleton.mp m]
                   exact enOk mt e2
             · have e9 : set1 (ent h n x) (ent o n x) (ent t n x) = mS h o t n x := rfl
               rw [e9] at ep tv
               walk_at "g"
               refine q_gtup (.inl (.inl ep)) rfl (q_gcons ?_)
               walk_at "g"
               refine q_gcons ?_
               walk_at "g"
               refine q_gnil ?_
               walk_at "g"
               have lx := (lm.same s6).same (sx.trans sy)
               have sxy := (s6.trans sx).trans sy
               refine q_opt (P := fun Hw => ∃ ysw, Lk1 H a kvs od Hw ∧ Own K (fun b => (H b = none ∧ b ≠ l) ∧ Hi b ≠ none) Hw r ((mHs h o t).take i) ∧ Hw p = some (.lst ((mN h o t n).map V.str)) ∧ Hw q = some (.dK es) ∧ Tk K Hw ff es (tK (((mN h o t n).take j).filterMap fun x => (mS h o t n x).2.map fun d => (x, d))) ∧ Hw l = some (.lst ysw) ∧
                 Ts K Hw ff ysw (((((nms h).take i).flatMap fun k => mCon h o t k) ++ ((mN h o t n).take (j + 1)).filterMap fun x => if (mS h o t n x).1 = true then some (n, x) else none).map pr) ∧ ysw.length ≤ 60 * i + j + 1 ∧ T K Hw ff vs (enc (mS h o t n x).2)) ?_ ?_ ?_
               · rintro Hw ⟨ysw, lw, ow, pw, qw, tw, ew, cw, ywl, tvw⟩
                 have fm1 : ((mN h o t n).take (j + 1)).filterMap (fun x => (mS h o t n x).2.map fun d => (x, d)) = (((mN h o t n).take j).filterMap fun x => (mS h o t n x).2.map fun d => (x, d)) ++ ((mS h o t n x).2.map fun d => (x, d)).toList := by
                   rw [take_more hx', List.filterMap_append]
                   exact congrArg _ (fm_one _ _)
                 cases e5 : (mS h o t n x).2 with
                 | some dd =>
                   rw [e5] at tvw fm1
                   obtain ⟨b2, ws, rfl, hws, tws⟩ := T.tupAt (show T K Hw ff vs (.tup [.bl true, dd]) from tvw)
                   cases tws with
                   | cons t0' tws =>
                   cases tws with
                   | cons t1' tws =>
                   cases tws
                   cases t0'
                   walk_at "g"
                   refine q_ixT hws (atI_nat (j := 0) rfl) ?_
                   walk_at "g"
                   refine q_ixT hws (atI_nat (j := 1) rfl) ?_
                   walk_at "g"
                   have nkx : (Sum.inr x : Key) ∉ es.map (·.1) := by
                     rw [tw.keys, keys_tK]
                     intro z
                     exact nd_at (mN_nd h o t n) hx' ((nms_fm (fun x => (mS h o t n x).2) _).subset (inr_mem.mp z))
                   have esl : es.length ≤ 60 := by
                     have z1 := tw.length
                     rw [show (tK (((mN h o t n).take j).filterMap fun x => (mS h o t n x).2.map fun d => (x, d))).length = (((mN h o t n).take j).filterMap fun x => (mS h o t n x).2.map fun d => (x, d)).length from List.length_map _] at z1
                     have z2 := List.length_filterMap_le (fun x => (mS h o t n x).2.map fun d => (x, d)) ((mN h o t n).take j)
                     rw [List.length_take] at z2
                     omega
                   refine q_setD (.inr x) qw (len_small (by omega)) ?_
                   refine ⟨_, _, _, _, _, _, ysw, rfl, lw.upd hra hqH, ow.keep keeps_upd (no_tup qw) fun b z e => oN b z e, sq_ne pw qw (fun z => nomatch z), upd_same, ?_, ?_, ?_, by omega⟩
                   · rw [putK_fresh nkx, fm1]
                     show Tk K _ ff _ (tK (_ ++ [(x, dd)]))
                     rw [tK_snoc]
                     exact (tw.append (.cons t1' .nil)).upd qw (fun _ z => nomatch z) (fun _ _ z => nomatch z) fun _ z => z.elim
                   · rw [upd_ne (Ne.symm hql)]
                     exact ew
                   · exact cw.upd qw (fun _ z => nomatch z) (fun _ _ z => nomatch z) fun _ z => z.elim
                 | none =>
                   rw [e5] at tvw fm1
                   obtain ⟨b2, ws, rfl, hws, tws⟩ := T.tupAt (show T K Hw ff vs (.tup [.bl false, .non]) from tvw)
                   cases tws with
                   | cons t0' tws =>
                   cases t0'
                   walk_at "g"
                   refine q_ixT hws (atI_nat (j := 0) rfl) ?_
                   walk_at "g"
                   refine ⟨_, _, _, _, _, es, ysw, rfl, lw, ow, pw, qw, ?_, ew, cw, by omega⟩
                   rw [fm1]
                   show Tk K _ ff _ (tK (_ ++ []))
                   rw [List.append_nil]
                   exact tw
               · intro rest hc1
                 walk_at "g"
                 refine tyL (sxy _ _ em) ?_
                 walk_at "g"
                 intro p6 hp6
                 have s8 := same_new (o := .tup [.str n, .str x]) hp6
                 have s68 := sxy.trans s8
                 walk_at "g"
                 refine q_append (s68 _ _ em) (len_small (by omega)) ?_
                 refine rest _ ⟨ys ++ [.ref p6], (lx.same s8).upd hra hl0, (om.mono s68).keep (keeps_upd (p := l)) (nt_of (s68 _ _ em) (fun _ z => nomatch z) fun _ _ z => nomatch z) (fun b z => z.1.2), ?_, ?_, ?_, upd_same, ?_, ?_, ?_⟩
                 · rw [upd_ne hpl]
                   exact s68 _ _ pm
                 · rw [upd_ne hql]
                   exact s68 _ _ qm
                 · exact (tm.mono s68).upd (s68 _ _ em) (fun _ z => nomatch z) (fun _ _ z => nomatch z) fun _ z => z.elim
                 · rw [take_more hx', List.filterMap_append, ← List.append_assoc, List.map_append]
                   have e6 : List.map pr (List.filterMap (fun x => if (mS h o t n x).1 = true then some (n, x) else none) [x]) = [pr (n, x)] := by
                     rw [List.filterMap_cons, if_pos hc1]
                     rfl
                   rw [e6]
                   exact ((cm.mono s68).append (.cons (.tup st_new (.cons (.str _) (.cons (.str _) .nil))) .nil)).upd (s68 _ _ em) (fun _ z => nomatch z) (fun _ _ z => nomatch z) fun _ z => z.elim
                 · rw [List.length_append]
                   show ys.length + 1 ≤ _
                   omega
                 · exact (tv.mono s8).upd (s68 _ _ em) (fun _ z => nomatch z) (fun _ _ z => nomatch z) fun _ z => z.elim
               · intro hc0
                 refine ⟨ys, lx, om.mono sxy, sxy _ _ pm, sxy _ _ qm, tm.mono sxy, sxy _ _ em, ?_, by omega, tv⟩
                 rw [take_more hx', List.filterMap_append]
                 have e6 : List.filterMap (fun x => if (mS h o t n x).1 = true then some (n, x) else none) [x] = [] := by
                   rw [List.filterMap_cons, if_neg (by rw [hc0]; exact Bool.false_ne_true)]
                   rfl
                 rw [e6, List.append_nil]
                 exact cm.mono sxy
         · rintro σ Hm ⟨v7, v8, v9, v10, v11, es, ys, rfl, lm, om, pm, qm, tm, em, cm, yl2⟩
           rw [List.length_map, List.take_length] at tm cm
           rw [List.length_map] at yl2
           walk_at "g"
           have hni : (mHs h o t)[i]? = some (n, mTab h o t n) := by
             unfold mHs
             rw [List.getElem?_map, nms_at hn]
             rfl
           have nk : n ∉ nms ((mHs h o t).take i) := by
             rw [nms_take, nms_mHs]
             exact nd_at mh.1.nd (nms_at hn)
           obtain ⟨kr, w1, w2, w3⟩ := om.push2 (N := fun b => H b = none ∧ b ≠ l) nk (fun z => z.2 hq0) (fun b z => z.1) ⟨hqH, hql⟩ qm tm
           have hrm : r ≠ l := hrl
           refine q_setD (.inr n) w1 (by rw [w2, List.length_take]; exact len_small (by omega)) ?_
           refine ⟨_, _, _, _, _, _, _, ys, rfl, lm.upd hra hr0, ?_, ?_, ?_, by omega⟩
           · rw [take_more hni]
             exact w3
           · rw [upd_ne (Ne.symm hrl)]
             exact em
           · have hnn : (nms h)[i]? = some n := nms_at hn
             rw [take_more hnn, List.flatMap_append]
             have e7 : List.flatMap (fun k => mCon h o t k) [n] = mCon h o t n := by simp
             rw [e7]
             exact cm.upd w1 (fun _ z => nomatch z) (fun _ _ z => nomatch z) fun _ z => z.elim
     · rintro σ Hi ⟨v5, v6, v7, v8, v9, v10, v11, ys, rfl, li, oi, ei, ti, yl⟩
       refine hD'.nx _ _ li.at_ ?_
       have hm1 : (mHs h o t).take kvs.length = mHs h o t := by
         rw [hlen]
         refine List.take_of_length_le ?_
         rw [← nms_len, nms_mHs, nms_len]
         exact Nat.le_refl _
       have hm2 : (nms h).take kvs.length = nms h := by
         rw [hlen, ← nms_len h]
         exact List.take_length
       rw [hm1] at oi
       rw [hm2] at ti
       have su := li.out lkd s03
       have eu : un Hi l = some (.lst ys) := by rw [lkd.un _ _ (L0.ne hra hl0)]; exact ei
       have ou := lkd.own (fun b z => L0.ne hra z.1) li.at_ oi
       have tu := ti.rs (lkd.unrs li.at_)
       generalize un Hi = Ho at su eu ou tu
       walk_at "g"
       refine q_sortP (.inl (.inl eu)) tu fun zs p tz hp => ?_
       have s9 := same_new (o := .lst zs) hp
       walk_at "g"
       intro p9 hp9
       have s10 := same_new (o := .tup [.ref r, .ref p]) hp9
       refine hq ⟨so, st⟩ p9 r p zs _ (su.trans (s9.trans s10)) st_new ((ou.imp fun b z => z.1).mono (s9.trans s10)) (s10 _ _ upd_same) (su.free hp) ((tz.mono s9).mono s10)
   · refine (hx fun z => ?_).mono s0
     obtain ⟨g, m, ne⟩ := hs
     rcases List.mem_cons.mp m with e | m
     · rw [e] at ne
       exact ne z.1
     · rw [List.mem_singleton.mp m] at ne
       exact ne z.2
  case len =>
   obtain ⟨N, a, b, c, h, o, t, rfl, _⟩ := h
   rfl

/-- _law_jar(script): a list of numbers below 1000 -/
def spJar (K : PySem.W.Frag) : Sp := fun vs H Q _ => ∃ (a : Addr) (ns : List Int), vs = [.ref a] ∧ SqL K H a (ns.map V.int) ∧ ns.length ≤ 63 ∧
  ∀ (r : Addr) (H' : Hp) (ms : List Int), Same H H' → H r = none → H' r = some (.lst (ms.map V.int)) → ms.length ≤ 2000 → (∀ m ∈ ms, (0 : Int) ≤ m ∧ m < 1000) → Q (.ref r) H'
theorem cut_ints {ns : List Int} {lo hi : Option Int} {i : Nat} {x : V} (h : (cutV (ns.map V.int) lo hi)[i]? = some x) : ∃ n, x = .int n := by
  have m : x ∈ cutV (ns.map V.int) lo hi := mem_at h
  unfold cutV at m
  obtain ⟨n, _, e⟩ := List.mem_map.mp (List.mem_of_mem_drop (List.mem_of_mem_take m))
  exact ⟨n, e.symm⟩
theorem ints_snoc (ms : List Int) (x : Int) : ms.map V.int ++ [V.int x] = (ms ++ [x]).map V.int := by rw [List.map_append] <;> rfl
theorem snoc_bound {ms : List Int} {x : Int} (h : ∀ m ∈ ms, (0 : Int) ≤ m ∧ m < 1000) (hx : 0 ≤ x ∧ x < 1000) : ∀ m ∈ ms ++ [x], (0 : Int) ≤ m ∧ m < 1000 := fun m hm => by
  rcases List.mem_append.mp hm with q | q
  · exact h m q
  · rw [List.mem_singleton.mp q]
    exact hx
theorem sc_law_jar : FnScope ["script", "jar", "at", "cell", "number", "k", "low"] ["script"] (defScope s_law_jar) := ⟨rfl, rfl, rfl, by decide +kernel, rfl, by decide +kernel, by decide +kernel⟩
theorem d_law_jar (B : Bt mg) (F : TopF K mg "_law_jar" s_law_jar ["script"]) : Df P w K mg base "_law_jar" ["script"] 1 (spJar K) := by
  refine F.df sc_law_jar (fun vs H Q E h => ?len) (fun f cdv A outer s H vs Q E hr h => ?body)
  case body =>
   have hu := hr.units
   refine ⟨_, (pss_cons (ps_set (i := 1) sc_law_jar.nd rfl (Or.inl rfl) (pe_lst pa_nil))
      (pss_cons (ps_set (i := 2) sc_law_jar.nd rfl (Or.inl rfl) pe_int)
      (pss_cons (ps_lockU (ps_for (passes_of rfl) rfl (k_walk (K := K) rfl (pe_slice (k_sl (K := K) rfl) (pv 0) po_none (po_some pe_int))) (pg_name (i := 3) sc_law_jar.nd rfl (Or.inl rfl))
      (pss_cons (ps_set (i := 2) sc_law_jar.nd rfl (Or.inl rfl) (pe_op (k_add (K := K) rfl) (pv 2) pe_int))
      (pss_cons (ps_set (i := 4) sc_law_jar.nd rfl (Or.inl rfl) (pe_callB k_abs (by rfl) B.b_abs (by decide +kernel) (pa_cons (pe_callTy k_int (by rfl) B.b_int (by decide +kernel) (pa_cons (pv 3) pa_nil)) pa_nil)))
      (pss_one (ps_if (pt_cmpR op_ge (pv 4) pe_int (nomark _))
      (pss_one (ps_for (passes_of rfl) rfl (pi_range1 (by rfl) B.b_range (pa_cons pe_int pa_nil)) (pg_name (i := 5) sc_law_jar.nd rfl (Or.inl rfl))
      (pss_one (ps_if (pt_cmpR op_gt (pv 4) pe_int (nomark _))
      (pss_cons (ps_expr (k_append (K := K) rfl (pv 1) (pa_cons (pe_op op_modN (pv 4) pe_int) pa_nil)))
      (pss_one (ps_set (i := 4) sc_law_jar.nd rfl (Or.inl rfl) (pe_op op_fdivN (pv 4) pe_int))))
      pss_nil))))
      (pss_cons (ps_set (i := 6) sc_law_jar.nd rfl (Or.inl rfl) (pe_op op_modN (pv 4) pe_int))
      (pss_cons (ps_expr (k_append (K := K) rfl (pv 1) (pa_cons (pe_op op_modN (pv 6) pe_int) pa_nil)))
      (pss_cons (ps_expr (k_append (K := K) rfl (pv 1) (pa_cons (pe_op op_modN (pe_op op_mul (pv 6) (pe_op (k_add (K := K) rfl) (pv 6) (pe_op op_mul pe_int (pv 2)))) pe_int) pa_nil)))
      (pss_one (ps_expr (k_append (K := K) rfl (pv 1) (pa_cons (pe_op op_modN (pe_op op_fdivN (pe_op op_mul (pv 6) (pe_op (k_add (K := K) rfl) pe_int (pv 2))) pe_int) pe_int) pa_nil)))))))))))))
      (pss_one (ps_ret (pv 1)))))), ?_⟩
   obtain ⟨a, ns, rfl, ha, hns, hq⟩ := h
   walk_at "g"
   intro r hr1
   have s1 : Same H (upd H r (.lst [])) := same_new hr1
   walk_at "g"
   refine .inl ?_
   walk_at "g"
   refine q_items ?_
   walk_at "g"
   refine q_slL (Sm.sqL s1 ha) fun p hp => ?_
   generalize hxs : cutV (ns.map V.int) none (some 63) = xs
   have hxl : xs.length ≤ 63 := by
     rw [← hxs]
     have := cutV_length (ns.map V.int) none (some 63)
     rw [List.length_map] at this
     omega
   have hrp : r ≠ p := ne_of_none (H := upd H r (.lst [])) upd_same hp
   have s2 : Same (upd H r (.lst [])) (upd (upd H r (.lst [])) p (.lst xs)) := same_new hp
   refine q_itemsE sq_new ?_
   refine for_items (xs := xs) (fun i σ Hi => ∃ (v3 v4 v5 v6 : Option V) (ms : List Int), σ = [some (.ref a), some (.ref r), some (.int i), v3, v4, v5, v6] ∧ Same H Hi ∧ SqL K Hi p xs ∧ Hi r = some (.lst (ms.map V.int)) ∧ ms.length ≤ 20 * i ∧ ∀ m ∈ ms, (0 : Int) ≤ m ∧ m < 1000) ?_ ?_ ?_ ?_
   · exact ⟨none, none, none, none, [], rfl, s1.trans s2, sq_new, s2 _ _ upd_same, Nat.le_refl _, fun m hm => by cases hm⟩
   · rintro i σ Hi _ ⟨v3, v4, v5, v6, ms, rfl, si, sq, _⟩
     exact sq
   · rintro i x σ Hi hx ⟨v3, v4, v5, v6, ms, rfl, si, sq, er, hl, hb⟩
     obtain ⟨c, rfl⟩ : ∃ n, x = .int n := by
       rw [← hxs] at hx
       exact cut_ints hx
     have hi : i < 63 := Nat.lt_of_lt_of_le (List.getElem?_eq_some_iff.mp hx).1 hxl
     have step : ∀ {H2 : Hp} {o : HO}, Same H H2 → SqL K H2 p xs → H2 r = some o → (∀ u v, o ≠ .frz u v) → ∀ o', Same H (upd H2 r o') ∧ SqL K (upd H2 r o') p xs := fun {H2 o} s q e nf o' =>
       ⟨fun z u ez => by
         rw [upd_ne (ne_of_none ez hr1)]
         exact s z u ez, sqL_keep keeps_upd hrp.symm q⟩
     walk_at "g"
     refine q_intI ?_
     walk_at "g"
     refine q_abs ?_
     walk_at "g"
     generalize hn : (if c < 0 then -c else c) = n
     have hn0 : 0 ≤ n := by
       rw [← hn]
       split <;> omega
     refine q_dec (fun _ => ?_) (fun hlt => ?_)
     · -- a large number
       walk_at "g"
       refine ⟨20, rfl, by decide, by decide, ?_⟩
       refine for_rng (lo := 0) (n := 20) (fun k σ Hk => ∃ (n : Int) (v5 : Option V) (ms : List Int), σ = [some (.ref a), some (.ref r), some (.int (i + 1)), some (.int c), some (.int n), v5, v6] ∧ 0 ≤ n ∧ Same H Hk ∧ SqL K Hk p xs ∧ Hk r = some (.lst (ms.map V.int)) ∧ ms.length ≤ 20 * i + k ∧ ∀ m ∈ ms, (0 : Int) ≤ m ∧ m < 1000) ?_ ?_ ?_
       · exact ⟨n, v5, ms, rfl, hn0, si, sq, er, hl, hb⟩
       · rintro k σ Hk hk ⟨n, v5, ms, rfl, hn0, sk, sqk, ek, hlk, hbk⟩
         walk_at "g"
         refine q_dec (fun hpos => ?_) (fun _ => ?_)
         · walk_at "g"
           refine tyL ek ?_
           walk_at "g"
           refine q_I (by decide) ?_
           walk_at "g"
           refine q_append ek (by rw [List.length_map]; exact len_small (by omega)) ?_
           rw [ints_snoc]
           obtain ⟨z1, z2⟩ := step sk sqk ek (fun _ _ z => nomatch z) (.lst ((ms ++ [n.fmod 1000]).map V.int))
           walk_at "g"
           refine q_I ⟨by decide, by decide⟩ ?_
           walk_at "g"
           refine ⟨_, _, _, rfl, (fdiv_le (by decide) hn0).1, z1, z2, upd_same, ?_, snoc_bound hbk (fmod_lt (by decide))⟩
           rw [List.length_append]
           show ms.length + 1 ≤ _
           omega
         · walk_at "g"
           exact ⟨n, _, ms, rfl, hn0, sk, sqk, ek, by omega, hbk⟩
       · rintro σ Hk ⟨n, v5, ms, rfl, hn0, sk, sqk, ek, hlk, hbk⟩
         walk_at "g"
         exact ⟨some (.int c), some (.int n), v5, v6, ms, rfl, sk, sqk, ek, by omega, hbk⟩
     · walk_at "g"
       refine q_I (by decide) ?_
       walk_at "g"
       obtain ⟨l0, l1⟩ := fmod_lt (a := n) (b := 1000003) (by decide)
       generalize n.fmod 1000003 = low at l0 l1
       refine tyL er ?_
       walk_at "g"
       refine q_I (by decide) ?_
       walk_at "g"
       refine q_append er (by rw [List.length_map]; exact len_small (by omega)) ?_
       rw [ints_snoc]
       obtain ⟨z1, z2⟩ := step si sq er (fun _ _ z => nomatch z) (.lst ((ms ++ [low.fmod 1000]).map V.int))
       generalize hH1 : upd Hi r (.lst ((ms ++ [low.fmod 1000]).map V.int)) = Ha at z1 z2
       have ea : Ha r = some (.lst ((ms ++ [low.fmod 1000]).map V.int)) := by rw [← hH1]; exact upd_same
       have ba := snoc_bound hb (fmod_lt (a := low) (b := 1000) (by decide))
       have la : (ms ++ [low.fmod 1000]).length ≤ 20 * i + 1 := by
         rw [List.length_append]
         show ms.length + 1 ≤ _
         omega
       generalize ms ++ [low.fmod 1000] = msa at ea ba la
       walk_at "g"
       refine tyL ea ?_
       walk_at "g"
       refine q_I (.inl ⟨by decide, by decide⟩) ?_
       walk_at "g"
       refine q_I (.inl ⟨by omega, by omega⟩) ?_
       walk_at "g"
       refine q_I (by decide) ?_
       walk_at "g"
       obtain ⟨y0, y1⟩ := fmod_lt (a := low * (low + 7 * (i + 1))) (b := 991) (by decide)
       generalize (low * (low + 7 * (↑i + 1))).fmod 991 = y at y0 y1
       refine q_append ea (by rw [List.length_map]; exact len_small (by omega)) ?_
       rw [ints_snoc]
       obtain ⟨z3, z4⟩ := step z1 z2 ea (fun _ _ z => nomatch z) (.lst ((msa ++ [y]).map V.int))
       generalize hH2 : upd Ha r (.lst ((msa ++ [y]).map V.int)) = Hb at z3 z4
       have eb : Hb r = some (.lst ((msa ++ [y]).map V.int)) := by rw [← hH2]; exact upd_same
       have bb := snoc_bound ba (x := y) ⟨y0, by omega⟩
       have lb : (msa ++ [y]).length ≤ 20 * i + 2 := by
         rw [List.length_append]
         show msa.length + 1 ≤ _
         omega
       generalize msa ++ [y] = msb at eb bb lb
       walk_at "g"
       refine tyL eb ?_
       walk_at "g"
       refine q_I (.inl ⟨by omega, by omega⟩) ?_
       walk_at "g"
       refine q_I ⟨by decide, by decide⟩ ?_
       walk_at "g"
       refine q_I (by decide) ?_
       walk_at "g"
       obtain ⟨x0, x1⟩ := fmod_lt (a := (low * (31 + (i + 1))).fdiv 7) (b := 997) (by decide)
       generalize ((low * (31 + (↑i + 1))).fdiv 7).fmod 997 = x at x0 x1
       refine q_append eb (by rw [List.length_map]; exact len_small (by omega)) ?_
       rw [ints_snoc]
       obtain ⟨z5, z6⟩ := step z3 z4 eb (fun _ _ z => nomatch z) (.lst ((msb ++ [x]).map V.int))
       walk_at "g"
       refine ⟨_, _, _, _, msb ++ [x], rfl, z5, z6, upd_same, ?_, snoc_bound bb ⟨x0, by omega⟩⟩
       rw [List.length_append]
       show msb.length + 1 ≤ _
       omega
   · rintro σ Hi ⟨v3, v4, v5, v6, ms, rfl, si, sq, er, hl, hb⟩
     walk_at "g"
     exact hq r Hi ms si hr1 er (by omega) hb
  case len =>
   obtain ⟨a, ns, rfl, _⟩ := h
   rfl

abbrev lim : Int := 1000000000000
/-- _law_draw(jar, at, many): a number from 0 to many - 1, the place goes on -/
def spDraw : Sp := fun vs H Q _ => ∃ (j a : Addr) (p many : Int), vs = [.ref j, .ref a, .int many] ∧ Rnd H j a p ∧ p ≤ lim ∧ 0 < many ∧
  ∀ v p', 0 ≤ v → v < many → p ≤ p' → p' ≤ p + 1 → Q (.int v) (upd H a (.lst [.int p']))
theorem atI_int {ns : List Int} {p : Int} (h0 : 0 ≤ p) (h1 : p < ns.length) : ∃ n ∈ ns, atI (ns.map V.int) p = some (.int n) := by
  obtain ⟨k, rfl⟩ : ∃ k : Nat, p = k := ⟨p.toNat, by omega⟩
  have hk : k < ns.length := by omega
  exact ⟨ns[k], List.getElem_mem hk, atI_nat (by rw [List.getElem?_map, List.getElem?_eq_getElem hk]; rfl)⟩
theorem sc_law_draw : FnScope ["jar", "at", "many", "place"] ["jar", "at", "many"] (defScope s_law_draw) := ⟨rfl, rfl, rfl, by decide +kernel, rfl, by decide +kernel, by decide +kernel⟩
theorem d_law_draw (B : Bt mg) (F : TopF K mg "_law_draw" s_law_draw ["jar", "at", "many"]) : Df P w K mg base "_law_draw" ["jar", "at", "many"] 1 (spDraw) := by
  refine F.df sc_law_draw (fun vs H Q E h => ?len) (fun f cdv A outer s H vs Q E hr h => ?body)
  case body =>
   have hu := hr.units
   refine ⟨_, (pss_cons (ps_if (pt_cmpR (k_eq (K := K) rfl hu) (pe_callB (k_len (K := K) rfl) (by rfl) B.b_len (by decide +kernel) (pa_cons (pv 0) pa_nil)) pe_int (nomark _))
      (pss_one (ps_ret pe_int))
      pss_nil)
      (pss_cons (ps_set (i := 3) sc_law_draw.nd rfl (Or.inl rfl) (pe_ix (k_ix (K := K) rfl hu) (pv 1) pe_int (fun _ _ => rfl)))
      (pss_cons (ps_asg (pe_op (k_add (K := K) rfl) (pv 3) pe_int) (pg_sub (pv 1) pe_int (set_any hu)))
      (pss_cons (ps_if (pt_cmpR op_lt (pv 3) (pe_callB (k_len (K := K) rfl) (by rfl) B.b_len (by decide +kernel) (pa_cons (pv 0) pa_nil)) (nomark _))
      (pss_one (ps_ret (pe_op op_modN (pe_callTy k_int (by rfl) B.b_int (by decide +kernel) (pa_cons (pe_ix (k_ix (K := K) rfl hu) (pv 0) (pv 3) (fun _ _ => rfl)) pa_nil)) (pv 2))))
      pss_nil)
      (pss_one (ps_ret (pe_op op_modN (pe_op op_modN (pe_callTy k_int (by rfl) B.b_int (by decide +kernel) (pa_cons (pe_op (k_add (K := K) rfl) (pe_op (k_add (K := K) rfl) (pe_op op_mul (pe_ix (k_ix (K := K) rfl hu) (pv 0) (pe_op op_modN (pe_callTy k_int (by rfl) B.b_int (by decide +kernel) (pa_cons (pv 3) pa_nil)) (pe_callB (k_len (K := K) rfl) (by rfl) B.b_len (by decide +kernel) (pa_cons (pv 0) pa_nil))) (fun _ _ => rfl)) pe_int) (pe_op op_mul (pv 3) pe_int)) (pe_op op_mul (pe_op op_fdivN (pv 3) (pe_callB (k_len (K := K) rfl) (by rfl) B.b_len (by decide +kernel) (pa_cons (pv 0) pa_nil))) pe_int)) pa_nil)) pe_int) (pv 2)))))))), ?_⟩
   obtain ⟨j, a, p, many, rfl, hR, hp, hm, hq⟩ := h
   obtain ⟨ns, e1, l1, b1⟩ := hR.ex
   have p0 := hR.p0
   have ea := hR.at_
   walk_at "g"
   refine q_lenL (.inl (.inl e1)) ?_
   walk_at "g"
   rw [List.length_map]
   refine q_dec (fun h0 => ?_) (fun h0 => ?_)
   · walk_at "g"
     have := hq 0 p (Int.le_refl 0) hm (Int.le_refl p) (by omega)
     rw [upd_self ea] at this
     exact this
   · walk_at "g"
     refine q_ixL (.inl (.inl ea)) (atI_nat (j := 0) rfl) ?_
     walk_at "g"
     refine q_setL (j := 0) ea rfl ?_
     have hh := hq
     have e2 : (upd H a (.lst [.int (p + 1)])) j = some (.lst (ns.map V.int)) := by rw [upd_ne hR.ne]; exact e1
     walk_at "g"
     refine q_lenL (.inl (.inl e2)) ?_
     walk_at "g"
     rw [List.length_map]
     refine q_dec (fun h1 => ?_) (fun h1 => ?_)
     · obtain ⟨n, hn, hat⟩ := atI_int p0 h1
       walk_at "g"
       refine q_ixL (.inl (.inl e2)) hat ?_
       walk_at "g"
       refine q_intI ?_
       walk_at "g"
       refine q_I (show many ≠ 0 by omega) ?_
       obtain ⟨z1, z2⟩ := fmod_lt (a := n) hm
       exact hq _ (p + 1) z1 z2 (by omega) (by omega)
     · walk_at "g"
       refine q_intI ?_
       walk_at "g"
       refine q_lenL (.inl (.inl e2)) ?_
       have hl0 : (0 : Int) < ns.length := by omega
       walk_at "g"
       rw [List.length_map]
       refine q_I (show (ns.length : Int) ≠ 0 by omega) ?_
       walk_at "g"
       obtain ⟨z1, z2⟩ := fmod_lt (a := p) hl0
       obtain ⟨n, hn, hat⟩ := atI_int z1 z2
       have hb := b1 n hn
       refine q_ixL (.inl (.inl e2)) hat ?_
       walk_at "g"
       refine q_I (.inr ⟨by decide, by decide⟩) ?_
       walk_at "g"
       refine q_I (.inr ⟨by decide, by decide⟩) ?_
       walk_at "g"
       refine q_lenL (.inl (.inl e2)) ?_
       walk_at "g"
       rw [List.length_map]
       refine q_I ⟨show (ns.length : Int) ≠ 0 by omega, by omega⟩ ?_
       walk_at "g"
       refine q_I (.inr ⟨by decide, by decide⟩) ?_
       walk_at "g"
       refine q_intI ?_
       walk_at "g"
       refine q_I (by decide) ?_
       walk_at "g"
       refine q_I (show many ≠ 0 by omega) ?_
       generalize ((n * 61 + p * 37 + p.fdiv ↑(List.length ns) * 11).fmod 983) = y
       obtain ⟨z1, z2⟩ := fmod_lt (a := y) hm
       exact hq _ (p + 1) z1 z2 (by omega) (by omega)
  case len =>
   obtain ⟨j, a, p, many, rfl, _⟩ := h
   rfl
/-- an entry that is drawn -/
inductive Ent : Tr → Prop
  | int (i : Int) : 1 ≤ i → i ≤ 3 → Ent (.int i)
  | tup (k : Int) : 0 ≤ k → k < 3 → Ent (.tup [.str "b", .int k])
  | word : Ent (.str "word")
theorem Ent.imm {d : Tr} (h : Ent d) : imm d = true := by
  cases h <;> rfl
/-- _law_entry(jar, at) -/
def spEnt (K : PySem.W.Frag) : Sp := fun vs H Q _ => ∃ (j a : Addr) (p : Int), vs = [.ref j, .ref a] ∧ Rnd H j a p ∧ p + 1 ≤ lim ∧
  ∀ v d H' p', Ent d → Kp a H H' → Rnd H' j a p' → p ≤ p' → p' ≤ p + 2 → T K H' ff v d → Q v H'
-- _law_copy(house): as copy_house
theorem sc_law_copy : FnScope ["house", "found", "key", "name"] ["house"] (defScope s_law_copy) := ⟨rfl, rfl, rfl, by decide +kernel, rfl, by decide +kernel, by decide +kernel⟩
theorem d_law_copy (B : Bt mg) (F : TopF K mg "_law_copy" s_law_copy ["house"]) : Df P w K mg base "_law_copy" ["house"] 1 (spCH K) := by
  refine F.df sc_law_copy (fun vs H Q E h => ?len) (fun f cdv A outer s H vs Q E hr h => ?body)
  case body =>
   have hu := hr.units
   refine ⟨_, (pss_cons (ps_set (i := 1) sc_law_copy.nd rfl (Or.inl rfl) pe_dnewK)
      (pss_cons (ps_lockU (ps_for (passes_of rfl) rfl (k_walk (K := K) rfl (pv 0)) (pg_name (i := 2) sc_law_copy.nd rfl (Or.inl rfl))
      (pss_cons (ps_asg pe_dnewK (pg_sub (pv 1) (pv 2) (set_any hu)))
      (pss_one (ps_for (passes_of rfl) rfl (k_walk (K := K) rfl (pe_callB (k_sort (K := K) rfl rfl) (by rfl) B.b_sorted (by decide +kernel) (pa_cons (pe_ix (k_ix (K := K) rfl hu) (pv 0) (pv 2) (fun _ _ => rfl)) pa_nil))) (pg_name (i := 3) sc_law_copy.nd rfl (Or.inl rfl))
      (pss_one (ps_asg (pe_ix (k_ix (K := K) rfl hu) (pe_ix (k_ix (K := K) rfl hu) (pv 0) (pv 2) (fun _ _ => rfl)) (pv 3) (fun _ _ => rfl)) (pg_sub (pe_ix (k_ix (K := K) rfl hu) (pv 1) (pv 2) (fun _ _ => rfl)) (pv 3) (set_any hu)))))))))
      (pss_one (ps_ret (pv 1))))), ?_⟩
   obtain ⟨N, a, h, rfl, ha, wf, fit, hl, hq⟩ := h
   obtain ⟨a', kvs, ea, _, hrd, tk⟩ := ha.dicAt
   cases ea
   walk_at "g"
   intro r hr0
   have s0 : Same H (upd H r (.dK [])) := same_new hr0
   generalize hH0 : upd H r (.dK []) = Hz at s0
   have er0 : Hz r = some (.dK []) := by rw [← hH0]; exact upd_same
   walk_at "g"
   refine q_lockS (Sm.rd s0 hrd) fun Hl od un D' lkd hD' => ?_
   walk_at "g"
   refine q_keys ?_
   walk_at "g"
   refine q_keysE lkd.at_ ?_
   have hlen : kvs.length = h.length := by rw [tk.length]; unfold hK; rw [List.length_map]
   have L0 : Lk1 H a kvs od Hl := ⟨fun b o e n => lkd.l1.keep b o (s0 b o e) n, lkd.at_⟩
   have era : Hl r = some (.dK []) := by rw [lkd.el r (L0.ne hrd hr0)]; exact er0
   refine for_keysS (kvs := kvs) (fun i σ H1 => ∃ (v2 v3 : Option V), σ = [some (.ref a), some (.ref r), v2, v3] ∧ Lk1 H a kvs od H1 ∧ Own K (fun b => H b = none) H1 r (cpH (h.take i))) ?_ ?_ ?_ ?_
   · exact ⟨none, none, rfl, L0, by rw [List.take_zero]; exact Own.nil era hr0⟩
   · rintro i σ H1 _ ⟨v2, v3, rfl, l, _⟩
     exact l.at_
   · rintro i k v σ H1 hkv ⟨v2, v3, rfl, l1, o1⟩
     obtain ⟨d0, g1, g2⟩ := Tk.at tk hkv
     obtain ⟨n, t, hn, rfl, rfl⟩ := hK_at g1
     have hm := mem_at hn
     have wft := wf.tab _ hm
     have ft : t.length ≤ 60 := fit _ hm
     have hlk : lk h n = some t := lk_of_mem wf.nd hm
     obtain ⟨q', es', hv, _, hq2, tkq'⟩ := T.tab tk hlk
     have tkq := (tkq'.imm wft.2 : Tk K H ff es' (tK t))
     have nn : n ∉ nms (cpH (h.take i)) := by
       rw [nms_cpH, nms_take]
       exact nd_at wf.nd (nms_at hn)
     have hil : i < h.length := by
       rw [← hlen]
       exact (List.getElem?_eq_some_iff.mp hkv).1
     walk_at "g"
     intro q hqn
     have s2 : Same H1 (upd H1 q (.dK [])) := same_new hqn
     have hqf := l1.fresh hqn
     obtain ⟨kvs2, k1, k2, k3⟩ := o1.push (t := []) nn hqn hqf s2 upd_same .nil
     have l3 : kvs2.length < sizeLine := by
       rw [k2, len_cp, List.length_take]
       exact len_small (by omega)
     walk_at "g"
     refine q_setD (.inr n) k1 l3 ?_
     have l2 : Lk1 H a kvs od (upd (upd H1 q (.dK [])) r (.dK (putK kvs2 (.inr n) (.ref q)))) := (l1.upd hrd hqf).upd hrd hr0
     generalize hH2 : upd (upd H1 q (.dK [])) r (.dK (putK kvs2 (.inr n) (.ref q))) = H2 at k3 l2
     walk_at "g"
     refine q_items ?_
     walk_at "g"
     refine q_ixK (.inr n) (.inr ⟨od, l2.at_⟩) hv ?_
     walk_at "g"
     refine q_sortD (ks := nms t) ((l2.rs hrd).dk hq2) (by rw [tkq.keys, keys_tK]) (by rw [nms_len]; omega) fun p hp => ?_
     have s3 : Same H2 (upd H2 p (.lst ((srt (nms t)).map V.str))) := same_new hp
     generalize hH3 : upd H2 p (.lst ((srt (nms t)).map V.str)) = H3 at s3
     have ep3 : H3 p = some (.lst ((srt (nms t)).map V.str)) := by rw [← hH3]; exact upd_same
     have l3' := l2.same s3
     have hpf := l2.fresh hp
     refine q_itemsE (.inl (.inl ep3)) ?_
     have nn2 : n ∉ nms (cpH (h.take i)) := nn
     refine for_items (xs := (srt (nms t)).map V.str) (fun jj σ H4 => ∃ (v3 : Option V), σ = [some (.ref a), some (.ref r), some (.str n), v3] ∧ Lk1 H a kvs od H4 ∧ H4 p = some (.lst ((srt (nms t)).map V.str)) ∧ Own K (fun b => H b = none) H4 r (cpH (h.take i) ++ [(n, (ord t).take jj)])) ?_ ?_ ?_ ?_
     · exact ⟨v3, rfl, l3', ep3, by rw [List.take_zero]; exact k3.mono s3⟩
     · rintro jj σ H4 _ ⟨v3, rfl, l4, e4, o4⟩
       exact .inl (.inl e4)
     · rintro jj x σ H4 hx ⟨v3, rfl, l4, e4, o4⟩
       obtain ⟨m, hm2, rfl⟩ := srt_at hx
       obtain ⟨dm, ho, hlm⟩ := ord_at hm2
       obtain ⟨vm, hvm, tvm⟩ := tkq.ent hlm
       obtain ⟨kv4, q4, es4, c1, c2, c3, c4, c5, c6, c7, back⟩ := o4.at (lk_snoc nn)
       have hq4 : es4.length < sizeLine := by
         rw [c4.length]
         unfold tK
         rw [List.length_map, List.length_take, len_ord]
         exact len_small (by omega)
       walk_at "g"
       refine q_ixK (.inr n) (.inr ⟨od, l4.at_⟩) hv ?_
       walk_at "g"
       refine q_ixK (.inr m) ((l4.rs hrd).dk hq2) hvm ?_
       walk_at "g"
       refine q_ixK (.inr n) (.inl c1) c2 ?_
       walk_at "g"
       refine q_setD (.inr m) c3 hq4 ?_
       have nk : (Sum.inr m : Key) ∉ es4.map (·.1) := by
         rw [c4.keys, keys_tK, nms_take, nms_ord]
         exact fun z => nd_at ((srt_perm _).nodup_iff.mpr wft.1) hm2 (inr_mem.mp z)
       have tk5 : Tk K H4 ff (putK es4 (.inr m) vm) (tK ((ord t).take (jj + 1))) := by
         rw [putK_fresh nk, take_more ho, tK_snoc]
         exact c4.append (Tk.cons (k := Sum.inr m) (tvm.rs (l4.rs hrd)) .nil)
       have o5 := back _ _ tk5
       rw [put_snoc nn] at o5
       exact ⟨_, rfl, l4.upd hrd c5, sqL_dk c3 e4, o5⟩
     · rintro σ H4 ⟨v3, rfl, l4, e4, o4⟩
       have hle : (ord t).take ((srt (nms t)).map V.str).length = ord t := by
         rw [List.length_map, (srt_perm _).length_eq, nms_len, ← len_ord t, List.take_length]
       rw [hle] at o4
       refine ⟨some (.str n), v3, rfl, l4, ?_⟩
       rw [cpH_take, take_more (cpH_at hn), ← cpH_take]
       exact o4
   · rintro σ H1 ⟨v2, v3, rfl, l1, o1⟩
     refine hD'.nx _ _ l1.at_ ?_
     rw [hlen, List.take_length] at o1
     walk_at "g"
     exact hq r _ (l1.out lkd s0) (lkd.own (fun b e => l1.ne hrd e) l1.at_ o1)
  case len =>
   obtain ⟨N, a, h, rfl, _⟩ := h
   rfl

local macro_rules | `(tactic| walk_at "g1") => `(tactic| first
  | with_reducible refine q_seq ?_
  | with_reducible refine q_asg ?_
  | with_reducible refine q_drop ?_
  | with_reducible refine q_ret ?_
  | with_reducible refine q_if ?_
  | with_reducible refine q_gname ?_
  | with_reducible refine q_gsub ?_
  | ((with_reducible refine' q_var ?hv ?_); (case hv => rfl))
  | with_reducible refine q_c ?_
  | with_reducible refine q_op ?_
  | with_reducible refine q_test ?_
  | with_reducible refine q_tr ?_
  | with_reducible refine q_trB ?_
  | with_reducible refine q_bl ?_
  | with_reducible refine q_not ?_
  | with_reducible refine q_and ?_
  | with_reducible refine q_or ?_
  | with_reducible refine q_cons ?_
  | with_reducible refine q_nil ?_
  | with_reducible refine q_I0 ?_
  | with_reducible refine q_addI ?_
  | with_reducible refine q_eqS ?_
  | with_reducible refine q_eqI ?_
  | with_reducible refine q_neS ?_
  | with_reducible refine q_neI ?_
  | with_reducible refine q_eqB ?_
  | with_reducible refine q_t ?_
  | with_reducible refine q_f ?_
  | with_reducible refine q_nf ?_
  | with_reducible refine q_nt ?_
  | with_reducible refine q_is ?_
  | with_reducible refine q_isn ?_
  | with_reducible refine q_nis ?_
  | with_reducible refine q_nisn ?_
  | with_reducible refine q_callS ?_
  | with_reducible refine q_cb ?_
  | with_reducible refine q_tup ?_
  | with_reducible refine q_lst ?_
  | with_reducible refine q_bm ?_
  | with_reducible refine q_rz ?_
  | with_reducible refine q_next ?_
  | with_reducible refine q_retN ?_
  | with_reducible refine q_ifE ?_
  | with_reducible refine q_un ?_
  | with_reducible refine q_U ?_
  | with_reducible refine q_for ?_
  | with_reducible refine q_sl ?_
  | with_reducible refine q_part ?_
  | with_reducible refine q_nopart ?_
  | with_reducible refine q_int ?_
  | with_reducible refine q_andV ?_
  | with_reducible refine q_orV ?_
  | with_reducible refine q_notV ?_
  | with_reducible refine q_dc ?_
  | with_reducible refine q_lc ?_
  | with_reducible refine q_yes ?_
  | with_reducible refine q_dnew ?_
  | with_reducible refine q_methX ?_
  | with_reducible refine q_fld ?_
  | with_reducible refine q_sfld ?_
  | with_reducible refine q_chain ?_
  | with_reducible refine q_lcX ?_
  | with_reducible refine q_scP ?_
  | with_reducible refine q_dnewT ?_
  | with_reducible refine q_cont ?_
  | with_reducible refine q_rng1 ?_
  | with_reducible refine q_bm0 ?_
  | with_reducible refine q_ckw ?_
  | with_reducible refine q_lrev ?_
  | with_reducible refine q_zip ?_
  | with_reducible refine q_revI ?_
  | with_reducible refine q_disp ?_
  | with_reducible refine q_pcons ?_
  | with_reducible refine q_pnil ?_
  | with_reducible refine q_gcons ?_
  | with_reducible refine q_gnil ?_
  | with_reducible refine q_daug ?_
  | with_reducible refine q_make ?_
  | with_reducible refine q_rng2 ?_
  | with_reducible refine q_rng3 ?_
  | ((with_reducible refine q_size ?hz ?_); (case hz => (simp only [List.length_cons, List.length_nil]; decide))))
local macro_rules | `(tactic| walk_at "g") => `(tactic| repeat walk_at "g1")

/-! ### errors as data -/
inductive Er where
  | tm (w : Str) (n : Int) | bn (n : Str) | mf (w n : Str) | un (w n : Str)
def Er.tr : Er → Tr
  | .tm w n => .tup [.str "TooMany", .str w, .int n]
  | .bn n => .tup [.str "BadName", .str n]
  | .mf w n => .tup [.str "Misfit", .str w, .str n]
  | .un w n => .tup [.str "Unknown", .str w, .str n]
/-- the error's classes -/
structure ErC where
  un : Addr
  mf : Addr
  tm : Addr
  bn : Addr
def XEr (c : ErC) (H : Hp) (E : XK) : Er → Prop
  | .tm w n => ∀ d H', Same H H' → H' d = some (.xd [("limit", .int n), ("what", .str w)]) → E (.ref c.tm) (some d) H'
  | .bn n => ∀ d H', Same H H' → H' d = some (.xd [("name", .str n)]) → E (.ref c.bn) (some d) H'
  | .mf w n => ∀ d H', Same H H' → H' d = some (.xd [("name", .str n), ("what", .str w)]) → E (.ref c.mf) (some d) H'
  | .un w n => ∀ d H', Same H H' → H' d = some (.xd [("name", .str n), ("what", .str w)]) → E (.ref c.un) (some d) H'
theorem XEr.mono {c : ErC} {H H' : Hp} {E : XK} {e : Er} (s : Same H H') (x : XEr c H E e) : XEr c H' E e := by
  cases e <;> exact fun d H1 s1 k => x d H1 (s.trans s1) k
/-- what a check asks: nothing, or its error -/
def Res (c : ErC) (r : Option Er) (H : Hp) (Q : VK) (E : XK) : Prop := (r = none → ∀ H', Same H H' → Q .non H') ∧ ∀ e, r = some e → XEr c H E e
def sq (a b : Option Er) : Option Er := match a with | some e => some e | none => b
theorem Res.mono {c : ErC} {r : Option Er} {H H' : Hp} {Q : VK} {E : XK} (s : Same H H') (x : Res c r H Q E) : Res c r H' Q E := ⟨fun e H1 s1 => x.1 e H1 (s.trans s1), fun e h => (x.2 e h).mono s⟩
theorem Res.sq {c : ErC} {a b : Option Er} {H : Hp} {Q R : VK} {E : XK} (x : Res c (sq a b) H Q E) (k : ∀ H', Same H H' → Res c b H' Q E → R .non H') : Res c a H R E := by
  cases a with
  | none => exact ⟨(fun _ H' s => k H' s (x.mono s)), (fun e h => nomatch h)⟩
  | some e => exact ⟨(fun h => nomatch h), (fun f h => by cases h; exact x.2 _ rfl)⟩
theorem Res.done {c : ErC} {H : Hp} {Q : VK} {E : XK} (x : Res c none H Q E) : Q .non H := x.1 rfl _ Same.refl'
theorem Res.lastq {c : ErC} {a : Option Er} {H : Hp} {Q R : VK} {E : XK} (x : Res c a H Q E) (k : ∀ H', Same H H' → Res c none H' Q E → R .non H') : Res c a H R E := by
  cases a with
  | none => exact ⟨(fun _ H' s => k H' s (x.mono s)), (fun e h => nomatch h)⟩
  | some e => exact ⟨(fun h => nomatch h), (fun f h => x.2 f h)⟩
theorem sq_none (a : Option Er) : sq a none = a := by cases a <;> rfl
/-! ### names -/
abbrev lettersS : Str := "abcdefghijklmnopqrstuvwxyz"
abbrev digitsS : Str := "0123456789"
def inS (y x : Str) : Bool := !(Builtin.Str.occurrences y x 0 y.length 1).isEmpty
def sgOk (c : Nat) : Bool := inS lettersS ⟨#[c]⟩ || inS digitsS ⟨#[c]⟩
def isNm (s : Str) : Bool := decide (1 ≤ s.length) && (decide (s.length ≤ 12) && ((match s.cps[0]? with | some c => inS lettersS ⟨#[c]⟩ | none => false) && s.cps.toList.all sgOk))
section
variable {K : PySem.W.Frag} {H : Hp} {Q : VK}
theorem q_lenS {z : Str} (hl : z.length ≤ sizeLine) (q : Q (.int z.length) H) : rLenU K [.str z] H Q := .inr (.inl ⟨z, rfl, hl, q⟩)
theorem q_ixS {z : Str} {i : Int} {c : Nat} (hl : z.length ≤ sizeLine) (hi : atI z.cps.toList i = some c) (q : Q (.str ⟨#[c]⟩) H) : rIxU K (.str z) (.int i) H Q := .inr (.inr (.inl ⟨z, i, c, rfl, rfl, hl, hi, q⟩))
theorem q_inStr {i j : Str} (q : Q (.bl (inS j i)) H) : rInU false K (.str i) (.str j) H Q := .inr (.inr ⟨i, j, rfl, rfl, q⟩)
theorem q_ninStr {i j : Str} (q : Q (.bl (!inS j i)) H) : rInU true K (.str i) (.str j) H Q := .inr (.inr ⟨i, j, rfl, rfl, by
  show Q (.bl (Builtin.Str.occurrences j i 0 j.length 1).isEmpty) H
  rw [← Bool.not_not (Builtin.Str.occurrences j i 0 j.length 1).isEmpty]
  exact q⟩)
theorem q_isiS {z : Str} (q : Q (.bl true) H) : rIsi K [.str z, .ty "str"] H Q := ⟨.str z, .ty "str", .type "str", .type "str", true, rfl, .ty _, .base (.str z), kit_ty (by decide +kernel), q⟩
end
/-- is_name(value) of a text -/
def spIN : Sp := fun vs H Q _ => ∃ s : Str, vs = [.str s] ∧ s.length ≤ 1000 ∧ Q (.bl (isNm s)) H
-- is_name: 0 value, 1 sign
theorem sc_is_name : FnScope ["value", "sign"] ["value"] (defScope s_is_name) := ⟨rfl, rfl, rfl, by decide +kernel, rfl, by decide +kernel, by decide +kernel⟩
theorem d_is_name (B : Bt mg) (F : TopF K mg "is_name" s_is_name ["value"]) (G_DIGITS : ∃ t, mg "DIGITS" = some (.str "0123456789" t)) (G_LETTERS : ∃ t, mg "LETTERS" = some (.str "abcdefghijklmnopqrstuvwxyz" t)) : Df P w K mg base "is_name" ["value"] 1 (spIN) := by
  refine F.df sc_is_name (fun vs H Q E h => ?len) (fun f cdv A outer s H vs Q E hr h => ?body)
  case body =>
   have hu := hr.units
   refine ⟨_, (pss_cons (ps_if (pt_not (k_tr (K := K) rfl (pe_callB (k_isi (K := K) rfl) (by rfl) B.b_isinstance (by decide +kernel) (pa_cons (pv 0) (pa_cons (pe_bltn (v := .ty "str") (by rfl) B.b_str (by decide +kernel) rfl) pa_nil)))))
      (pss_one (ps_ret pe_bl))
      pss_nil)
      (pss_cons (ps_if (PW.pt (pw_or (pt_cmpR op_lt (pe_callB (k_len (K := K) rfl) (by rfl) B.b_len (by decide +kernel) (pa_cons (pv 0) pa_nil)) pe_int (nomark _)) (pw_or1 (pt_cmpR op_gt (pe_callB (k_len (K := K) rfl) (by rfl) B.b_len (by decide +kernel) (pa_cons (pv 0) pa_nil)) pe_int (nomark _)))))
      (pss_one (ps_ret pe_bl))
      pss_nil)
      (pss_cons (ps_if (pt_cmpR (k_nin (K := K) rfl hu) (pe_ix (k_ix (K := K) rfl hu) (pv 0) pe_int (fun _ _ => rfl)) (pe_glob (v := .str "abcdefghijklmnopqrstuvwxyz") (by rfl) G_LETTERS.choose_spec ⟨_, rfl⟩) (by rfl))
      (pss_one (ps_ret pe_bl))
      pss_nil)
      (pss_cons (ps_lockU (ps_for (passes_of rfl) rfl (k_walkS (K := K) rfl (pv 0)) (pg_name (i := 1) sc_is_name.nd rfl (Or.inl rfl))
      (pss_one (ps_if (PW.pt (pw_and (pt_cmpR (k_nin (K := K) rfl hu) (pv 1) (pe_glob (v := .str "abcdefghijklmnopqrstuvwxyz") (by rfl) G_LETTERS.choose_spec ⟨_, rfl⟩) (by rfl)) (pw_and1 (pt_cmpR (k_nin (K := K) rfl hu) (pv 1) (pe_glob (v := .str "0123456789") (by rfl) G_DIGITS.choose_spec ⟨_, rfl⟩) (by rfl)))))
      (pss_one (ps_ret pe_bl))
      pss_nil))))
      (pss_one (ps_ret pe_bl)))))), ?_⟩
   obtain ⟨s, rfl, hl, hq⟩ := h
   have hz : s.length ≤ sizeLine := Nat.le_trans hl (by decide)
   walk_at "g"
   refine q_isiS ?_
   walk_at "g"
   refine q_lenS hz ?_
   walk_at "g"
   refine q_dec (fun c => ?_) (fun c => ?_)
   · walk_at "g"
     have e : isNm s = false := by
       unfold isNm
       rw [decide_eq_false (by omega), Bool.false_and]
     rw [← e]
     exact hq
   walk_at "g"
   refine q_lenS hz ?_
   walk_at "g"
   refine q_dec (fun c2 => ?_) (fun c2 => ?_)
   · walk_at "g"
     have e : isNm s = false := by
       unfold isNm
       rw [decide_eq_false (p := s.length ≤ 12) (by omega), Bool.false_and, Bool.and_false]
     rw [← e]
     exact hq
   have l0 : 0 < s.cps.size := by
     have : s.length = s.cps.size := rfl
     omega
   have e0 : isNm s = (inS lettersS ⟨#[s.cps[0]]⟩ && s.cps.toList.all sgOk) := by
     unfold isNm
     rw [decide_eq_true (p := 1 ≤ s.length) (by omega), decide_eq_true (p := s.length ≤ 12) (by omega), Bool.true_and, Bool.true_and, Array.getElem?_eq_getElem l0]
   walk_at "g"
   refine q_ixS (c := s.cps[0]) hz (atI_nat (j := 0) (by rw [Array.getElem?_toList]; exact Array.getElem?_eq_getElem l0)) ?_
   walk_at "g"
   refine q_ninStr ?_
   walk_at "g"
   refine q_ite (fun c3 => ?_) (fun c3 => ?_)
   · walk_at "g"
     have e : isNm s = false := by
       rw [e0, show inS lettersS ⟨#[s.cps[0]]⟩ = false by simpa using c3, Bool.false_and]
     rw [← e]
     exact hq
   have e3 : inS lettersS ⟨#[s.cps[0]]⟩ = true := by simpa using c3
   rw [e3, Bool.true_and] at e0
   walk_at "g"
   refine .inl ?_
   walk_at "g"
   refine .inr ⟨_, rfl, s, rfl, ?_⟩
   refine for_any walk_str (fun i σ Hx => ∃ v1 : Option V, σ = [some (.str s), v1] ∧ Hx = H ∧ (s.cps.toList.take i).all sgOk = true) ⟨_, rfl, rfl, rfl⟩ (fun _ _ _ _ _ => trivial) ?_ ?_
   · rintro i x σ Hx Hy hi ⟨v1, rfl, rfl, ok⟩ ⟨rfl, c, ec, rfl⟩
     have tk : s.cps.toList.take (i + 1) = s.cps.toList.take i ++ [c] := take_more (by rw [Array.getElem?_toList]; exact ec)
     walk_at "g"
     refine q_ninStr ?_
     walk_at "g"
     refine q_ite (fun c4 => ?_) (fun c4 => ?_)
     · walk_at "g"
       refine q_ninStr ?_
       walk_at "g"
       refine q_ite (fun c5 => ?_) (fun c5 => ?_)
       · walk_at "g"
         have e : isNm s = false := by
           rw [e0]
           cases q : s.cps.toList.all sgOk with
           | false => rfl
           | true =>
             have m : c ∈ s.cps.toList := mem_at (show s.cps.toList[i]? = some c by rw [Array.getElem?_toList]; exact ec)
             have z := List.all_eq_true.mp q c m
             unfold sgOk at z
             rw [show inS lettersS ⟨#[c]⟩ = false by simpa using c4, show inS digitsS ⟨#[c]⟩ = false by simpa using c5] at z
             cases z
         rw [← e]
         exact hq
       · walk_at "g"
         refine ⟨_, rfl, rfl, ?_⟩
         rw [tk, List.all_append, ok]
         unfold sgOk
         simp [show inS digitsS ⟨#[c]⟩ = true by simpa using c5, sgOk]
     · walk_at "g"
       refine ⟨_, rfl, rfl, ?_⟩
       rw [tk, List.all_append, ok]
       simp [sgOk, show inS lettersS ⟨#[c]⟩ = true by simpa using c4]
   · rintro σ Hx ⟨v1, rfl, rfl, ok⟩
     walk_at "g"
     have ln : s.cps.size = s.cps.toList.length := by simp
     rw [ln, List.take_length] at ok
     rw [← ok, ← e0]
     exact hq
  case len =>
   obtain ⟨s, rfl, _⟩ := h
   rfl
/-- check_name(value) of a text -/
def spCN (c : ErC) : Sp := fun vs H Q E => ∃ s : Str, vs = [.str s] ∧ s.length ≤ 1000 ∧ (isNm s = true → ∀ H', Same H H' → Q (.str s) H') ∧ (isNm s = false → XEr c H E (.bn s))
theorem sc_check_name : FnScope ["value"] ["value"] (defScope s_check_name) := ⟨rfl, rfl, rfl, by decide +kernel, rfl, by decide +kernel, by decide +kernel⟩
theorem d_check_name (B : Bt mg) (F : TopF K mg "check_name" s_check_name ["value"]) (X_BadName : Xc P w K mg base "BadName" ["name"] C_BadName) (D_is_name : Df P w K mg base "is_name" ["value"] 1 (spIN)) : Df P w K mg base "check_name" ["value"] 3 (spCN ⟨C_Unknown, C_Misfit, C_TooMany, C_BadName⟩) := by
  refine F.df sc_check_name (fun vs H Q E h => ?len) (fun f cdv A outer s H vs Q E hr h => ?body)
  case body =>
   have hu := hr.units
   refine ⟨_, (pss_cons (ps_if (pt_not (k_tr (K := K) rfl (pe_df D_is_name (hr.mono (by decide)) (fun σ => passAt (takes_of rfl rfl rfl rfl) σ) (pa_cons (pv 0) pa_nil))))
      (pss_one (ps_rz rfl X_BadName (hr.mono (by decide)) (takes_of rfl rfl rfl rfl) (pa_cons (pv 0) pa_nil)))
      pss_nil)
      (pss_one (ps_ret (pv 0)))), ?_⟩
   obtain ⟨s, rfl, hl, h1, h2⟩ := h
   walk_at "g"
   refine ⟨s, rfl, hl, ?_⟩
   walk_at "g"
   refine q_ite (fun c => ?_) (fun c => ?_)
   · walk_at "g"
     exact q_mk rfl fun d H' s1 _ hd => h2 (by simpa using c) d H' s1 hd
   · walk_at "g"
     exact h1 (by simpa using c) _ Same.refl'
  case len =>
   obtain ⟨s, rfl, _⟩ := h
   rfl
/-! ### yards -/
def tb (h : Hs) (k : Str) : Tab := (lk h k).getD []
def pluralT : List (Str × Str) := [("spot", "spots"), ("door", "doors"), ("lift", "lifts"), ("lane", "lanes"), ("kind", "kinds"), ("machine", "machines"), ("parcel", "parcels"), ("program", "programs")]
/-- need(yard, what, name) -/
def ndE (h : Hs) (what pl name : Str) : Option Er := if (lk (tb h pl) name).isSome = true then none else some (.un what name)
def spNeed (c : ErC) (K : PySem.W.Frag) : Sp := fun vs H Q E => ∃ (N : Addr → Prop) (a : Addr) (h : Hs) (what pl name : Str) (t : Tab), vs = [.ref a, .str what, .str name] ∧ T K H N (.ref a) (.dic (hK h)) ∧ lk pluralT what = some pl ∧ lk h pl = some t ∧ Res c (ndE h what pl name) H Q E
theorem plural_at : ∀ what pl, lk pluralT what = some pl → lk gt_PLURAL what = some (.str pl) := fun what pl e => by
  have m := lk_mem e
  simp only [pluralT, List.mem_cons, List.not_mem_nil, or_false, Prod.mk.injEq] at m
  rcases m with m | m | m | m | m | m | m | m <;> (obtain ⟨rfl, rfl⟩ := m; kernel_rfl)
theorem sc_need : FnScope ["yard", "what", "name"] ["yard", "what", "name"] (defScope s_need) := ⟨rfl, rfl, rfl, by decide +kernel, rfl, by decide +kernel, by decide +kernel⟩
theorem d_need (B : Bt mg) (F : TopF K mg "need" s_need ["yard", "what", "name"]) {A_PLURAL : Addr} (G_PLURAL : mg "PLURAL" = some (.ref A_PLURAL)) (W_PLURAL : GD K w A_PLURAL gt_PLURAL) (X_Unknown : Xc P w K mg base "Unknown" ["what", "name"] C_Unknown) : Df P w K mg base "need" ["yard", "what", "name"] 3 (spNeed ⟨C_Unknown, C_Misfit, C_TooMany, C_BadName⟩ K) := by
  refine F.df sc_need (fun vs H Q E h => ?len) (fun f cdv A outer s H vs Q E hr h => ?body)
  case body =>
   have hu := hr.units
   refine ⟨_, (pss_one (ps_if (pt_cmpR (k_nin (K := K) rfl hu) (pv 2) (pe_ix (k_ixW (K := K) (w := w) rfl rfl hu) (pv 0) (pe_ix (k_ixW (K := K) (w := w) rfl rfl hu) (pe_glob (v := .ref A_PLURAL) (by rfl) G_PLURAL rfl) (pv 1) (fun _ _ => rfl)) (fun _ _ => rfl)) (by rfl))
      (pss_one (ps_rz rfl X_Unknown (hr.mono (by decide)) (takes_of rfl rfl rfl rfl) (pa_cons (pv 1) (pa_cons (pv 2) pa_nil))))
      pss_nil)), ?_⟩
   obtain ⟨N, a, h, what, pl, name, t, rfl, ha, hp, ht, hr⟩ := h
   obtain ⟨a', kvs, ea, _, hra, tka⟩ := ha.dicAt
   cases ea
   obtain ⟨q, es, z1, _, z2, z3⟩ := T.tab tka ht
   walk_at "g"
   refine q_ixG W_PLURAL (plural_at _ _ hp) fun x tx => ?_
   cases (tx H ff)
   refine .inl (q_ixK (.inr pl) hra z1 ?_)
   walk_at "g"
   refine q_ninD (.inr name) z2 ?_
   have et : tb h pl = t := by
     unfold tb
     rw [ht]
     rfl
   have es1 : (valV es (.inr name)).isSome = (lk (tb h pl) name).isSome := by rw [z3.isSome, get_tK, et]
   rw [es1]
   cases q : (lk (tb h pl) name).isSome with
   | true =>
     walk_at "g"
     exact hr.1 (if_pos q) _ Same.refl'
   | false =>
     walk_at "g"
     exact q_mk rfl fun d H' s1 _ hd => hr.2 (.un what name) (if_neg (by rw [q]; exact Bool.false_ne_true)) d H' s1 hd
  case len =>
   obtain ⟨N, a, h, what, pl, name, t, rfl, _⟩ := h
   rfl
/-- check_ranges(what, name, entry, ranges) -/
def inR (p : Int × Int × Int) : Bool := decide (p.2.1 ≤ p.1) && decide (p.1 ≤ p.2.2)
def rgE (what name : Str) (ps : List (Int × Int × Int)) : Option Er := if ps.all inR = true then none else some (.mf what name)
def spRg (c : ErC) (K : PySem.W.Frag) : Sp := fun vs H Q E => ∃ (N N2 : Addr → Prop) (what name : Str) (x y : V) (ps : List (Int × Int × Int)), vs = [.str what, .str name, x, y] ∧ T K H N x (.tup (ps.map fun p => .int p.1)) ∧ T K H N2 y (.tup (ps.map fun p => .tup [.int p.2.1, .int p.2.2])) ∧ Res c (rgE what name ps) H Q E
theorem sc_check_ranges : FnScope ["what", "name", "entry", "ranges", "number", "least", "most"] ["what", "name", "entry", "ranges"] (defScope s_check_ranges) := ⟨rfl, rfl, rfl, by decide +kernel, rfl, by decide +kernel, by decide +kernel⟩
theorem d_check_ranges (B : Bt mg) (F : TopF K mg "check_ranges" s_check_ranges ["what", "name", "entry", "ranges"]) (X_Misfit : Xc P w K mg base "Misfit" ["what", "name"] C_Misfit) : Df P w K mg base "check_ranges" ["what", "name", "entry", "ranges"] 3 (spRg ⟨C_Unknown, C_Misfit, C_TooMany, C_BadName⟩ K) := by
  refine F.df sc_check_ranges (fun vs H Q E h => ?len) (fun f cdv A outer s H vs Q E hr h => ?body)
  case body =>
   have hu := hr.units
   refine ⟨_, (pss_one (ps_for (passes_of rfl) rfl (RZ.pi_zipA (by rfl) B.b_zip (pa_cons (pv 2) (pa_cons (pv 3) pa_nil))) (k_tup (K := K) (n := 2) rfl (by rfl) (pgs_cons (pg_name (i := 4) sc_check_ranges.nd rfl (Or.inl rfl)) (pgs_cons (k_tup (K := K) (n := 2) rfl (by rfl) (pgs_cons (pg_name (i := 5) sc_check_ranges.nd rfl (Or.inl rfl)) (pgs_cons (pg_name (i := 6) sc_check_ranges.nd rfl (Or.inl rfl)) pgs_nil))) pgs_nil)))
      (pss_one (ps_if (PW.pt (pw_or (pt_cmpR op_lt (pv 4) (pv 5) (nomark _)) (pw_or1 (pt_cmpR op_gt (pv 4) (pv 6) (nomark _)))))
      (pss_one (ps_rz rfl X_Misfit (hr.mono (by decide)) (takes_of rfl rfl rfl rfl) (pa_cons (pv 0) (pa_cons (pv 1) pa_nil))))
      pss_nil)))), ?_⟩
   obtain ⟨N, N2, what, name, x, y, ps, rfl, hx, hy, hr⟩ := h
   cases hx with
   | @tup a xs _ sx tx =>
   cases hy with
   | @tup b ys _ sy ty =>
   have lx : xs.length = ps.length := by rw [tx.length, List.length_map]
   have ly : ys.length = ps.length := by rw [ty.length, List.length_map]
   walk_at "g"
   refine ⟨a, b, xs, ys, rfl, .inr ⟨sx, sy, ?_⟩⟩
   refine for_any (walk_zipT (xs := xs) (ys := ys) (n := ps.length) (by omega)) (fun i σ Hx => ∃ v4 v5 v6 : Option V, σ = [some (.str what), some (.str name), some (.ref a), some (.ref b), v4, v5, v6] ∧ Same H Hx ∧ (ps.take i).all inR = true) ⟨_, _, _, rfl, Same.refl', rfl⟩ ?_ ?_ ?_
   · rintro i σ Hx _ ⟨v4, v5, v6, rfl, sH, _⟩
     exact ⟨Sm.sqT sH sx, Sm.sqT sH sy⟩
   · rintro i v σ Hx Hy hi ⟨v4, v5, v6, rfl, sH, ok⟩ ⟨t, p, q, rfl, ht, rfl, e1, e2⟩
     obtain ⟨d1, g1, k1⟩ := tx.gets e1
     obtain ⟨r, hr1, rfl⟩ := map_at g1
     obtain ⟨d2, g2, k2⟩ := ty.gets e2
     obtain ⟨r2, hr2, rfl⟩ := map_at g2
     rw [hr1] at hr2
     cases hr2
     cases k1
     have s1 := sH.trans (same_new (o := .tup [.int r.1, q]) ht)
     have k2 := k2.mono s1
     cases k2 with
     | @tup u us _ su tu =>
     cases tu with
     | cons ta tr =>
     cases tr with
     | cons tb2 tr =>
     cases tr
     cases ta
     cases tb2
     have tk := take_more hr1
     refine q_gtup st_new rfl ?_
     walk_at "g"
     refine q_gtup su rfl ?_
     walk_at "g"
     refine q_dec (fun c => ?_) (fun c => ?_)
     · walk_at "g"
       exact q_mk rfl fun d H' s2 _ hd => hr.2 (.mf what name) (if_neg (fun z => by
         have := List.all_eq_true.mp z r (mem_at hr1)
         unfold inR at this
         rw [decide_eq_false (p := r.2.1 ≤ r.1) (by omega)] at this
         cases this)) d H' (s1.trans s2) hd
     · walk_at "g"
       refine q_dec (fun c2 => ?_) (fun c2 => ?_)
       · walk_at "g"
         exact q_mk rfl fun d H' s2 _ hd => hr.2 (.mf what name) (if_neg (fun z => by
           have := List.all_eq_true.mp z r (mem_at hr1)
           unfold inR at this
           rw [decide_eq_false (p := r.1 ≤ r.2.2) (by omega), Bool.and_false] at this
           cases this)) d H' (s1.trans s2) hd
       · walk_at "g"
         refine ⟨_, _, _, rfl, s1, ?_⟩
         rw [tk, List.all_append, ok]
         simp [inR, show r.2.1 ≤ r.1 by omega, show r.1 ≤ r.2.2 by omega]
   · rintro σ Hx ⟨v4, v5, v6, rfl, sH, ok⟩
     walk_at "g"
     rw [List.take_length] at ok
     exact hr.1 (if_pos ok) _ sH
  case len =>
   obtain ⟨N, N2, what, name, x, y, ps, rfl, _⟩ := h
   rfl

/-! ### programs: the two that a law's yards have -/
def wdB (b : Bool) : Str := cond b "go" "wait"
def itB (b : Bool) : Tr := cond b (.str "c") (.int 1)
def itV (b : Bool) : V := cond b (.str "c") (.int 1)
def ptB (b : Bool) : Str := cond b "spot" "number"
def stB (b : Bool) : Tr := .tup [.str (wdB b), itB b]
theorem wdB_ne (b : Bool) : wdB b ≠ "if" ∧ wdB b ≠ "while" ∧ wdB b ≠ "either" := by cases b <;> decide +kernel
/-- a statement, a program -/
def StV (K : PySem.W.Frag) (H : Hp) (v : V) (b : Bool) : Prop := ∃ q, v = .ref q ∧ SqT K H q [.str (wdB b), itV b]
def PrV (K : PySem.W.Frag) (H : Hp) (v : V) (b : Bool) : Prop := ∃ q sv, v = .ref q ∧ SqT K H q [sv] ∧ StV K H sv b
section
variable {K : PySem.W.Frag} {H H' : Hp} {v : V} {b : Bool} {N : Addr → Prop}
theorem StV.mono (s : Same H H') (x : StV K H v b) : StV K H' v b := by
  obtain ⟨q, rfl, h⟩ := x
  exact ⟨q, rfl, Sm.sqT s h⟩
theorem PrV.mono (s : Same H H') (x : PrV K H v b) : PrV K H' v b := by
  obtain ⟨q, sv, rfl, h, y⟩ := x
  exact ⟨q, sv, rfl, Sm.sqT s h, y.mono s⟩
theorem itV_of (h : T K H N v (itB b)) : v = itV b := by
  cases b <;> (cases h; rfl)
theorem itV_T : T K H N (itV b) (itB b) := by
  cases b
  · exact .int 1
  · exact .str "c"
theorem StV.of (h : T K H N v (stB b)) : StV K H v b := by
  cases h with
  | tup s t =>
    cases t with
    | cons a t =>
      cases t with
      | cons c t =>
        cases t
        cases a
        rw [itV_of c] at s
        exact ⟨_, rfl, s⟩
theorem PrV.of (h : T K H N v (.tup [stB b])) : PrV K H v b := by
  cases h with
  | tup s t =>
    cases t with
    | cons a t =>
      cases t
      exact ⟨_, _, rfl, s, .of a⟩
end
theorem tor_true {c c' : TT} {σ : L2.St} {H : Hp} {R : Bool → Hp → Prop} (h : ∀ R : Bool → Hp → Prop, R true H → tOr c c' σ H R) (q : R true H) : tOr c c' σ H R := h R q
/-- reversed(a tuple) -/
theorem walk_revT {K : PySem.W.Frag} {a : Addr} {xs : List V} : Walk (RT.ItvT K a xs.length) xs.length (fun H => SqT K H a xs) (fun i H x H' => H' = H ∧ xs[xs.length - 1 - i]? = some x) :=
  ⟨fun i _ hi q => ⟨hi, xs, xs[xs.length - 1 - i]'(by omega), q, by simp [show xs.length - 1 - i < xs.length by omega]⟩, fun _ _ => Nat.le_refl _, fun _ _ _ _ _ q y => ⟨y.1, y.2 xs q⟩⟩
/-- blocks_of(statement) of an act -/
def spBl (K : PySem.W.Frag) : Sp := fun vs H Q _ => ∃ (v : V) (b : Bool), vs = [v] ∧ StV K H v b ∧ ∀ p H', Same H H' → H' p = some (.tup []) → Q (.ref p) H'
theorem sc_blocks_of : FnScope ["statement"] ["statement"] (defScope s_blocks_of) := ⟨rfl, rfl, rfl, by decide +kernel, rfl, by decide +kernel, by decide +kernel⟩
theorem d_blocks_of (B : Bt mg) (F : TopF K mg "blocks_of" s_blocks_of ["statement"]) : Df P w K mg base "blocks_of" ["statement"] 1 (spBl K) := by
  refine F.df sc_blocks_of (fun vs H Q E h => ?len) (fun f cdv A outer s H vs Q E hr h => ?body)
  case body =>
   have hu := hr.units
   refine ⟨_, (pss_cons (ps_if (pt_cmpR (k_eq (K := K) rfl hu) (pe_ix (k_ix (K := K) rfl hu) (pv 0) pe_int (fun _ _ => rfl)) pe_str (nomark _))
      (pss_one (ps_ret (pe_tup (pa_cons (pe_ix (k_ix (K := K) rfl hu) (pv 0) pe_int (fun _ _ => rfl)) (pa_cons (pe_ix (k_ix (K := K) rfl hu) (pv 0) pe_int (fun _ _ => rfl)) pa_nil)))))
      pss_nil)
      (pss_cons (ps_if (pt_cmpR (k_eq (K := K) rfl hu) (pe_ix (k_ix (K := K) rfl hu) (pv 0) pe_int (fun _ _ => rfl)) pe_str (nomark _))
      (pss_one (ps_ret (pe_tup (pa_cons (pe_ix (k_ix (K := K) rfl hu) (pv 0) pe_int (fun _ _ => rfl)) pa_nil))))
      pss_nil)
      (pss_cons (ps_if (pt_cmpR (k_eq (K := K) rfl hu) (pe_ix (k_ix (K := K) rfl hu) (pv 0) pe_int (fun _ _ => rfl)) pe_str (nomark _))
      (pss_one (ps_ret (pe_tup (pa_cons (pe_ix (k_ix (K := K) rfl hu) (pv 0) pe_int (fun _ _ => rfl)) (pa_cons (pe_ix (k_ix (K := K) rfl hu) (pv 0) pe_int (fun _ _ => rfl)) pa_nil)))))
      pss_nil)
      (pss_one (ps_ret (pe_tup pa_nil)))))), ?_⟩
   obtain ⟨v, b, rfl, ⟨q, rfl, hs⟩, hq⟩ := h
   have n := wdB_ne b
   walk_at "g"
   refine q_ixT hs (atI_nat (j := 0) rfl) ?_
   walk_at "g"
   rw [decide_eq_false n.1]
   walk_at "g"
   refine q_ixT hs (atI_nat (j := 0) rfl) ?_
   walk_at "g"
   rw [decide_eq_false n.2.1]
   walk_at "g"
   refine q_ixT hs (atI_nat (j := 0) rfl) ?_
   walk_at "g"
   rw [decide_eq_false n.2.2]
   walk_at "g"
   intro p hp
   exact hq p _ (same_new hp) upd_same
  case len =>
   obtain ⟨v, b, rfl, _⟩ := h
   rfl
/-- all_statements(program, most) -/
def spAll (K : PySem.W.Frag) : Sp := fun vs H Q _ => ∃ (v m : V) (b : Bool), vs = [v, m] ∧ PrV K H v b ∧ (m = .non ∨ m = .int 41) ∧ ∀ r t sv H', Same H H' → H r = none → H' r = some (.lst [.ref t]) → H' t = some (.tup [.int 0, sv]) → StV K H' sv b → Q (.ref r) H'
-- all_statements: 0 program, 1 most, 2 found, 3 waiting, 4 statement, 5 depth, 6 block, 7 inner
theorem sc_all_statements : FnScope ["program", "most", "found", "waiting", "statement", "depth", "block", "inner"] ["program", "most"] (defScope s_all_statements) := ⟨rfl, rfl, rfl, by decide +kernel, rfl, by decide +kernel, by decide +kernel⟩
theorem d_all_statements (B : Bt mg) (F : TopF K mg "all_statements" s_all_statements ["program", "most"]) (D_blocks_of : Df P w K mg base "blocks_of" ["statement"] 1 (spBl K)) : Df P w K mg base "all_statements" ["program", "most"] 2 (spAll K) := by
  refine F.df sc_all_statements (fun vs H Q E h => ?len) (fun f cdv A outer s H vs Q E hr h => ?body)
  case body =>
   have hu := hr.units
   refine ⟨_, (pss_cons (ps_set (i := 2) sc_all_statements.nd rfl (Or.inl rfl) (pe_lst pa_nil))
      (pss_cons (ps_setLc (i := 3) (own := [("statement", 4)]) (by rfl) sc_all_statements.nd rfl rfl (sw_true rfl rfl rfl (by kernel_rfl)) (RT.pi_revA (by rfl) B.b_reversed (pv 0)) (blkOk_by (by kernel_rfl)) (fun _ _ _ _ _ => (pg_name (i := 4) sc_all_statements.nd rfl (Or.inl rfl))) (fun _ _ _ _ _ => pts_nil) (fun _ _ _ _ _ => (pe_tup (pa_cons pe_int (pa_cons (pv 4) pa_nil)))))
      (pss_cons (ps_while (passes_of rfl) (PW.pt (pw_and (k_tr (K := K) rfl (pv 3)) (pw_and1 (PW.pt (pw_or (pt_cmpR op_isN (pv 1) pe_non (nomark _)) (pw_or1 (pt_cmpR op_lt (pe_callB (k_len (K := K) rfl) (by rfl) B.b_len (by decide +kernel) (pa_cons (pv 2) pa_nil)) (pv 1) (nomark _))))))))
      (pss_cons (ps_asg (k_popL (K := K) rfl (pv 3)) (k_tup (K := K) (n := 2) rfl (by rfl) (pgs_cons (pg_name (i := 5) sc_all_statements.nd rfl (Or.inl rfl)) (pgs_cons (pg_name (i := 4) sc_all_statements.nd rfl (Or.inl rfl)) pgs_nil))))
      (pss_cons (ps_expr (k_append (K := K) rfl (pv 2) (pa_cons (pe_tup (pa_cons (pv 5) (pa_cons (pv 4) pa_nil))) pa_nil)))
      (pss_one (ps_for (passes_of rfl) rfl (RT.pi_revA (by rfl) B.b_reversed (pe_df D_blocks_of (hr.mono (by decide)) (fun σ => passAt (takes_of rfl rfl rfl rfl) σ) (pa_cons (pv 4) pa_nil))) (pg_name (i := 6) sc_all_statements.nd rfl (Or.inl rfl))
      (pss_one (ps_for (passes_of rfl) rfl (RT.pi_revA (by rfl) B.b_reversed (pv 6)) (pg_name (i := 7) sc_all_statements.nd rfl (Or.inl rfl))
      (pss_one (ps_expr (k_append (K := K) rfl (pv 3) (pa_cons (pe_tup (pa_cons (pe_op (k_add (K := K) rfl) (pv 5) pe_int) (pa_cons (pv 7) pa_nil))) pa_nil)))))))))))
      (pss_one (ps_ret (pv 2)))))), ?_⟩
   obtain ⟨v, m, b, rfl, ⟨q, sv, rfl, hs, hst⟩, hm, hq⟩ := h
   walk_at "g"
   intro f hf
   have s1 := same_new (o := .lst []) hf
   have ef : (upd H f (.lst [])) f = _ := upd_same
   generalize upd H f (.lst []) = H1 at s1 ef
   walk_at "g"
   refine ⟨q, [sv], rfl, .inr ⟨Sm.sqT s1 hs, ?_⟩⟩
   walk_at "g"
   intro wt hwt
   have s2 := same_new (o := .lst []) hwt
   have hf1 := ne_of_none ef hwt
   refine lc_any (walk_revT (K := K) (a := q) (xs := [sv])) (fun i Hx => Same H1 Hx ∧ ((i = 0 ∧ Hx wt = some (.lst [])) ∨ (i = 1 ∧ ∃ t, Hx wt = some (.lst [.ref t]) ∧ Hx t = some (.tup [.int 0, sv])))) ⟨s2, .inl ⟨rfl, upd_same⟩⟩ (fun i Hx _ p => Sm.sqT (s1.trans p.1) hs) ?_ ?_
   · rintro i x Hx Hy hi ⟨sx, p⟩ ⟨rfl, ex⟩
     obtain rfl : i = 0 := by
       simp at hi
       exact hi
     cases (show some sv = some x from ex)
     obtain ⟨_, ew⟩ : 0 = 0 ∧ Hy wt = some (.lst []) := p.elim id fun z => absurd z.1 (by decide)
     walk_at "g"
     refine ⟨rfl, ?_⟩
     walk_at "g"
     intro t ht
     have s3 := same_new (o := .tup [.int 0, sv]) ht
     refine ⟨[], s3 _ _ ew, by decide, fun z u e => ?_, .inr ⟨rfl, t, upd_same, ?_⟩⟩
     · rw [upd_ne (ne_of_none e hwt)]
       exact s3 _ _ (sx _ _ e)
     · rw [upd_ne (ne_of_none ew ht).symm]
       exact upd_same
   · rintro Hx ⟨sx, p⟩
     obtain ⟨t, ew, et⟩ : ∃ t, Hx wt = some (.lst [.ref t]) ∧ Hx t = some (.tup [.int 0, sv]) := p.elim (fun z => nomatch z.1) fun z => z.2
     have sH := s1.trans sx
     have efx := sx _ _ ef
     walk_at "g"
     refine q_while ⟨fun m2 σ Hy => ∃ v4 v5 v6 v7 : Option V, σ = [some (.ref q), some m, some (.ref f), some (.ref wt), v4, v5, v6, v7] ∧ Same H Hy ∧ ((m2 = 1 ∧ Hy f = some (.lst []) ∧ Hy wt = some (.lst [.ref t]) ∧ Hy t = some (.tup [.int 0, sv])) ∨ (m2 = 0 ∧ Hy wt = some (.lst []) ∧ ∃ t2, Hy f = some (.lst [.ref t2]) ∧ Hy t2 = some (.tup [.int 0, sv]))), ⟨1, _, _, _, _, rfl, sH, .inl ⟨rfl, efx, ew, et⟩⟩, ?_⟩
     rintro m2 σ Hy ⟨v4, v5, v6, v7, rfl, sy, p⟩
     walk_at "g"
     rcases p with ⟨rfl, ef2, ew2, et2⟩ | ⟨rfl, ew2, t2, ef2, et2⟩
     · refine q_trL (.inl (.inl ew2)) ?_
       rw [show (!([V.ref t] : List V).isEmpty) = true from rfl]
       walk_at "g1"
       refine tor_true (fun R hR => ?_) ?_
       · walk_at "g"
         rcases hm with rfl | rfl
         · refine ⟨rfl, ?_⟩
           rw [decide_eq_true rfl]
           walk_at "g"
           exact hR
         · refine ⟨rfl, ?_⟩
           rw [decide_eq_false (p := V.int 41 = V.non) (fun z => nomatch z)]
           walk_at "g"
           refine q_lenL (.inl (.inl ef2)) ?_
           walk_at "g"
           rw [decide_eq_true (p := (([] : List V).length : Int) < 41) (by decide)]
           walk_at "g"
           exact hR
       · walk_at "g"
         refine ⟨_, fun σ' H' p => ⟨0, Nat.zero_lt_one, p⟩, ?_⟩
         walk_at "g"
         refine tyL ew2 ?_
         refine q_pop (xs := []) ew2 ?_
         have twt : t ≠ wt := fun c => by
           rw [c, ew2] at et2
           cases et2
         have fwt : f ≠ wt := hf1
         have k3 : ∀ z u, H z = some u → (upd Hy wt (.lst [])) z = some u := fun z u e => by
           rw [upd_ne (ne_of_none (s1 _ _ e) hwt)]
           exact sy _ _ e
         have et3 : (upd Hy wt (.lst [])) t = some (.tup [.int 0, sv]) := by
           rw [upd_ne twt]
           exact et2
         have ef3 : (upd Hy wt (.lst [])) f = some (.lst []) := by
           rw [upd_ne fwt]
           exact ef2
         have ew3 : (upd Hy wt (.lst [])) wt = some (.lst []) := upd_same
         generalize upd Hy wt (.lst []) = H3 at k3 et3 ef3 ew3
         refine q_gtup (.inl (.inl et3)) rfl ?_
         walk_at "g"
         refine tyL ef3 ?_
         walk_at "g"
         intro t3 ht3
         have s4 := same_new (o := .tup [.int 0, sv]) ht3
         walk_at "g"
         refine q_append (s4 _ _ ef3) (by decide) ?_
         have k4 : Same H (upd (upd H3 t3 (.tup [.int 0, sv])) f (.lst ([] ++ [.ref t3]))) := fun z u e => by
           rw [upd_ne (ne_of_none e hf)]
           exact s4 _ _ (k3 _ _ e)
         have f3 : f ≠ t3 := ne_of_none ef3 ht3
         have ef4 : (upd (upd H3 t3 (.tup [.int 0, sv])) f (.lst ([] ++ [.ref t3]))) f = some (.lst [.ref t3]) := upd_same
         have et4 : (upd (upd H3 t3 (.tup [.int 0, sv])) f (.lst ([] ++ [.ref t3]))) t3 = some (.tup [.int 0, sv]) := by
           rw [upd_ne f3.symm]
           exact upd_same
         have ew4 : (upd (upd H3 t3 (.tup [.int 0, sv])) f (.lst ([] ++ [.ref t3]))) wt = some (.lst []) := by
           rw [upd_ne fwt.symm]
           exact s4 _ _ ew3
         generalize upd (upd H3 t3 (.tup [.int 0, sv])) f (.lst ([] ++ [.ref t3])) = H4 at k4 ef4 et4 ew4
         walk_at "g"
         refine ⟨sv, b, rfl, hst.mono k4, fun p H5 s5 ep => ?_⟩
         refine ⟨p, [], rfl, .inr ⟨.inl (.inl ep), ?_⟩⟩
         refine for_any (walk_revT (K := K) (a := p) (xs := [])) (fun _ σ Hx => Hx = H5 ∧ σ = [some (.ref q), some m, some (.ref f), some (.ref wt), some sv, some (.int 0), v6, v7]) ⟨rfl, rfl⟩ (fun i σ Hx _ z => by rw [z.1]; exact .inl (.inl ep)) (fun i x σ Hx Hy hi _ _ => absurd hi (Nat.not_lt_zero i)) ?_
         rintro σ Hx ⟨rfl, rfl⟩
         walk_at "g"
         exact ⟨_, _, _, _, rfl, k4.trans s5, .inr ⟨rfl, s5 _ _ ew4, t3, s5 _ _ ef4, s5 _ _ et4⟩⟩
     · refine q_trL (.inl (.inl ew2)) ?_
       rw [show (!([] : List V).isEmpty) = false from rfl]
       walk_at "g"
       exact hq f t2 sv Hy sy hf ef2 et2 (hst.mono sy)
  case len =>
   obtain ⟨v, m, b, rfl, _⟩ := h
   rfl

/-- rows_within(statement) of an act -/
def spRW (K : PySem.W.Frag) : Sp := fun vs H Q _ => ∃ (v : V) (b : Bool), vs = [v] ∧ StV K H v b ∧ ∀ p H', Same H H' → H' p = some (.lst []) → Q (.ref p) H'
theorem sc_rows_within : FnScope ["statement", "word", "rows"] ["statement"] (defScope s_rows_within) := ⟨rfl, rfl, rfl, by decide +kernel, rfl, by decide +kernel, by decide +kernel⟩
theorem d_rows_within (B : Bt mg) (F : TopF K mg "rows_within" s_rows_within ["statement"]) : Df P w K mg base "rows_within" ["statement"] 1 (spRW K) := by
  refine F.df sc_rows_within (fun vs H Q E h => ?len) (fun f cdv A outer s H vs Q E hr h => ?body)
  case body =>
   have hu := hr.units
   refine ⟨_, (pss_cons (ps_set (i := 1) sc_rows_within.nd rfl (Or.inl rfl) (pe_ix (k_ix (K := K) rfl hu) (pv 0) pe_int (fun _ _ => rfl)))
      (pss_cons (ps_if (pt_cmpR (k_eq (K := K) rfl hu) (pv 1) pe_str (nomark _))
      (pss_one (ps_ret (pe_op (k_add (K := K) rfl) (pe_callTy (k_list (K := K) rfl rfl) (by rfl) B.b_list (by decide +kernel) (pa_cons (pe_ix (k_ix (K := K) rfl hu) (pv 0) pe_int (fun _ _ => rfl)) pa_nil)) (pe_lst (pa_cons pe_non pa_nil)))))
      pss_nil)
      (pss_cons (ps_if (pt_cmpR (k_eq (K := K) rfl hu) (pv 1) pe_str (nomark _))
      (pss_cons (ps_set (i := 2) sc_rows_within.nd rfl (Or.inl rfl) (pe_callTy (k_list (K := K) rfl rfl) (by rfl) B.b_list (by decide +kernel) (pa_cons (pe_ix (k_ix (K := K) rfl hu) (pv 0) pe_int (fun _ _ => rfl)) pa_nil)))
      (pss_cons (ps_if (k_tr (K := K) rfl (pe_ix (k_ix (K := K) rfl hu) (pv 0) pe_int (fun _ _ => rfl)))
      (pss_one (ps_set (i := 2) sc_rows_within.nd rfl (Or.inl rfl) (pe_op (k_add (K := K) rfl) (pe_op (k_add (K := K) rfl) (pv 2) (pe_lst (pa_cons pe_non pa_nil))) (pe_callTy (k_list (K := K) rfl rfl) (by rfl) B.b_list (by decide +kernel) (pa_cons (pe_ix (k_ix (K := K) rfl hu) (pv 0) pe_int (fun _ _ => rfl)) pa_nil)))))
      pss_nil)
      (pss_one (ps_ret (pe_op (k_add (K := K) rfl) (pv 2) (pe_lst (pa_cons pe_non pa_nil)))))))
      pss_nil)
      (pss_cons (ps_if (pt_cmpR (k_eq (K := K) rfl hu) (pv 1) pe_str (nomark _))
      (pss_one (ps_ret (pe_op (k_add (K := K) rfl) (pe_op (k_add (K := K) rfl) (pe_op (k_add (K := K) rfl) (pe_callTy (k_list (K := K) rfl rfl) (by rfl) B.b_list (by decide +kernel) (pa_cons (pe_ix (k_ix (K := K) rfl hu) (pv 0) pe_int (fun _ _ => rfl)) pa_nil)) (pe_lst (pa_cons pe_non pa_nil))) (pe_callTy (k_list (K := K) rfl rfl) (by rfl) B.b_list (by decide +kernel) (pa_cons (pe_ix (k_ix (K := K) rfl hu) (pv 0) pe_int (fun _ _ => rfl)) pa_nil))) (pe_lst (pa_cons pe_non pa_nil)))))
      pss_nil)
      (pss_one (ps_ret (pe_lst pa_nil))))))), ?_⟩
   obtain ⟨v, b, rfl, ⟨q, rfl, hs⟩, hq⟩ := h
   have n := wdB_ne b
   walk_at "g"
   refine q_ixT hs (atI_nat (j := 0) rfl) ?_
   walk_at "g"
   rw [decide_eq_false n.2.1]
   walk_at "g"
   rw [decide_eq_false n.1]
   walk_at "g"
   rw [decide_eq_false n.2.2]
   walk_at "g"
   intro p hp
   exact hq p _ (same_new hp) upd_same
  case len =>
   obtain ⟨v, b, rfl, _⟩ := h
   rfl
/-- numbered(program) -/
def spNum (K : PySem.W.Frag) : Sp := fun vs H Q _ => ∃ (v : V) (b : Bool), vs = [v] ∧ PrV K H v b ∧ ∀ r t sv H', Same H H' → H r = none → H' r = some (.lst [.ref t]) → H' t = some (.tup [.int 1, sv]) → StV K H' sv b → Q (.ref r) H'
theorem sc_numbered : FnScope ["program", "found", "line", "waiting", "row", "inner"] ["program"] (defScope s_numbered) := ⟨rfl, rfl, rfl, by decide +kernel, rfl, by decide +kernel, by decide +kernel⟩
theorem d_numbered (B : Bt mg) (F : TopF K mg "numbered" s_numbered ["program"]) (D_rows_within : Df P w K mg base "rows_within" ["statement"] 1 (spRW K)) : Df P w K mg base "numbered" ["program"] 2 (spNum K) := by
  refine F.df sc_numbered (fun vs H Q E h => ?len) (fun f cdv A outer s H vs Q E hr h => ?body)
  case body =>
   have hu := hr.units
   refine ⟨_, (pss_cons (ps_set (i := 1) sc_numbered.nd rfl (Or.inl rfl) (pe_lst pa_nil))
      (pss_cons (ps_set (i := 2) sc_numbered.nd rfl (Or.inl rfl) pe_int)
      (pss_cons (ps_set (i := 3) sc_numbered.nd rfl (Or.inl rfl) (pe_lstRev rfl (by rfl) B.b_list (by rfl) B.b_reversed (pv 0)))
      (pss_cons (ps_while (passes_of rfl) (k_tr (K := K) rfl (pv 3))
      (pss_cons (ps_set (i := 4) sc_numbered.nd rfl (Or.inl rfl) (k_popL (K := K) rfl (pv 3)))
      (pss_cons (ps_aug (i := 2) sc_numbered.nd rfl (Or.inl rfl) pe_int ip_add)
      (pss_one (ps_if (pt_cmpR op_notN (pv 4) pe_non (nomark _))
      (pss_cons (ps_expr (k_append (K := K) rfl (pv 1) (pa_cons (pe_tup (pa_cons (pv 2) (pa_cons (pv 4) pa_nil))) pa_nil)))
      (pss_one (ps_for (passes_of rfl) rfl (RT.pi_revA (by rfl) B.b_reversed (pe_df D_rows_within (hr.mono (by decide)) (fun σ => passAt (takes_of rfl rfl rfl rfl) σ) (pa_cons (pv 4) pa_nil))) (pg_name (i := 5) sc_numbered.nd rfl (Or.inl rfl))
      (pss_one (ps_expr (k_append (K := K) rfl (pv 3) (pa_cons (pv 5) pa_nil)))))))
      pss_nil)))))
      (pss_one (ps_ret (pv 1))))))), ?_⟩
   obtain ⟨v, b, rfl, ⟨q, sv, rfl, hs, hst⟩, hq⟩ := h
   walk_at "g"
   intro f hf
   have s1 := same_new (o := .lst []) hf
   have ef : (upd H f (.lst [])) f = _ := upd_same
   generalize upd H f (.lst []) = H1 at s1 ef
   walk_at "g"
   refine ⟨q, [sv], rfl, Sm.sqT s1 hs, fun wt hwt => ?_⟩
   have s2 := same_new (o := .lst ([sv] : List V).reverse) hwt
   have hf1 : f ≠ wt := ne_of_none ef hwt
   have ew : (upd H1 wt (.lst ([sv] : List V).reverse)) wt = some (.lst [sv]) := upd_same
   have efx := s2 _ _ ef
   have sH := s1.trans s2
   generalize upd H1 wt (.lst ([sv] : List V).reverse) = H2 at s2 ew efx sH
   walk_at "g"
   refine q_while ⟨fun m2 σ Hy => ∃ v4 v5 : Option V, Same H Hy ∧ ((m2 = 1 ∧ σ = [some (.ref q), some (.ref f), some (.int 0), some (.ref wt), v4, v5] ∧ Hy f = some (.lst []) ∧ Hy wt = some (.lst [sv])) ∨ (m2 = 0 ∧ σ = [some (.ref q), some (.ref f), some (.int 1), some (.ref wt), v4, v5] ∧ Hy wt = some (.lst []) ∧ ∃ t2, Hy f = some (.lst [.ref t2]) ∧ Hy t2 = some (.tup [.int 1, sv]))), ⟨1, none, none, sH, .inl ⟨rfl, rfl, efx, ew⟩⟩, ?_⟩
   rintro m2 σ Hy ⟨v4, v5, sy, p⟩
   rcases p with ⟨rfl, rfl, ef2, ew2⟩ | ⟨rfl, rfl, ew2, t2, ef2, et2⟩
   · walk_at "g"
     refine q_trL (.inl (.inl ew2)) ?_
     rw [show (!([sv] : List V).isEmpty) = true from rfl]
     walk_at "g"
     refine ⟨_, fun σ' H' p => ⟨0, Nat.zero_lt_one, p⟩, ?_⟩
     walk_at "g"
     refine tyL ew2 ?_
     refine q_pop (xs := []) ew2 ?_
     have k3 : Same H (upd Hy wt (.lst [])) := fun z u e => by
       rw [upd_ne (ne_of_none (s1 _ _ e) hwt)]
       exact sy _ _ e
     have ef3 : (upd Hy wt (.lst [])) f = some (.lst []) := by
       rw [upd_ne hf1]
       exact ef2
     have ew3 : (upd Hy wt (.lst [])) wt = some (.lst []) := upd_same
     generalize upd Hy wt (.lst []) = H3 at k3 ef3 ew3
     walk_at "g"
     refine ⟨_, rfl, ?_⟩
     walk_at "g"
     refine ⟨0, 1, rfl, rfl, ?_⟩
     obtain ⟨qs, esv, hss⟩ := hst
     walk_at "g"
     refine ⟨rfl, ?_⟩
     rw [decide_eq_false (p := sv = V.non) (by rw [esv]; exact fun z => nomatch z)]
     walk_at "g"
     refine tyL ef3 ?_
     walk_at "g"
     intro t3 ht3
     have s4 := same_new (o := .tup [.int (0 + 1), sv]) ht3
     walk_at "g"
     refine q_append (s4 _ _ ef3) (by decide) ?_
     have k4 : Same H (upd (upd H3 t3 (.tup [.int (0 + 1), sv])) f (.lst ([] ++ [.ref t3]))) := fun z u e => by
       rw [upd_ne (ne_of_none e hf)]
       exact s4 _ _ (k3 _ _ e)
     have f3 : f ≠ t3 := ne_of_none ef3 ht3
     have ef4 : (upd (upd H3 t3 (.tup [.int (0 + 1), sv])) f (.lst ([] ++ [.ref t3]))) f = some (.lst [.ref t3]) := upd_same
     have et4 : (upd (upd H3 t3 (.tup [.int (0 + 1), sv])) f (.lst ([] ++ [.ref t3]))) t3 = some (.tup [.int 1, sv]) := by
       rw [upd_ne f3.symm]
       exact upd_same
     have ew4 : (upd (upd H3 t3 (.tup [.int (0 + 1), sv])) f (.lst ([] ++ [.ref t3]))) wt = some (.lst []) := by
       rw [upd_ne hf1.symm]
       exact s4 _ _ ew3
     generalize upd (upd H3 t3 (.tup [.int (0 + 1), sv])) f (.lst ([] ++ [.ref t3])) = H4 at k4 ef4 et4 ew4
     walk_at "g"
     refine ⟨sv, b, rfl, StV.mono k4 ⟨qs, esv, hss⟩, fun p H5 s5 ep => ?_⟩
     refine ⟨p, [], rfl, .inl ⟨.inl (.inl ep), ?_⟩⟩
     refine for_any (walk_rev (K := K) (a := p) (xs := [])) (fun _ σ Hx => Hx = H5 ∧ σ = [some (.ref q), some (.ref f), some (.int 1), some (.ref wt), some sv, v5]) ⟨rfl, rfl⟩ (fun i σ Hx _ z => by rw [z.1]; exact .inl (.inl ep)) (fun i x σ Hx Hy hi _ _ => absurd hi (Nat.not_lt_zero i)) ?_
     rintro σ Hx ⟨rfl, rfl⟩
     walk_at "g"
     exact ⟨_, _, k4.trans s5, .inr ⟨rfl, rfl, s5 _ _ ew4, t3, s5 _ _ ef4, s5 _ _ et4⟩⟩
   · walk_at "g"
     refine q_trL (.inl (.inl ew2)) ?_
     rw [show (!([] : List V).isEmpty) = false from rfl]
     walk_at "g"
     exact hq f t2 sv Hy sy hf ef2 et2 (hst.mono sy)
  case len =>
   obtain ⟨v, b, rfl, _⟩ := h
   rfl
/-- count_either(program), greatest_depth(program) -/
def spZ (K : PySem.W.Frag) : Sp := fun vs H Q _ => ∃ (v : V) (b : Bool), vs = [v] ∧ PrV K H v b ∧ ∀ H', Same H H' → Q (.int 0) H'
theorem sc_count_either : FnScope ["program", "_", "statement"] ["program"] (defScope s_count_either) := ⟨rfl, rfl, rfl, by decide +kernel, rfl, by decide +kernel, by decide +kernel⟩
theorem d_count_either (B : Bt mg) (F : TopF K mg "count_either" s_count_either ["program"]) (D_all_statements : Df P w K mg base "all_statements" ["program", "most"] 2 (spAll K)) : Df P w K mg base "count_either" ["program"] 3 (spZ K) := by
  refine F.df sc_count_either (fun vs H Q E h => ?len) (fun f cdv A outer s H vs Q E hr h => ?body)
  case body =>
   have hu := hr.units
   refine ⟨_, (pss_one (ps_ret (pe_callB (k_len (K := K) rfl) (by rfl) B.b_len (by decide +kernel) (pa_cons (pe_lockU (pe_lc (own := [("_", 1), ("statement", 2)]) (by rfl) sc_count_either.nd (k_walk (K := K) rfl (pe_df D_all_statements (hr.mono (by decide)) (fun σ => passAt (takes_of rfl rfl rfl rfl) σ) (pa_cons (pv 0) (pa_cons pe_non pa_nil)))) (blkOk_by (by kernel_rfl)) (fun _ _ _ _ _ => (k_tup (K := K) (n := 2) rfl (by rfl) (pgs_cons (pg_name (i := 1) sc_count_either.nd rfl (Or.inl rfl)) (pgs_cons (pg_name (i := 2) sc_count_either.nd rfl (Or.inl rfl)) pgs_nil)))) (fun _ _ _ _ _ => pts_one (pt_cmpR (k_eq (K := K) rfl hu) (pe_ix (k_ix (K := K) rfl hu) (pv 2) pe_int (fun _ _ => rfl)) pe_str (nomark _))) (fun _ _ _ _ _ => (pv 2)))) pa_nil)))), ?_⟩
   obtain ⟨v, b, rfl, hp, hq⟩ := h
   have n := wdB_ne b
   walk_at "g"
   refine .inl ?_
   walk_at "g"
   refine q_items ?_
   walk_at "g"
   refine ⟨v, .non, b, rfl, hp, .inl rfl, fun r t sv H1 s1 hr er et hst => ?_⟩
   refine q_itemsE (xs := [.ref t]) (.inl (.inl er)) ?_
   intro d hd
   have s2 := same_new (o := .lst []) hd
   obtain ⟨qs, rfl, hss⟩ := hst
   refine lc_any (walk_list (K := K) (a := r) (xs := [.ref t])) (fun i Hx => Same H1 Hx ∧ Hx d = some (.lst [])) ⟨s2, upd_same⟩ (fun i Hx _ z => .inl (.inl (z.1 _ _ er))) ?_ ?_
   · rintro i x Hx Hy hi ⟨sx, ed⟩ ⟨rfl, ex⟩
     obtain rfl : i = 0 := by
       simp at hi
       exact hi
     cases (show some (V.ref t) = some x from ex)
     refine q_gtup (.inl (.inl (sx _ _ et))) rfl ?_
     walk_at "g"
     refine ⟨rfl, ?_⟩
     walk_at "g"
     refine q_ixT (Sm.sqT sx hss) (atI_nat (j := 0) rfl) ?_
     walk_at "g"
     rw [decide_eq_false n.2.2]
     walk_at "g"
     exact ⟨sx, ed⟩
   · rintro Hx ⟨sx, ed⟩
     walk_at "g"
     refine q_lenL (.inl (.inl ed)) ?_
     exact hq _ (s1.trans sx)
  case len =>
   obtain ⟨v, b, rfl, _⟩ := h
   rfl
theorem sc_greatest_depth : FnScope ["program", "depth", "_"] ["program"] (defScope s_greatest_depth) := ⟨rfl, rfl, rfl, by decide +kernel, rfl, by decide +kernel, by decide +kernel⟩
theorem d_greatest_depth (B : Bt mg) (F : TopF K mg "greatest_depth" s_greatest_depth ["program"]) (D_all_statements : Df P w K mg base "all_statements" ["program", "most"] 2 (spAll K)) : Df P w K mg base "greatest_depth" ["program"] 3 (spZ K) := by
  refine F.df sc_greatest_depth (fun vs H Q E h => ?len) (fun f cdv A outer s H vs Q E hr h => ?body)
  case body =>
   have hu := hr.units
   refine ⟨_, (pss_one (ps_ret (pe_callBK (cr_maxD rfl hu) (by rfl) B.b_max (by decide +kernel) (pa_cons (pe_lockU (pe_lc (own := [("depth", 1), ("_", 2)]) (by rfl) sc_greatest_depth.nd (k_walk (K := K) rfl (pe_df D_all_statements (hr.mono (by decide)) (fun σ => passAt (takes_of rfl rfl rfl rfl) σ) (pa_cons (pv 0) (pa_cons pe_non pa_nil)))) (blkOk_by (by kernel_rfl)) (fun _ _ _ _ _ => (k_tup (K := K) (n := 2) rfl (by rfl) (pgs_cons (pg_name (i := 1) sc_greatest_depth.nd rfl (Or.inl rfl)) (pgs_cons (pg_name (i := 2) sc_greatest_depth.nd rfl (Or.inl rfl)) pgs_nil)))) (fun _ _ _ _ _ => pts_nil) (fun _ _ _ _ _ => (pv 1)))) pa_nil) (pk_cons pe_int pk_nil)))), ?_⟩
   obtain ⟨v, b, rfl, hp, hq⟩ := h
   walk_at "g"
   refine .inl ?_
   walk_at "g"
   refine q_items ?_
   walk_at "g"
   refine ⟨v, .non, b, rfl, hp, .inl rfl, fun r t sv H1 s1 hr er et hst => ?_⟩
   refine q_itemsE (xs := [.ref t]) (.inl (.inl er)) ?_
   intro d hd
   have s2 := same_new (o := .lst []) hd
   refine lc_any (walk_list (K := K) (a := r) (xs := [.ref t])) (fun i Hx => Same H1 Hx ∧ Hx d = some (.lst ((List.replicate i (0 : Int)).map V.int))) ⟨s2, upd_same⟩ (fun i Hx _ z => .inl (.inl (z.1 _ _ er))) ?_ ?_
   · rintro i x Hx Hy hi ⟨sx, ed⟩ ⟨rfl, ex⟩
     obtain rfl : i = 0 := by
       simp at hi
       exact hi
     cases (show some (V.ref t) = some x from ex)
     refine q_gtup (.inl (.inl (sx _ _ et))) rfl ?_
     walk_at "g"
     refine ⟨rfl, ?_⟩
     walk_at "g"
     refine ⟨_, ed, by decide, fun z u e => ?_, upd_same⟩
     rw [upd_ne (ne_of_none e hd)]
     exact sx _ _ e
   · rintro Hx ⟨sx, ed⟩
     walk_at "g"
     refine ⟨d, [0], .int 0, rfl, rfl, .inl (.inl ed), .inr ⟨0, [], rfl, ?_⟩⟩
     exact hq _ (s1.trans sx)
  case len =>
   obtain ⟨v, b, rfl, _⟩ := h
   rfl

theorem q_slT {K : PySem.W.Frag} {H : Hp} {Q : VK} {p : Addr} {xs : List V} {lo hi : Option Int} (h : SqT K H p xs) (n : ¬ (HT.sIx xs.length 0 lo = 0 ∧ HT.sIx xs.length xs.length hi = xs.length)) (q : ∀ l, H l = none → Q (.ref l) (upd H l (.tup (cutV xs lo hi)))) : rSlU K (.ref p) lo hi H Q := .inr (.inl ⟨p, xs, rfl, h, n, q⟩)
theorem cut1 {x y : V} : cutV [x, y] (some 1) none = [y] := rfl
theorem nm_c : isNm "c" = true := by decide +kernel
/-- check_items(parts, statement, what) -/
def spCI (K : PySem.W.Frag) : Sp := fun vs H Q _ => ∃ (pv sv : V) (what : Str) (b : Bool), vs = [pv, sv, .str what] ∧ T K H ff pv (.tup [.str (ptB b)]) ∧ StV K H sv b ∧ ∀ H', Same H H' → Q .non H'
-- check_items: 0 parts, 1 statement, 2 what, 3 word, 4 kind, 5 item, 6 fits, 7 low, 8 high
theorem sc_check_items : FnScope ["parts", "statement", "what", "word", "kind", "item", "fits", "low", "high"] ["parts", "statement", "what"] (defScope s_check_items) := ⟨rfl, rfl, rfl, by decide +kernel, rfl, by decide +kernel, by decide +kernel⟩
theorem d_check_items (B : Bt mg) (F : TopF K mg "check_items" s_check_items ["parts", "statement", "what"]) {A_HEADINGS_program : Addr} (G_HEADINGS_program : mg "HEADINGS_program" = some (.ref A_HEADINGS_program)) (W_HEADINGS_program : ∀ H P, T K H P (.ref A_HEADINGS_program) gt_HEADINGS_program) {A_REGISTERS : Addr} (G_REGISTERS : mg "REGISTERS" = some (.ref A_REGISTERS)) (W_REGISTERS : ∀ H P, T K H P (.ref A_REGISTERS) gt_REGISTERS) {A_RANGES : Addr} (G_RANGES : mg "RANGES" = some (.ref A_RANGES)) (W_RANGES : GD K w A_RANGES gt_RANGES) (X_Misfit : Xc P w K mg base "Misfit" ["what", "name"] C_Misfit) (D_check_name : Df P w K mg base "check_name" ["value"] 3 (spCN ⟨C_Unknown, C_Misfit, C_TooMany, C_BadName⟩)) : Df P w K mg base "check_items" ["parts", "statement", "what"] 4 (spCI K) := by
  refine F.df sc_check_items (fun vs H Q E h => ?len) (fun f cdv A outer s H vs Q E hr h => ?body)
  case body =>
   have hu := hr.units
   refine ⟨_, (pss_cons (ps_set (i := 3) sc_check_items.nd rfl (Or.inl rfl) (pe_ix (k_ixW (K := K) (w := w) rfl rfl hu) (pv 1) pe_int (fun _ _ => rfl)))
      (pss_one (ps_for (passes_of rfl) rfl (RZ.pi_zipA (by rfl) B.b_zip (pa_cons (pv 0) (pa_cons (pe_slice (k_sl (K := K) rfl) (pv 1) (po_some pe_int) po_none) pa_nil))) (k_tup (K := K) (n := 2) rfl (by rfl) (pgs_cons (pg_name (i := 4) sc_check_items.nd rfl (Or.inl rfl)) (pgs_cons (pg_name (i := 5) sc_check_items.nd rfl (Or.inl rfl)) pgs_nil)))
      (pss_cons (ps_set (i := 6) sc_check_items.nd rfl (Or.inl rfl) pe_bl)
      (pss_cons (ps_if (pt_cmpR (k_eq (K := K) rfl hu) (pv 4) pe_str (nomark _))
      (pss_one (ps_set (i := 6) sc_check_items.nd rfl (Or.inl rfl) (pe_cmpR (k_inW (K := K) (w := w) rfl rfl hu) (pv 5) (pe_glob (v := .ref A_HEADINGS_program) (by rfl) G_HEADINGS_program rfl) (by rfl))))
      (pss_one (ps_if (pt_cmpR (k_eq (K := K) rfl hu) (pv 4) pe_str (nomark _))
      (pss_one (ps_set (i := 6) sc_check_items.nd rfl (Or.inl rfl) (pe_cmpR (k_inW (K := K) (w := w) rfl rfl hu) (pv 5) (pe_glob (v := .ref A_REGISTERS) (by rfl) G_REGISTERS rfl) (by rfl))))
      (pss_one (ps_if (pt_cmpR (k_eq (K := K) rfl hu) (pv 4) pe_str (nomark _))
      (pss_cons (ps_asg (pe_ix (k_ixW (K := K) (w := w) rfl rfl hu) (pe_glob (v := .ref A_RANGES) (by rfl) G_RANGES rfl) (pv 3) (fun _ _ => rfl)) (k_tup (K := K) (n := 2) rfl (by rfl) (pgs_cons (pg_name (i := 7) sc_check_items.nd rfl (Or.inl rfl)) (pgs_cons (pg_name (i := 8) sc_check_items.nd rfl (Or.inl rfl)) pgs_nil))))
      (pss_one (ps_set (i := 6) sc_check_items.nd rfl (Or.inl rfl) (pe_chain op_le op_le (pv 7) (pv 5) (pv 8)))))
      (pss_one (ps_expr (pe_df D_check_name (hr.mono (by decide)) (fun σ => passAt (takes_of rfl rfl rfl rfl) σ) (pa_cons (pv 5) pa_nil)))))))))
      (pss_one (ps_if (pt_not (k_tr (K := K) rfl (pv 6)))
      (pss_one (ps_rz rfl X_Misfit (hr.mono (by decide)) (takes_of rfl rfl rfl rfl) (pa_cons (pv 2) (pa_cons (pv 3) pa_nil))))
      pss_nil))))))), ?_⟩
   obtain ⟨pv, sv, what, b, rfl, hp, ⟨q, rfl, hs⟩, hq⟩ := h
   cases hp with
   | @tup pa xs _ sp tp =>
   cases tp with
   | cons t1 t2 =>
   cases t2
   cases t1
   walk_at "g"
   refine .inl (q_ixT hs (atI_nat (j := 0) rfl) ?_)
   walk_at "g"
   refine q_slT hs (fun z => absurd (show HT.sIx 2 0 (some 1) = 0 from z.1) (by decide)) fun l hl => ?_
   rw [cut1]
   have s1 := same_new (o := .tup [itV b]) hl
   have el : (upd H l (.tup [itV b])) l = some (.tup [itV b]) := upd_same
   generalize upd H l (.tup [itV b]) = H1 at s1 el
   walk_at "g"
   refine ⟨pa, l, _, [itV b], rfl, .inr ⟨Sm.sqT s1 sp, .inl (.inl el), ?_⟩⟩
   refine for_any (walk_zipT (xs := [.str (ptB b)]) (ys := [itV b]) (n := 1) rfl) (fun i σ Hx => ∃ v4 v5 v6 v7 v8 : Option V, σ = [some (.ref pa), some (.ref q), some (.str what), some (.str (wdB b)), v4, v5, v6, v7, v8] ∧ Same H Hx ∧ Same H1 Hx) ⟨_, _, _, _, _, rfl, s1, Same.refl'⟩ ?_ ?_ ?_
   · rintro i σ Hx _ ⟨v4, v5, v6, v7, v8, rfl, sH, sx⟩
     exact ⟨Sm.sqT sH sp, .inl (.inl (sx _ _ el))⟩
   · rintro i v σ Hx Hy hi ⟨v4, v5, v6, v7, v8, rfl, sH, sx⟩ ⟨t, p, r, rfl, ht, rfl, e1, e2⟩
     obtain rfl : i = 0 := by omega
     cases (show some (V.str (ptB b)) = some p from e1)
     cases (show some (itV b) = some r from e2)
     have s2 := same_new (o := .tup [.str (ptB b), itV b]) ht
     refine q_gtup st_new rfl ?_
     have sH2 := sH.trans s2
     have sx2 := sx.trans s2
     generalize upd Hx t (.tup [.str (ptB b), itV b]) = H2 at s2 sH2 sx2
     cases b
     · walk_at "g"
       rw [decide_eq_false (p := ptB false = "heading") (by decide +kernel)]
       walk_at "g"
       rw [decide_eq_false (p := ptB false = "register") (by decide +kernel)]
       walk_at "g"
       rw [decide_eq_true (p := ptB false = "number") (by decide +kernel)]
       walk_at "g"
       refine q_ixG (k := "wait") W_RANGES (d := .tup [.int 1, .int 9]) (by kernel_rfl) fun x tx => ?_
       have tx1 := tx H2 ff
       cases tx1 with
       | @tup u us _ su tu =>
       cases tu with
       | cons ta tr =>
       cases tr with
       | cons tb2 tr =>
       cases tr
       cases ta
       cases tb2
       refine q_gtup su rfl ?_
       walk_at "g"
       refine q_I0 (a := 1) (b := 1) ?_
       rw [decide_eq_true (p := (1 : Int) ≤ 1) (by decide)]
       refine ⟨true, rfl, ?_⟩
       rw [if_pos rfl]
       walk_at "g"
       refine q_I0 (a := 1) (b := 9) ?_
       rw [decide_eq_true (p := (1 : Int) ≤ 9) (by decide)]
       walk_at "g"
       exact ⟨_, _, _, _, _, rfl, sH2, sx2⟩
     · walk_at "g"
       rw [decide_eq_false (p := ptB true = "heading") (by decide +kernel)]
       walk_at "g"
       rw [decide_eq_false (p := ptB true = "register") (by decide +kernel)]
       walk_at "g"
       rw [decide_eq_false (p := ptB true = "number") (by decide +kernel)]
       walk_at "g"
       refine ⟨"c", rfl, by decide +kernel, fun _ H3 s3 => ?_, fun z => by rw [nm_c] at z; cases z⟩
       walk_at "g"
       exact ⟨_, _, _, _, _, rfl, sH2.trans s3, sx2.trans s3⟩
   · rintro σ Hx ⟨v4, v5, v6, v7, v8, rfl, sH, sx⟩
     walk_at "g"
     exact hq _ sH
  case len =>
   obtain ⟨pv, sv, what, b, rfl, _⟩ := h
   rfl
/-- check_statement(statement) -/
def spCS (K : PySem.W.Frag) : Sp := fun vs H Q _ => ∃ (sv : V) (b : Bool), vs = [sv] ∧ StV K H sv b ∧ ∀ H', Same H H' → Q .non H'
theorem parts_at (b : Bool) : lk gt_PARTS (wdB b) = some (.tup [.str (ptB b)]) := by cases b <;> kernel_rfl
theorem sc_check_statement : FnScope ["statement", "word"] ["statement"] (defScope s_check_statement) := ⟨rfl, rfl, rfl, by decide +kernel, rfl, by decide +kernel, by decide +kernel⟩
theorem d_check_statement (B : Bt mg) (F : TopF K mg "check_statement" s_check_statement ["statement"]) {A_PARTS : Addr} (G_PARTS : mg "PARTS" = some (.ref A_PARTS)) (W_PARTS : GD K w A_PARTS gt_PARTS) (D_check_items : Df P w K mg base "check_items" ["parts", "statement", "what"] 4 (spCI K)) : Df P w K mg base "check_statement" ["statement"] 5 (spCS K) := by
  refine F.df sc_check_statement (fun vs H Q E h => ?len) (fun f cdv A outer s H vs Q E hr h => ?body)
  case body =>
   have hu := hr.units
   refine ⟨_, (pss_cons (ps_set (i := 1) sc_check_statement.nd rfl (Or.inl rfl) (pe_ix (k_ixW (K := K) (w := w) rfl rfl hu) (pv 0) pe_int (fun _ _ => rfl)))
      (pss_one (ps_if (pt_cmpR (k_inW (K := K) (w := w) rfl rfl hu) (pv 1) (pe_glob (v := .ref A_PARTS) (by rfl) G_PARTS rfl) (by rfl))
      (pss_one (ps_expr (pe_df D_check_items (hr.mono (by decide)) (fun σ => passAt (takes_of rfl rfl rfl rfl) σ) (pa_cons (pe_ix (k_ixW (K := K) (w := w) rfl rfl hu) (pe_glob (v := .ref A_PARTS) (by rfl) G_PARTS rfl) (pv 1) (fun _ _ => rfl)) (pa_cons (pv 0) (pa_cons pe_str pa_nil))))))
      (pss_one (ps_if (pt_cmpR (k_ne (K := K) rfl hu) (pv 1) pe_str (nomark _))
      (pss_one (ps_expr TU.pe_never))
      pss_nil))))), ?_⟩
   obtain ⟨sv, b, rfl, ⟨q, rfl, hs⟩, hq⟩ := h
   walk_at "g"
   refine .inl (q_ixT hs (atI_nat (j := 0) rfl) ?_)
   walk_at "g"
   refine q_inG W_PARTS (parts_at b) ?_
   walk_at "g"
   refine q_ixG W_PARTS (parts_at b) fun x tx => ?_
   walk_at "g"
   refine ⟨x, .ref q, "statement", b, rfl, tx H ff, ⟨q, rfl, hs⟩, fun H' s => ?_⟩
   walk_at "g"
   exact hq _ s
  case len =>
   obtain ⟨sv, b, rfl, _⟩ := h
   rfl
/-- check_program(program) -/
def spCP (K : PySem.W.Frag) : Sp := fun vs H Q _ => ∃ (v : V) (b : Bool), vs = [v] ∧ PrV K H v b ∧ ∀ H', Same H H' → Q .non H'
-- check_program: 0 program, 1 found, 2 _, 3 statement, 4 line
theorem sc_check_program : FnScope ["program", "found", "_", "statement", "line"] ["program"] (defScope s_check_program) := ⟨rfl, rfl, rfl, by decide +kernel, rfl, by decide +kernel, by decide +kernel⟩
theorem d_check_program (B : Bt mg) (F : TopF K mg "check_program" s_check_program ["program"]) (G_MOST_EITHER : ∃ t, mg "MOST_EITHER" = some (.int 4 t)) (G_MOST_DEPTH : ∃ t, mg "MOST_DEPTH" = some (.int 4 t)) (G_MOST_STATEMENTS : ∃ t, mg "MOST_STATEMENTS" = some (.int 40 t)) (X_Misfit : Xc P w K mg base "Misfit" ["what", "name"] C_Misfit) (X_TooMany : Xc P w K mg base "TooMany" ["what", "limit"] C_TooMany) (D_numbered : Df P w K mg base "numbered" ["program"] 2 (spNum K)) (D_check_statement : Df P w K mg base "check_statement" ["statement"] 5 (spCS K)) (D_count_either : Df P w K mg base "count_either" ["program"] 3 (spZ K)) (D_greatest_depth : Df P w K mg base "greatest_depth" ["program"] 3 (spZ K)) (D_all_statements : Df P w K mg base "all_statements" ["program", "most"] 2 (spAll K)) : Df P w K mg base "check_program" ["program"] 6 (spCP K) := by
  refine F.df sc_check_program (fun vs H Q E h => ?len) (fun f cdv A outer s H vs Q E hr h => ?body)
  case body =>
   have hu := hr.units
   refine ⟨_, (pss_cons (ps_set (i := 1) sc_check_program.nd rfl (Or.inl rfl) (pe_df D_all_statements (hr.mono (by decide)) (fun σ => passAt (takes_of rfl rfl rfl rfl) σ) (pa_cons (pv 0) (pa_cons (pe_op (k_add (K := K) rfl) (pe_glob (v := .int 40) (by rfl) G_MOST_STATEMENTS.choose_spec ⟨_, rfl⟩) pe_int) pa_nil))))
      (pss_cons (ps_if (pt_cmpR op_gt (pe_callB (k_len (K := K) rfl) (by rfl) B.b_len (by decide +kernel) (pa_cons (pv 1) pa_nil)) (pe_glob (v := .int 40) (by rfl) G_MOST_STATEMENTS.choose_spec ⟨_, rfl⟩) (nomark _))
      (pss_one (ps_rz rfl X_TooMany (hr.mono (by decide)) (takes_of rfl rfl rfl rfl) (pa_cons pe_str (pa_cons (pe_glob (v := .int 40) (by rfl) G_MOST_STATEMENTS.choose_spec ⟨_, rfl⟩) pa_nil))))
      pss_nil)
      (pss_cons (ps_if (pt_cmpR op_gt (pe_df D_greatest_depth (hr.mono (by decide)) (fun σ => passAt (takes_of rfl rfl rfl rfl) σ) (pa_cons (pv 0) pa_nil)) (pe_glob (v := .int 4) (by rfl) G_MOST_DEPTH.choose_spec ⟨_, rfl⟩) (nomark _))
      (pss_one (ps_rz rfl X_TooMany (hr.mono (by decide)) (takes_of rfl rfl rfl rfl) (pa_cons pe_str (pa_cons (pe_glob (v := .int 4) (by rfl) G_MOST_DEPTH.choose_spec ⟨_, rfl⟩) pa_nil))))
      pss_nil)
      (pss_cons (ps_if (pt_cmpR op_gt (pe_df D_count_either (hr.mono (by decide)) (fun σ => passAt (takes_of rfl rfl rfl rfl) σ) (pa_cons (pv 0) pa_nil)) (pe_glob (v := .int 4) (by rfl) G_MOST_EITHER.choose_spec ⟨_, rfl⟩) (nomark _))
      (pss_one (ps_rz rfl X_TooMany (hr.mono (by decide)) (takes_of rfl rfl rfl rfl) (pa_cons pe_str (pa_cons (pe_glob (v := .int 4) (by rfl) G_MOST_EITHER.choose_spec ⟨_, rfl⟩) pa_nil))))
      pss_nil)
      (pss_cons (ps_lockU (ps_for (passes_of rfl) rfl (k_walk (K := K) rfl (pv 1)) (k_tup (K := K) (n := 2) rfl (by rfl) (pgs_cons (pg_name (i := 2) sc_check_program.nd rfl (Or.inl rfl)) (pgs_cons (pg_name (i := 3) sc_check_program.nd rfl (Or.inl rfl)) pgs_nil)))
      (pss_one (ps_expr (pe_df D_check_statement (hr.mono (by decide)) (fun σ => passAt (takes_of rfl rfl rfl rfl) σ) (pa_cons (pv 3) pa_nil))))))
      (pss_one (ps_lockU (ps_for (passes_of rfl) rfl (k_walk (K := K) rfl (pe_df D_numbered (hr.mono (by decide)) (fun σ => passAt (takes_of rfl rfl rfl rfl) σ) (pa_cons (pv 0) pa_nil))) (k_tup (K := K) (n := 2) rfl (by rfl) (pgs_cons (pg_name (i := 4) sc_check_program.nd rfl (Or.inl rfl)) (pgs_cons (pg_name (i := 3) sc_check_program.nd rfl (Or.inl rfl)) pgs_nil)))
      (pss_one (ps_if (PW.pt (pw_and (pt_cmpR (k_eq (K := K) rfl hu) (pe_ix (k_ix (K := K) rfl hu) (pv 3) pe_int (fun _ _ => rfl)) pe_str (nomark _)) (pw_and1 (pt_not (k_tr (K := K) rfl TU.pe_never)))))
      (pss_one (ps_rz rfl X_Misfit (hr.mono (by decide)) (takes_of rfl rfl rfl rfl) (pa_cons pe_str (pa_cons (pv 4) pa_nil))))
      pss_nil)))))))))), ?_⟩
   obtain ⟨v, b, rfl, hp, hq⟩ := h
   have n := wdB_ne b
   walk_at "g"
   obtain ⟨t41, e41⟩ := G_MOST_STATEMENTS
   refine ⟨v, .int 41, b, rfl, hp, .inr rfl, fun r t sv H1 s1 hr er et hst => ?_⟩
   walk_at "g"
   refine q_lenL (.inl (.inl er)) ?_
   walk_at "g"
   rw [decide_eq_false (p := (40 : Int) < (([V.ref t] : List V).length : Int)) (show ¬ (40 : Int) < 1 by decide)]
   walk_at "g"
   refine ⟨v, b, rfl, hp.mono s1, fun H2 s2 => ?_⟩
   walk_at "g"
   rw [decide_eq_false (p := (4 : Int) < 0) (by decide)]
   walk_at "g"
   refine ⟨v, b, rfl, hp.mono (s1.trans s2), fun H3 s3 => ?_⟩
   walk_at "g"
   rw [decide_eq_false (p := (4 : Int) < 0) (by decide)]
   walk_at "g"
   have s13 := s2.trans s3
   have s03 := s1.trans s13
   refine .inl ?_
   walk_at "g"
   refine q_items ?_
   walk_at "g"
   refine q_itemsE (xs := [.ref t]) (.inl (.inl (s13 _ _ er))) ?_
   refine for_any (walk_list (K := K) (a := r) (xs := [.ref t])) (fun i σ Hx => ∃ v2 v3 v4 : Option V, σ = [some v, some (.ref r), v2, v3, v4] ∧ Same H3 Hx) ⟨_, _, _, rfl, Same.refl'⟩ ?_ ?_ ?_
   · rintro i σ Hx _ ⟨v2, v3, v4, rfl, sx⟩
     exact .inl (.inl (sx _ _ (s13 _ _ er)))
   · rintro i x σ Hx Hy hi ⟨v2, v3, v4, rfl, sx⟩ ⟨rfl, hx⟩
     obtain rfl : i = 0 := by
       simp at hi
       exact hi
     cases (show some (V.ref t) = some x from hx)
     refine q_gtup (.inl (.inl (sx _ _ (s13 _ _ et)))) rfl ?_
     walk_at "g"
     refine ⟨sv, b, rfl, hst.mono (s13.trans sx), fun H4 s4 => ?_⟩
     walk_at "g"
     exact ⟨_, _, _, rfl, sx.trans s4⟩
   · rintro σ Hx ⟨v2, v3, v4, rfl, sx⟩
     have sH := s03.trans sx
     walk_at "g"
     refine .inl ?_
     walk_at "g"
     refine q_items ?_
     walk_at "g"
     refine ⟨v, b, rfl, hp.mono sH, fun r5 t5 sv5 H5 s5 hr5 er5 et5 hst5 => ?_⟩
     refine q_itemsE (xs := [.ref t5]) (.inl (.inl er5)) ?_
     refine for_any (walk_list (K := K) (a := r5) (xs := [.ref t5])) (fun i σ Hx => ∃ v2 v3 v4 : Option V, σ = [some v, some (.ref r), v2, v3, v4] ∧ Same H5 Hx) ⟨_, _, _, rfl, Same.refl'⟩ ?_ ?_ ?_
     · rintro i σ Hx _ ⟨v2, v3, v4, rfl, sx⟩
       exact .inl (.inl (sx _ _ er5))
     · rintro i x σ Hx Hy hi ⟨v2, v3, v4, rfl, sx⟩ ⟨rfl, hx⟩
       obtain rfl : i = 0 := by
         simp at hi
         exact hi
       cases (show some (V.ref t5) = some x from hx)
       refine q_gtup (.inl (.inl (sx _ _ et5))) rfl ?_
       obtain ⟨q5, rfl, hss⟩ := hst5
       walk_at "g"
       refine q_ixT (Sm.sqT sx hss) (atI_nat (j := 0) rfl) ?_
       walk_at "g"
       rw [decide_eq_false n.2.1]
       walk_at "g"
       exact ⟨_, _, _, rfl, sx⟩
     · rintro σ Hx ⟨v2, v3, v4, rfl, sx⟩
       walk_at "g"
       exact hq _ (sH.trans (s5.trans sx))
  case len =>
   obtain ⟨v, b, rfl, _⟩ := h
   rfl
/-- named_items(parts, items); names_in(program) -/
def nmsB (b : Bool) : List Tr := cond b [.tup [.str "spot", .str "c"]] []
def spNI (K : PySem.W.Frag) : Sp := fun vs H Q _ => ∃ (pv : V) (l : Addr) (b : Bool), vs = [pv, .ref l] ∧ T K H ff pv (.tup [.str (ptB b)]) ∧ SqT K H l [itV b] ∧ ∀ p xs H', Same H H' → H p = none → H' p = some (.lst xs) → Ts K H' ff xs (nmsB b) → Q (.ref p) H'
theorem in_named (b : Bool) : ([Tr.str "spot", .str "door", .str "lift", .str "parcel", .str "machine", .str "word"].any fun z => eqb z (.str (ptB b))) = b := by cases b <;> decide +kernel
-- named_items: 0 parts, 1 items, 2 kind, 3 item
theorem sc_named_items : FnScope ["parts", "items", "kind", "item"] ["parts", "items"] (defScope s_named_items) := ⟨rfl, rfl, rfl, by decide +kernel, rfl, by decide +kernel, by decide +kernel⟩
theorem d_named_items (B : Bt mg) (F : TopF K mg "named_items" s_named_items ["parts", "items"]) {A_NAMED : Addr} (G_NAMED : mg "NAMED" = some (.ref A_NAMED)) (W_NAMED : ∀ H P, T K H P (.ref A_NAMED) gt_NAMED) : Df P w K mg base "named_items" ["parts", "items"] 1 (spNI K) := by
  refine F.df sc_named_items (fun vs H Q E h => ?len) (fun f cdv A outer s H vs Q E hr h => ?body)
  case body =>
   have hu := hr.units
   refine ⟨_, (pss_one (ps_ret (pe_lockU (pe_lc (own := [("kind", 2), ("item", 3)]) (by rfl) sc_named_items.nd (RZ.pi_zipA (by rfl) B.b_zip (pa_cons (pv 0) (pa_cons (pv 1) pa_nil))) (blkOk_by (by kernel_rfl)) (fun _ _ _ _ _ => (k_tup (K := K) (n := 2) rfl (by rfl) (pgs_cons (pg_name (i := 2) sc_named_items.nd rfl (Or.inl rfl)) (pgs_cons (pg_name (i := 3) sc_named_items.nd rfl (Or.inl rfl)) pgs_nil)))) (fun _ _ _ _ _ => pts_one (pt_cmpR (k_in (K := K) rfl hu) (pv 2) (pe_glob (v := .ref A_NAMED) (by rfl) G_NAMED rfl) (by rfl))) (fun _ _ _ _ _ => (pe_tup (pa_cons (pv 2) (pa_cons (pv 3) pa_nil)))))))), ?_⟩
   obtain ⟨pv, l, b, rfl, hp, hl, hq⟩ := h
   cases hp with
   | @tup pa xs _ sp tp =>
   cases tp with
   | cons t1 t2 =>
   cases t2
   cases t1
   walk_at "g"
   refine .inl ?_
   walk_at "g"
   refine ⟨pa, l, [.str (ptB b)], [itV b], rfl, .inr ⟨sp, hl, ?_⟩⟩
   intro d hd
   have s1 := same_new (o := .lst []) hd
   refine lc_any (walk_zipT (xs := [.str (ptB b)]) (ys := [itV b]) (n := 1) rfl) (fun i Hx => Same H Hx ∧ ∃ xs, Hx d = some (.lst xs) ∧ Ts K Hx ff xs ((nmsB b).take i)) ⟨s1, [], upd_same, .nil⟩ (fun i Hx _ z => ⟨Sm.sqT z.1 sp, Sm.sqT z.1 hl⟩) ?_ ?_
   · rintro i v Hx Hy hi ⟨sx, xs, ed, ts⟩ ⟨t, p, r, rfl, ht, rfl, e1, e2⟩
     obtain rfl : i = 0 := by omega
     cases (show some (V.str (ptB b)) = some p from e1)
     cases (show some (itV b) = some r from e2)
     have s2 := same_new (o := .tup [.str (ptB b), itV b]) ht
     refine q_gtup st_new rfl ?_
     walk_at "g"
     refine ⟨rfl, ?_⟩
     walk_at "g"
     have ed2 := s2 _ _ ed
     have sx2 := sx.trans s2
     have xs0 : xs = [] := by
       have := ts.length
       rw [List.take_zero] at this
       exact List.length_eq_zero_iff.mp this
     subst xs0
     generalize upd Hx t (.tup [.str (ptB b), itV b]) = H2 at ed2 sx2
     refine .inr (.inl ⟨ff, .str (ptB b), _, .str _, .inr (W_NAMED _ _), rfl, rfl, (show 0 ≤ 60 by decide), ?_⟩)
     rw [if_neg Bool.false_ne_true, in_named]
     walk_at "g"
     cases b
     · walk_at "g"
       exact ⟨sx2, [], ed2, .nil⟩
     · walk_at "g"
       intro u hu
       have s3 := same_new (o := .tup [.str (ptB true), itV true]) hu
       refine ⟨[], s3 _ _ ed2, by decide, fun z o e => ?_, [.ref u], upd_same, ?_⟩
       · rw [upd_ne (ne_of_none e hd)]
         exact s3 _ _ (sx2 _ _ e)
       · have nu : d ≠ u := ne_of_none ed2 hu
         exact .cons (.tup (.inl (.inl (by rw [upd_ne nu.symm]; exact upd_same))) (.cons (.str _) (.cons (.str _) .nil))) .nil
   · rintro Hx ⟨sx, xs, ed, ts⟩
     walk_at "g"
     refine hq d xs _ sx hd ed ?_
     have e : (nmsB b).take 1 = nmsB b := by cases b <;> rfl
     rw [← e]
     exact ts
  case len =>
   obtain ⟨pv, l, b, rfl, _⟩ := h
   rfl
def spNin (K : PySem.W.Frag) : Sp := fun vs H Q _ => ∃ (v : V) (b : Bool), vs = [v] ∧ PrV K H v b ∧ ∀ p xs H', Same H H' → H' p = some (.lst xs) → Ts K H' ff xs (nmsB b) → Q (.ref p) H'
theorem eqb_sc : (([] : List Tr).any fun z => eqb z (.tup [.str "spot", .str "c"])) = false := rfl
-- names_in: 0 program, 1 found, 2 _, 3 statement, 4 word, 5 pairs, 6 pair
theorem sc_names_in : FnScope ["program", "found", "_", "statement", "word", "pairs", "pair"] ["program"] (defScope s_names_in) := ⟨rfl, rfl, rfl, by decide +kernel, rfl, by decide +kernel, by decide +kernel⟩
theorem d_names_in (B : Bt mg) (F : TopF K mg "names_in" s_names_in ["program"]) {A_PARTS : Addr} (G_PARTS : mg "PARTS" = some (.ref A_PARTS)) (W_PARTS : GD K w A_PARTS gt_PARTS) (D_all_statements : Df P w K mg base "all_statements" ["program", "most"] 2 (spAll K)) (D_named_items : Df P w K mg base "named_items" ["parts", "items"] 1 (spNI K)) : Df P w K mg base "names_in" ["program"] 3 (spNin K) := by
  refine F.df sc_names_in (fun vs H Q E h => ?len) (fun f cdv A outer s H vs Q E hr h => ?body)
  case body =>
   have hu := hr.units
   refine ⟨_, (pss_cons (ps_set (i := 1) sc_names_in.nd rfl (Or.inl rfl) (pe_lst pa_nil))
      (pss_cons (ps_lockU (ps_for (passes_of rfl) rfl (k_walk (K := K) rfl (pe_df D_all_statements (hr.mono (by decide)) (fun σ => passAt (takes_of rfl rfl rfl rfl) σ) (pa_cons (pv 0) (pa_cons pe_non pa_nil)))) (k_tup (K := K) (n := 2) rfl (by rfl) (pgs_cons (pg_name (i := 2) sc_names_in.nd rfl (Or.inl rfl)) (pgs_cons (pg_name (i := 3) sc_names_in.nd rfl (Or.inl rfl)) pgs_nil)))
      (pss_cons (ps_set (i := 4) sc_names_in.nd rfl (Or.inl rfl) (pe_ix (k_ixW (K := K) (w := w) rfl rfl hu) (pv 3) pe_int (fun _ _ => rfl)))
      (pss_cons (ps_set (i := 5) sc_names_in.nd rfl (Or.inl rfl) (pe_lst pa_nil))
      (pss_cons (ps_if (pt_cmpR (k_inW (K := K) (w := w) rfl rfl hu) (pv 4) (pe_glob (v := .ref A_PARTS) (by rfl) G_PARTS rfl) (by rfl))
      (pss_one (ps_set (i := 5) sc_names_in.nd rfl (Or.inl rfl) (pe_df D_named_items (hr.mono (by decide)) (fun σ => passAt (takes_of rfl rfl rfl rfl) σ) (pa_cons (pe_ix (k_ixW (K := K) (w := w) rfl rfl hu) (pe_glob (v := .ref A_PARTS) (by rfl) G_PARTS rfl) (pv 4) (fun _ _ => rfl)) (pa_cons (pe_slice (k_sl (K := K) rfl) (pv 3) (po_some pe_int) po_none) pa_nil)))))
      (pss_one (ps_if (pt_cmpR (k_ne (K := K) rfl hu) (pv 4) pe_str (nomark _))
      (pss_one (ps_set (i := 5) sc_names_in.nd rfl (Or.inl rfl) TU.pe_never))
      pss_nil)))
      (pss_one (ps_lockU (ps_for (passes_of rfl) rfl (k_walk (K := K) rfl (pv 5)) (pg_name (i := 6) sc_names_in.nd rfl (Or.inl rfl))
      (pss_one (ps_if (pt_cmpR (k_nin (K := K) rfl hu) (pv 6) (pv 1) (by rfl))
      (pss_one (ps_expr (k_append (K := K) rfl (pv 1) (pa_cons (pv 6) pa_nil))))
      pss_nil))))))))))
      (pss_one (ps_ret (pv 1))))), ?_⟩
   obtain ⟨v, b, rfl, hp, hq⟩ := h
   walk_at "g"
   intro f hf
   have s1 := same_new (o := .lst []) hf
   have ef : (upd H f (.lst [])) f = some (.lst []) := upd_same
   generalize upd H f (.lst []) = H1 at s1 ef
   walk_at "g"
   refine .inl ?_
   walk_at "g"
   refine q_items ?_
   walk_at "g"
   refine ⟨v, .non, b, rfl, hp.mono s1, .inl rfl, fun r t sv H2 s2 hr er et hst => ?_⟩
   have ef2 := s2 _ _ ef
   have frn : f ≠ r := ne_of_none ef hr
   have nrf : ∀ z o, H z = some o → z ≠ f := fun z o e => ne_of_none e hf
   refine q_itemsE (xs := [.ref t]) (.inl (.inl er)) ?_
   refine for_any (walk_list (K := K) (a := r) (xs := [.ref t])) (fun i σ Hx => ∃ v2 v3 v4 v5 v6 : Option V, σ = [some v, some (.ref f), v2, v3, v4, v5, v6] ∧ Same H Hx ∧ Hx r = some (.lst [.ref t]) ∧ ((i = 0 ∧ Hx f = some (.lst []) ∧ Same H2 Hx) ∨ (i = 1 ∧ ∃ xs, Hx f = some (.lst xs) ∧ Ts K Hx ff xs (nmsB b)))) ⟨_, _, _, _, _, rfl, s1.trans s2, er, .inl ⟨rfl, ef2, Same.refl'⟩⟩ ?_ ?_ ?_
   · rintro i σ Hx _ ⟨v2, v3, v4, v5, v6, rfl, sx, ex, _⟩
     exact .inl (.inl ex)
   · rintro i x σ Hx Hy hi ⟨v2, v3, v4, v5, v6, rfl, sx, erx, p⟩ ⟨rfl, hx⟩
     obtain rfl : i = 0 := by
       simp at hi
       exact hi
     cases (show some (V.ref t) = some x from hx)
     obtain ⟨_, efx, s2x⟩ := p.resolve_right fun z => absurd z.1 (by decide)
     refine q_gtup (.inl (.inl (s2x _ _ et))) rfl ?_
     obtain ⟨q5, rfl, hss⟩ := hst.mono s2x
     walk_at "g"
     refine .inl (q_ixT hss (atI_nat (j := 0) rfl) ?_)
     walk_at "g"
     intro l0 hl0
     have s3 := same_new (o := .lst []) hl0
     walk_at "g"
     refine q_inG W_PARTS (parts_at b) ?_
     walk_at "g"
     refine q_ixG W_PARTS (parts_at b) fun x tx => ?_
     walk_at "g"
     refine q_slT (Sm.sqT s3 hss) (fun z => absurd (show HT.sIx 2 0 (some 1) = 0 from z.1) (by decide)) fun l1 hl1 => ?_
     rw [cut1]
     have s4 := same_new (o := .tup [itV b]) hl1
     walk_at "g"
     refine ⟨x, l1, b, rfl, tx _ _, st_new, fun pl ys H5 s5 hpl epl tpl => ?_⟩
     have s35 := (s3.trans s4).trans s5
     have ef5 := s35 _ _ efx
     have er5 := s35 _ _ erx
     have sH5 := sx.trans s35
     have npf : pl ≠ f := fun c => by
       rw [c] at hpl
       have z := (s3.trans s4) _ _ efx
       rw [hpl] at z
       cases z
     walk_at "g"
     show tLockU _ _ _ _
     refine .inl ?_
     walk_at "g"
     refine q_items ?_
     walk_at "g"
     refine q_itemsE (xs := ys) (.inl (.inl epl)) ?_
     have yl : ys.length ≤ 1 := by
       rw [tpl.length]
       cases b <;> decide
     have npr : pl ≠ r := fun c => by
       rw [c] at hpl
       have z := (s3.trans s4) _ _ erx
       rw [hpl] at z
       cases z
     refine for_items (xs := ys) (fun j σ Hz => ∃ v6 : Option V, σ = [some v, some (.ref f), some (.int 0), some (.ref q5), some (.str (wdB b)), some (.ref pl), v6] ∧ Same H Hz ∧ Hz r = some (.lst [.ref t]) ∧ Hz pl = some (.lst ys) ∧ Hz f = some (.lst (ys.take j)) ∧ Ts K Hz ff ys (nmsB b)) ⟨_, rfl, sH5, er5, epl, ef5, tpl⟩ ?_ ?_ ?_
     · rintro j σ Hz _ ⟨v6, rfl, _, _, ez, _⟩
       exact .inl (.inl ez)
     · rintro j y σ Hz hy ⟨v6, rfl, sz, erz, epz, efz, tz⟩
       have jl := (List.getElem?_eq_some_iff.mp hy).1
       obtain rfl : j = 0 := by omega
       obtain ⟨d1, g1, ty⟩ := tz.gets hy
       rw [List.take_zero] at efz
       walk_at "g"
       refine .inr (.inl ⟨fun _ => True, d1, [], ty.imp fun _ z => z.elim, .inl (.lst trivial (.inl (.inl efz)) .nil), ?_, rfl, ?_, ?_⟩)
       · cases b
         · cases (show none = some d1 from g1)
         · cases (show some (Tr.tup [.str "spot", .str "c"]) = some d1 from g1)
           rfl
       · cases b
         · cases (show none = some d1 from g1)
         · cases (show some (Tr.tup [.str "spot", .str "c"]) = some d1 from g1)
           exact (show 1 ≤ 60 by decide)
       walk_at "g"
       rw [if_pos (show (if true = true then !([] : List Tr).any fun z => eqb z d1 else ([] : List Tr).any fun z => eqb z d1) = true from rfl)]
       walk_at "g"
       refine tyL efz ?_
       walk_at "g"
       refine q_append efz (by decide) ?_
       have k : ∀ z u, H z = some u → (upd Hz f (.lst ([] ++ [y]))) z = some u := fun z u e => by
         rw [upd_ne (nrf z u e)]
         exact sz _ _ e
       refine ⟨_, rfl, k, by rw [upd_ne frn.symm]; exact erz, by rw [upd_ne npf]; exact epz, ?_, tz.upd efz (fun _ z => nomatch z) (fun _ _ z => nomatch z) fun _ z => z.elim⟩
       rw [upd_same]
       have e1 : ys.take 1 = [y] := by
         cases ys with
         | nil => cases hy
         | cons a r => cases (show some a = some y from hy); rfl
       rw [e1]
       rfl
     · rintro σ Hz ⟨v6, rfl, sz, erz, epz, efz, tz⟩
       rw [List.take_length] at efz
       exact ⟨_, _, _, _, _, rfl, sz, erz, .inr ⟨rfl, ys, efz, tz⟩⟩
   · rintro σ Hx ⟨v2, v3, v4, v5, v6, rfl, sx, erx, p⟩
     obtain ⟨_, xs, efx, ts⟩ := p.resolve_left fun z => absurd z.1 (Nat.succ_ne_zero 0)
     walk_at "g"
     exact hq f xs _ sx efx ts
  case len =>
   obtain ⟨v, b, rfl, _⟩ := h
   rfl
/-- check_one_program(yard, name) -/
def prE (h : Hs) (b : Bool) : Option Er := if b = true then ndE h "spot" "spots" "c" else none
def spCOP (c : ErC) (K : PySem.W.Frag) : Sp := fun vs H Q E => ∃ (N : Addr → Prop) (a : Addr) (h : Hs) (n : Str) (b : Bool) (t ts : Tab), vs = [.ref a, .str n] ∧ T K H N (.ref a) (.dic (hK h)) ∧ lk h "programs" = some t ∧ lk t n = some (.tup [stB b]) ∧ lk h "spots" = some ts ∧ Res c (prE h b) H Q E
-- check_one_program: 0 yard, 1 name, 2 program, 3 what, 4 word
theorem sc_check_one_program : FnScope ["yard", "name", "program", "what", "word"] ["yard", "name"] (defScope s_check_one_program) := ⟨rfl, rfl, rfl, by decide +kernel, rfl, by decide +kernel, by decide +kernel⟩
theorem d_check_one_program (B : Bt mg) (F : TopF K mg "check_one_program" s_check_one_program ["yard", "name"]) (D_names_in : Df P w K mg base "names_in" ["program"] 3 (spNin K)) (D_need : Df P w K mg base "need" ["yard", "what", "name"] 3 (spNeed ⟨C_Unknown, C_Misfit, C_TooMany, C_BadName⟩ K)) (D_check_program : Df P w K mg base "check_program" ["program"] 6 (spCP K)) : Df P w K mg base "check_one_program" ["yard", "name"] 7 (spCOP ⟨C_Unknown, C_Misfit, C_TooMany, C_BadName⟩ K) := by
  refine F.df sc_check_one_program (fun vs H Q E h => ?len) (fun f cdv A outer s H vs Q E hr h => ?body)
  case body =>
   have hu := hr.units
   refine ⟨_, (pss_cons (ps_set (i := 2) sc_check_one_program.nd rfl (Or.inl rfl) (pe_ix (k_ix (K := K) rfl hu) (pe_ix (k_ix (K := K) rfl hu) (pv 0) pe_str (fun _ _ => rfl)) (pv 1) (fun _ _ => rfl)))
      (pss_cons (ps_expr (pe_df D_check_program (hr.mono (by decide)) (fun σ => passAt (takes_of rfl rfl rfl rfl) σ) (pa_cons (pv 2) pa_nil)))
      (pss_one (ps_lockU (ps_for (passes_of rfl) rfl (k_walk (K := K) rfl (pe_df D_names_in (hr.mono (by decide)) (fun σ => passAt (takes_of rfl rfl rfl rfl) σ) (pa_cons (pv 2) pa_nil))) (k_tup (K := K) (n := 2) rfl (by rfl) (pgs_cons (pg_name (i := 3) sc_check_one_program.nd rfl (Or.inl rfl)) (pgs_cons (pg_name (i := 4) sc_check_one_program.nd rfl (Or.inl rfl)) pgs_nil)))
      (pss_one (ps_if (pt_cmpR (k_ne (K := K) rfl hu) (pv 3) pe_str (nomark _))
      (pss_one (ps_expr (pe_df D_need (hr.mono (by decide)) (fun σ => passAt (takes_of rfl rfl rfl rfl) σ) (pa_cons (pv 0) (pa_cons (pv 3) (pa_cons (pv 4) pa_nil))))))
      pss_nil))))))), ?_⟩
   obtain ⟨N, a, h, n, b, t, ts, rfl, ha, ht, hn, hts, hr⟩ := h
   obtain ⟨a', kvs, ea, _, hra, tka⟩ := ha.dicAt
   cases ea
   obtain ⟨q, es, z1, _, z2, z3⟩ := T.tab tka ht
   obtain ⟨v, hv, tv⟩ := Tk.ent z3 hn
   have pv := PrV.of tv
   walk_at "g"
   refine q_ixK (.inr "programs") hra z1 ?_
   walk_at "g"
   refine q_ixK (.inr n) z2 hv ?_
   walk_at "g"
   refine ⟨v, b, rfl, pv, fun H1 s1 => ?_⟩
   walk_at "g"
   refine .inl ?_
   walk_at "g"
   refine q_items ?_
   walk_at "g"
   refine ⟨v, b, rfl, pv.mono s1, fun l xs H2 s2 el tx => ?_⟩
   refine q_itemsE (xs := xs) (.inl (.inl el)) ?_
   have xl : xs.length = (nmsB b).length := tx.length
   have s12 := s1.trans s2
   refine for_any (walk_list (K := K) (a := l) (xs := xs)) (fun i σ Hx => ∃ v3 v4 : Option V, σ = [some (.ref a), some (.str n), some v, v3, v4] ∧ Same H2 Hx ∧ (i = 1 → prE h b = none)) ⟨_, _, rfl, Same.refl', fun z => nomatch z⟩ ?_ ?_ ?_
   · rintro i σ Hx _ ⟨v3, v4, rfl, sx, _⟩
     exact .inl (.inl (sx _ _ el))
   · rintro i x σ Hx Hy hi ⟨v3, v4, rfl, sx, _⟩ ⟨rfl, hx⟩
     obtain ⟨d1, g1, t1⟩ := tx.gets hx
     cases b with
     | false => cases i <;> cases (show none = some d1 from g1)
     | true =>
       obtain rfl : i = 0 := by
         rw [xl] at hi
         exact Nat.lt_one_iff.mp hi
       cases (show some (Tr.tup [.str "spot", .str "c"]) = some d1 from g1)
       have t1 := t1.mono sx
       cases t1 with
       | @tup u us _ su tu =>
       cases tu with
       | cons k1 tu =>
       cases tu with
       | cons k2 tu =>
       cases tu
       cases k1
       cases k2
       refine q_gtup su rfl ?_
       walk_at "g"
       rw [decide_eq_false (p := ("spot" : Str) = "word") (by decide +kernel)]
       walk_at "g"
       have sa := s12.trans sx
       have hr1 : Res ⟨C_Unknown, C_Misfit, C_TooMany, C_BadName⟩ (ndE h "spot" "spots" "c") Hy Q E := hr.mono sa
       refine ⟨N, a, h, "spot", "spots", "c", ts, rfl, ha.mono sa, by kernel_rfl, hts, ?_⟩
       refine ⟨fun e H3 s3 => ?_, fun e h1 => hr1.2 e h1⟩
       walk_at "g"
       exact ⟨_, _, rfl, sx.trans s3, fun _ => e⟩
   · rintro σ Hx ⟨v3, v4, rfl, sx, hn1⟩
     walk_at "g"
     refine hr.1 ?_ _ (s12.trans sx)
     cases b with
     | false => rfl
     | true => exact hn1 xl
  case len =>
   obtain ⟨N, a, h, n, b, t, ts, rfl, _⟩ := h
   rfl

section
variable {K : PySem.W.Frag} {H : Hp} {N : Addr → Prop} {a : Addr} {h : Hs} {k n : Str} {t : Tab} {e : Tr}
theorem yd_at (ha : T K H N (.ref a) (.dic (hK h))) (ht : lk h k = some t) (hn : lk t n = some e) : ∃ kvs q es v, Rd H a (.dK kvs) ∧ valV kvs (.inr k) = some (.ref q) ∧ Rd H q (.dK es) ∧ valV es (.inr n) = some v ∧ T K H N v e ∧ Tk K H N es (tK t) := by
  obtain ⟨a', kvs, ea, _, hra, tka⟩ := ha.dicAt
  cases ea
  obtain ⟨q, es, z1, _, z2, z3⟩ := T.tab tka ht
  obtain ⟨v, hv, tv⟩ := Tk.ent z3 hn
  exact ⟨kvs, q, es, v, hra, z1, z2, hv, tv, z3⟩
theorem ndE_some {what pl : Str} (ht : lk h pl = some t) (z : ndE h what pl n = none) : ∃ e, lk t n = some e := by
  unfold ndE tb at z
  rw [ht] at z
  cases q : lk t n with
  | some e => exact ⟨e, rfl⟩
  | none =>
    have : ¬ (lk ((some t).getD []) n).isSome = true := by
      show ¬ (lk t n).isSome = true
      rw [q]
      exact Bool.false_ne_true
    rw [if_neg this] at z
    cases z
theorem Ts.ints {P : Addr → Prop} : ∀ {xs : List V} {ns : List Int}, Ts K H P xs (ns.map Tr.int) → xs = ns.map V.int
  | _, [], h => by
    cases h
    rfl
  | _, n :: ns, h => by
    cases h with
    | cons a r =>
      cases a
      rw [Ts.ints r]
      rfl
end
theorem q_skip {b : Bool} {A B : Prop} (h1 : b = true → B → A) (h2 : B) : if b = true then A else B := by
  cases b with
  | true => exact q_t (h1 rfl h2)
  | false => exact q_f h2
theorem q_ninTup {K : PySem.W.Frag} {H : Hp} {Q : VK} {P : Addr → Prop} {y : V} {z : Str} {ds : List Tr} (hy : T K H P y (.tup ds)) (hn : nods ds = true) (q : Q (.bl (!ds.any fun x => eqb x (.str z))) H) : rInU true K (.str z) y H Q :=
  .inr (.inl ⟨P, .str z, ds, .str z, .inr hy, rfl, hn, (show 0 ≤ 60 by decide), q⟩)
/-! ### lanes, machines, parcels -/
def gtT : Option Str → Tr
  | none => .tup [.str "open"]
  | some d => .tup [.str "door", .str d]
def lnT (s e hd : Str) (x y : Int) (g : Option Str) : Tr := .tup [.str s, .str e, .str hd, .int x, .int y, gtT g]
def gtE (h : Hs) : Option Str → Option Er
  | none => none
  | some d => ndE h "door" "doors" d
def lnE (h : Hs) (s e : Str) (g : Option Str) : Option Er := sq (ndE h "spot" "spots" s) (sq (ndE h "spot" "spots" e) (gtE h g))
def spLn (c : ErC) (K : PySem.W.Frag) : Sp := fun vs H Q E => ∃ (N : Addr → Prop) (a : Addr) (h : Hs) (n s e hd : Str) (x y : Int) (g : Option Str) (t ts td : Tab), vs = [.ref a, .str n] ∧ T K H N (.ref a) (.dic (hK h)) ∧ lk h "lanes" = some t ∧ lk h "spots" = some ts ∧ lk h "doors" = some td ∧ lk t n = some (lnT s e hd x y g) ∧ s ≠ e ∧ (hd = "-" ∨ hd = "e") ∧ (1 ≤ x ∧ x ≤ 4) ∧ (1 ≤ y ∧ y ≤ 3) ∧ Res c (lnE h s e g) H Q E
-- check_lane: 0 yard, 1 name, 2 start, 3 end, 4 heading, 5 length, 6 width, 7 gate, 8 landings
theorem sc_check_lane : FnScope ["yard", "name", "start", "end", "heading", "length", "width", "gate", "landings"] ["yard", "name"] (defScope s_check_lane) := ⟨rfl, rfl, rfl, by decide +kernel, rfl, by decide +kernel, by decide +kernel⟩
theorem d_check_lane (B : Bt mg) (F : TopF K mg "check_lane" s_check_lane ["yard", "name"]) {A_HEADINGS_yard : Addr} (G_HEADINGS_yard : mg "HEADINGS_yard" = some (.ref A_HEADINGS_yard)) (W_HEADINGS_yard : ∀ H P, T K H P (.ref A_HEADINGS_yard) gt_HEADINGS_yard) (X_Misfit : Xc P w K mg base "Misfit" ["what", "name"] C_Misfit) (D_need : Df P w K mg base "need" ["yard", "what", "name"] 3 (spNeed ⟨C_Unknown, C_Misfit, C_TooMany, C_BadName⟩ K)) (D_check_ranges : Df P w K mg base "check_ranges" ["what", "name", "entry", "ranges"] 3 (spRg ⟨C_Unknown, C_Misfit, C_TooMany, C_BadName⟩ K)) : Df P w K mg base "check_lane" ["yard", "name"] 4 (spLn ⟨C_Unknown, C_Misfit, C_TooMany, C_BadName⟩ K) := by
  refine F.df sc_check_lane (fun vs H Q E h => ?len) (fun f cdv A outer s H vs Q E hr h => ?body)
  case body =>
   have hu := hr.units
   refine ⟨_, (pss_cons (ps_asg (pe_ix (k_ix (K := K) rfl hu) (pe_ix (k_ix (K := K) rfl hu) (pv 0) pe_str (fun _ _ => rfl)) (pv 1) (fun _ _ => rfl)) (k_tup (K := K) (n := 6) rfl (by rfl) (pgs_cons (pg_name (i := 2) sc_check_lane.nd rfl (Or.inl rfl)) (pgs_cons (pg_name (i := 3) sc_check_lane.nd rfl (Or.inl rfl)) (pgs_cons (pg_name (i := 4) sc_check_lane.nd rfl (Or.inl rfl)) (pgs_cons (pg_name (i := 5) sc_check_lane.nd rfl (Or.inl rfl)) (pgs_cons (pg_name (i := 6) sc_check_lane.nd rfl (Or.inl rfl)) (pgs_cons (pg_name (i := 7) sc_check_lane.nd rfl (Or.inl rfl)) pgs_nil))))))))
      (pss_cons (ps_expr (pe_df D_need (hr.mono (by decide)) (fun σ => passAt (takes_of rfl rfl rfl rfl) σ) (pa_cons (pv 0) (pa_cons pe_str (pa_cons (pv 2) pa_nil)))))
      (pss_cons (ps_expr (pe_df D_need (hr.mono (by decide)) (fun σ => passAt (takes_of rfl rfl rfl rfl) σ) (pa_cons (pv 0) (pa_cons pe_str (pa_cons (pv 3) pa_nil)))))
      (pss_cons (ps_if (pt_cmpR (k_eq (K := K) rfl hu) (pv 2) (pv 3) (nomark _))
      (pss_one (ps_rz rfl X_Misfit (hr.mono (by decide)) (takes_of rfl rfl rfl rfl) (pa_cons pe_str (pa_cons (pv 1) pa_nil))))
      pss_nil)
      (pss_cons (ps_if (PW.pt (pw_and (pt_cmpR (k_ne (K := K) rfl hu) (pv 4) pe_str (nomark _)) (pw_and1 (pt_cmpR (k_nin (K := K) rfl hu) (pv 4) (pe_glob (v := .ref A_HEADINGS_yard) (by rfl) G_HEADINGS_yard rfl) (by rfl)))))
      (pss_one (ps_rz rfl X_Misfit (hr.mono (by decide)) (takes_of rfl rfl rfl rfl) (pa_cons pe_str (pa_cons (pv 1) pa_nil))))
      pss_nil)
      (pss_cons (ps_expr (pe_df D_check_ranges (hr.mono (by decide)) (fun σ => passAt (takes_of rfl rfl rfl rfl) σ) (pa_cons pe_str (pa_cons (pv 1) (pa_cons (pe_tup (pa_cons (pv 5) (pa_cons (pv 6) pa_nil))) (pa_cons (pe_tup (pa_cons (pe_tup (pa_cons pe_int (pa_cons pe_int pa_nil))) (pa_cons (pe_tup (pa_cons pe_int (pa_cons pe_int pa_nil))) pa_nil))) pa_nil))))))
      (pss_cons (ps_if (pt_cmpR (k_eq (K := K) rfl hu) (pe_ix (k_ix (K := K) rfl hu) (pv 7) pe_int (fun _ _ => rfl)) pe_str (nomark _))
      (pss_one (ps_expr (pe_df D_need (hr.mono (by decide)) (fun σ => passAt (takes_of rfl rfl rfl rfl) σ) (pa_cons (pv 0) (pa_cons pe_str (pa_cons (pe_ix (k_ix (K := K) rfl hu) (pv 7) pe_int (fun _ _ => rfl)) pa_nil))))))
      pss_nil)
      (pss_one (ps_if (pt_cmpR (k_eq (K := K) rfl hu) (pe_ix (k_ix (K := K) rfl hu) (pv 7) pe_int (fun _ _ => rfl)) pe_str (nomark _))
      (pss_cons (ps_expr (pe_df D_need (hr.mono (by decide)) (fun σ => passAt (takes_of rfl rfl rfl rfl) σ) (pa_cons (pv 0) (pa_cons pe_str (pa_cons (pe_ix (k_ix (K := K) rfl hu) (pv 7) pe_int (fun _ _ => rfl)) pa_nil)))))
      (pss_cons (ps_set (i := 8) sc_check_lane.nd rfl (Or.inl rfl) (pe_ix (k_ix (K := K) rfl hu) (pe_ix (k_ix (K := K) rfl hu) (pv 0) pe_str (fun _ _ => rfl)) (pe_ix (k_ix (K := K) rfl hu) (pv 7) pe_int (fun _ _ => rfl)) (fun _ _ => rfl)))
      (pss_one (ps_if (PW.pt (pw_or (pt_cmpR (k_nin (K := K) rfl hu) (pv 2) (pv 8) (by rfl)) (pw_or1 (pt_cmpR (k_nin (K := K) rfl hu) (pv 3) (pv 8) (by rfl)))))
      (pss_one (ps_rz rfl X_Misfit (hr.mono (by decide)) (takes_of rfl rfl rfl rfl) (pa_cons pe_str (pa_cons (pv 1) pa_nil))))
      pss_nil))))
      pss_nil))))))))), ?_⟩
   obtain ⟨N, a, h, n, s, e, hd, x, y, g, t, ts, td, rfl, ha, ht, hts, htd, hn, hse, hhd, hx, hy, hr⟩ := h
   obtain ⟨kvs, q, es, v, h1, h2, h3, h4, tv, _⟩ := yd_at ha ht hn
   cases tv with
   | @tup u us _ su tu =>
   cases tu with
   | cons k1 tu => cases tu with
   | cons k2 tu => cases tu with
   | cons k3 tu => cases tu with
   | cons k4 tu => cases tu with
   | cons k5 tu => cases tu with
   | @cons gv _ _ _ k6 tu =>
   cases tu
   cases k1
   cases k2
   cases k3
   cases k4
   cases k5
   walk_at "g"
   refine q_ixK (.inr "lanes") h1 h2 ?_
   walk_at "g"
   refine q_ixK (.inr n) h3 h4 ?_
   refine q_gtup su rfl ?_
   walk_at "g"
   refine ⟨N, a, h, "spot", "spots", s, ts, rfl, ha, by kernel_rfl, hts, hr.sq fun H1 s1 hr1 => ?_⟩
   walk_at "g"
   refine ⟨N, a, h, "spot", "spots", e, ts, rfl, ha.mono s1, by kernel_rfl, hts, hr1.sq fun H2 s2 hr2 => ?_⟩
   have s02 := s1.trans s2
   walk_at "g"
   rw [decide_eq_false hse]
   walk_at "g"
   refine q_skip (fun c k => ?_) ?_
   · obtain rfl : hd = "e" := hhd.resolve_left (by simpa using c)
     walk_at "g"
     refine q_ninTup (W_HEADINGS_yard _ ff) rfl ?_
     rw [show (!([Tr.str "n", .str "e", .str "s", .str "w"] : List Tr).any fun x => eqb x (.str "e")) = false by decide +kernel]
     exact q_bl k
   walk_at "g"
   intro t1 ht1
   have s3 := same_new (o := .tup [.int x, .int y]) ht1
   walk_at "g"
   intro t2 ht2
   have s4 := same_new (o := .tup [.int 1, .int 4]) ht2
   walk_at "g"
   intro t3 ht3
   have s5 := same_new (o := .tup [.int 1, .int 3]) ht3
   walk_at "g"
   intro t4 ht4
   have s6 := same_new (o := .tup [.ref t2, .ref t3]) ht4
   have et1 := ((s4.trans s5).trans s6) _ _ (upd_same (H := H2) (a := t1) (o := .tup [.int x, .int y]))
   have et2 := (s5.trans s6) _ _ (upd_same (H := upd H2 t1 (.tup [.int x, .int y])) (a := t2) (o := .tup [.int 1, .int 4]))
   have et3 := s6 _ _ (upd_same (H := upd (upd H2 t1 (.tup [.int x, .int y])) t2 (.tup [.int 1, .int 4])) (a := t3) (o := .tup [.int 1, .int 3]))
   have et4 := upd_same (H := upd (upd (upd H2 t1 (.tup [.int x, .int y])) t2 (.tup [.int 1, .int 4])) t3 (.tup [.int 1, .int 3])) (a := t4) (o := .tup [.ref t2, .ref t3])
   have s26 := ((s3.trans s4).trans s5).trans s6
   generalize upd (upd (upd (upd H2 t1 (.tup [.int x, .int y])) t2 (.tup [.int 1, .int 4])) t3 (.tup [.int 1, .int 3])) t4 (.tup [.ref t2, .ref t3]) = H3 at et1 et2 et3 et4 s26
   have s06 := s02.trans s26
   have hr3 := hr2.mono s26
   have rgok : rgE "lane" n [(x, 1, 4), (y, 1, 3)] = none := by
     unfold rgE inR
     simp [hx.1, hx.2, hy.1, hy.2]
   refine ⟨ff, ff, "lane", n, .ref t1, .ref t4, [(x, 1, 4), (y, 1, 3)], rfl, .tup (.inl (.inl et1)) (.cons (.int _) (.cons (.int _) .nil)), .tup (.inl (.inl et4)) (.cons (.tup (.inl (.inl et2)) (.cons (.int _) (.cons (.int _) .nil))) (.cons (.tup (.inl (.inl et3)) (.cons (.int _) (.cons (.int _) .nil))) .nil)), ⟨fun _ H4 s7 => ?_, fun e0 h0 => by rw [rgok] at h0; cases h0⟩⟩
   have hr4 := hr3.mono s7
   have s07 := s06.trans s7
   walk_at "g"
   have k7 := k6.mono s07
   cases g with
   | none =>
     cases k7 with
     | @tup u2 us2 _ su2 tu2 =>
     cases tu2 with
     | cons k1 tu2 =>
     cases tu2
     cases k1
     walk_at "g"
     refine q_ixT su2 (atI_nat (j := 0) rfl) ?_
     walk_at "g"
     rw [decide_eq_false (p := ("open" : Str) = "door") (by decide +kernel)]
     walk_at "g"
     refine q_ixT su2 (atI_nat (j := 0) rfl) ?_
     walk_at "g"
     rw [decide_eq_false (p := ("open" : Str) = "lift") (by decide +kernel)]
     walk_at "g"
     exact hr4.done
   | some d =>
     cases k7 with
     | @tup u2 us2 _ su2 tu2 =>
     cases tu2 with
     | cons k1 tu2 => cases tu2 with
     | cons k2 tu2 =>
     cases tu2
     cases k1
     cases k2
     walk_at "g"
     refine q_ixT su2 (atI_nat (j := 0) rfl) ?_
     walk_at "g"
     rw [decide_eq_true (p := ("door" : Str) = "door") (by decide +kernel)]
     walk_at "g"
     refine q_ixT su2 (atI_nat (j := 1) rfl) ?_
     walk_at "g"
     refine ⟨N, a, h, "door", "doors", d, td, rfl, ha.mono s07, by kernel_rfl, htd, Res.lastq (Q := Q) hr4 fun H5 s8 hr5 => ?_⟩
     walk_at "g"
     refine q_ixT (Sm.sqT s8 su2) (atI_nat (j := 0) rfl) ?_
     walk_at "g"
     rw [decide_eq_false (p := ("door" : Str) = "lift") (by decide +kernel)]
     walk_at "g"
     exact hr5.done
  case len =>
   obtain ⟨N, a, h, n, s, e, hd, x, y, g, t, ts, td, rfl, _⟩ := h
   rfl
/-- check_machine(yard, name) -/
def mcT (k s hd : Str) (ch : Int) (p : Str) : Tr := .tup [.str k, .str s, .str hd, .int ch, .str p]
/-- a number of an entry -/
def num (d : Option Tr) (i : Nat) : Int := match d with
  | some (.tup ds) => (match ds[i]? with | some (.int j) => j | _ => 0)
  | _ => 0
theorem num_ints {ns : List Int} {i : Nat} {x : Int} (e : ns[i]? = some x) : num (some (.tup (ns.map Tr.int))) i = x := by
  show (match (ns.map Tr.int)[i]? with | some (.int j) => j | _ => 0) = x
  rw [List.getElem?_map, e]
  rfl
def mcE (h : Hs) (n k s : Str) (ch : Int) (p : Str) : Option Er :=
  sq (ndE h "kind" "kinds" k) (sq (ndE h "spot" "spots" s) (sq (if ch < 0 ∨ num (lk (tb h "kinds") k) 5 < ch then some (.mf "machine" n) else none) (sq (ndE h "program" "programs" p) (if num (lk (tb h "spots") s) 0 < num (lk (tb h "kinds") k) 0 then some (.mf "machine" n) else none))))
/-- a table of tuples of numbers -/
def Nums (t : Tab) (l : Nat) : Prop := ∀ n e, lk t n = some e → ∃ ns : List Int, e = .tup (ns.map Tr.int) ∧ ns.length = l
def spMc (c : ErC) (K : PySem.W.Frag) : Sp := fun vs H Q E => ∃ (N : Addr → Prop) (a : Addr) (h : Hs) (n k s hd : Str) (ch : Int) (p : Str) (t ts tk tp : Tab), vs = [.ref a, .str n] ∧ T K H N (.ref a) (.dic (hK h)) ∧ lk h "machines" = some t ∧ lk h "spots" = some ts ∧ lk h "kinds" = some tk ∧ lk h "programs" = some tp ∧ lk t n = some (mcT k s hd ch p) ∧ (hd = "n" ∨ hd = "e") ∧ Nums ts 3 ∧ Nums tk 8 ∧ Res c (mcE h n k s ch p) H Q E
-- check_machine: 0 yard, 1 name, 2 kind, 3 spot, 4 heading, 5 charge, 6 program
theorem sc_check_machine : FnScope ["yard", "name", "kind", "spot", "heading", "charge", "program"] ["yard", "name"] (defScope s_check_machine) := ⟨rfl, rfl, rfl, by decide +kernel, rfl, by decide +kernel, by decide +kernel⟩
theorem d_check_machine (B : Bt mg) (F : TopF K mg "check_machine" s_check_machine ["yard", "name"]) {A_HEADINGS_yard : Addr} (G_HEADINGS_yard : mg "HEADINGS_yard" = some (.ref A_HEADINGS_yard)) (W_HEADINGS_yard : ∀ H P, T K H P (.ref A_HEADINGS_yard) gt_HEADINGS_yard) (X_Misfit : Xc P w K mg base "Misfit" ["what", "name"] C_Misfit) (D_need : Df P w K mg base "need" ["yard", "what", "name"] 3 (spNeed ⟨C_Unknown, C_Misfit, C_TooMany, C_BadName⟩ K)) : Df P w K mg base "check_machine" ["yard", "name"] 4 (spMc ⟨C_Unknown, C_Misfit, C_TooMany, C_BadName⟩ K) := by
  refine F.df sc_check_machine (fun vs H Q E h => ?len) (fun f cdv A outer s H vs Q E hr h => ?body)
  case body =>
   have hu := hr.units
   refine ⟨_, (pss_cons (ps_asg (pe_ix (k_ix (K := K) rfl hu) (pe_ix (k_ix (K := K) rfl hu) (pv 0) pe_str (fun _ _ => rfl)) (pv 1) (fun _ _ => rfl)) (k_tup (K := K) (n := 5) rfl (by rfl) (pgs_cons (pg_name (i := 2) sc_check_machine.nd rfl (Or.inl rfl)) (pgs_cons (pg_name (i := 3) sc_check_machine.nd rfl (Or.inl rfl)) (pgs_cons (pg_name (i := 4) sc_check_machine.nd rfl (Or.inl rfl)) (pgs_cons (pg_name (i := 5) sc_check_machine.nd rfl (Or.inl rfl)) (pgs_cons (pg_name (i := 6) sc_check_machine.nd rfl (Or.inl rfl)) pgs_nil)))))))
      (pss_cons (ps_expr (pe_df D_need (hr.mono (by decide)) (fun σ => passAt (takes_of rfl rfl rfl rfl) σ) (pa_cons (pv 0) (pa_cons pe_str (pa_cons (pv 2) pa_nil)))))
      (pss_cons (ps_expr (pe_df D_need (hr.mono (by decide)) (fun σ => passAt (takes_of rfl rfl rfl rfl) σ) (pa_cons (pv 0) (pa_cons pe_str (pa_cons (pv 3) pa_nil)))))
      (pss_cons (ps_if (pt_cmpR (k_nin (K := K) rfl hu) (pv 4) (pe_glob (v := .ref A_HEADINGS_yard) (by rfl) G_HEADINGS_yard rfl) (by rfl))
      (pss_one (ps_rz rfl X_Misfit (hr.mono (by decide)) (takes_of rfl rfl rfl rfl) (pa_cons pe_str (pa_cons (pv 1) pa_nil))))
      pss_nil)
      (pss_cons (ps_if (PW.pt (pw_or (pt_cmpR op_lt (pv 5) pe_int (nomark _)) (pw_or1 (pt_cmpR op_gt (pv 5) (pe_ix (k_ix (K := K) rfl hu) (pe_ix (k_ix (K := K) rfl hu) (pe_ix (k_ix (K := K) rfl hu) (pv 0) pe_str (fun _ _ => rfl)) (pv 2) (fun _ _ => rfl)) pe_int (fun _ _ => rfl)) (nomark _)))))
      (pss_one (ps_rz rfl X_Misfit (hr.mono (by decide)) (takes_of rfl rfl rfl rfl) (pa_cons pe_str (pa_cons (pv 1) pa_nil))))
      pss_nil)
      (pss_cons (ps_expr (pe_df D_need (hr.mono (by decide)) (fun σ => passAt (takes_of rfl rfl rfl rfl) σ) (pa_cons (pv 0) (pa_cons pe_str (pa_cons (pv 6) pa_nil)))))
      (pss_one (ps_if (pt_cmpR op_gt (pe_ix (k_ix (K := K) rfl hu) (pe_ix (k_ix (K := K) rfl hu) (pe_ix (k_ix (K := K) rfl hu) (pv 0) pe_str (fun _ _ => rfl)) (pv 2) (fun _ _ => rfl)) pe_int (fun _ _ => rfl)) (pe_ix (k_ix (K := K) rfl hu) (pe_ix (k_ix (K := K) rfl hu) (pe_ix (k_ix (K := K) rfl hu) (pv 0) pe_str (fun _ _ => rfl)) (pv 3) (fun _ _ => rfl)) pe_int (fun _ _ => rfl)) (nomark _))
      (pss_one (ps_rz rfl X_Misfit (hr.mono (by decide)) (takes_of rfl rfl rfl rfl) (pa_cons pe_str (pa_cons (pv 1) pa_nil))))
      pss_nil)))))))), ?_⟩
   obtain ⟨N, a, h, n, k, s, hd, ch, p, t, ts, tk, tp, rfl, ha, ht, hts, htk, htp, hn, hhd, n3, n8, hr⟩ := h
   obtain ⟨kvs, q, es, v, h1, h2, h3, h4, tv, _⟩ := yd_at ha ht hn
   cases tv with
   | @tup u us _ su tu =>
   cases tu with
   | cons k1 tu => cases tu with
   | cons k2 tu => cases tu with
   | cons k3 tu => cases tu with
   | cons k4 tu => cases tu with
   | cons k5 tu =>
   cases tu
   cases k1
   cases k2
   cases k3
   cases k4
   cases k5
   walk_at "g"
   refine q_ixK (.inr "machines") h1 h2 ?_
   walk_at "g"
   refine q_ixK (.inr n) h3 h4 ?_
   refine q_gtup su rfl ?_
   walk_at "g"
   refine ⟨N, a, h, "kind", "kinds", k, tk, rfl, ha, by kernel_rfl, htk, ?_⟩
   cases e1 : ndE h "kind" "kinds" k with
   | some e0 => exact ⟨(fun z => nomatch z), fun e z => hr.2 e (by unfold mcE; rw [e1]; exact z)⟩
   | none =>
   obtain ⟨ek, hek⟩ := ndE_some htk e1
   have etk : tb h "kinds" = tk := by unfold tb; rw [htk]; rfl
   have ets : tb h "spots" = ts := by unfold tb; rw [hts]; rfl
   obtain ⟨nk, rfl, lk8⟩ := n8 k ek hek
   unfold mcE at hr
   rw [e1] at hr
   refine ⟨fun _ H1 s1 => ?_, fun e z => nomatch z⟩
   have hr1 := hr.mono s1
   walk_at "g"
   refine ⟨N, a, h, "spot", "spots", s, ts, rfl, ha.mono s1, by kernel_rfl, hts, ?_⟩
   cases e2 : ndE h "spot" "spots" s with
   | some e0 => exact ⟨(fun z => nomatch z), fun e z => hr1.2 e (by rw [e2]; exact z)⟩
   | none =>
   obtain ⟨ep, hep⟩ := ndE_some hts e2
   obtain ⟨np, rfl, lk3⟩ := n3 s ep hep
   rw [e2] at hr1
   refine ⟨fun _ H2 s2 => ?_, fun e z => nomatch z⟩
   have hr2 := hr1.mono s2
   have s02 := s1.trans s2
   walk_at "g"
   refine q_ninTup (W_HEADINGS_yard _ ff) rfl ?_
   have hin : (!([Tr.str "n", .str "e", .str "s", .str "w"] : List Tr).any fun x => eqb x (.str hd)) = false := by
     rcases hhd with rfl | rfl <;> decide +kernel
   rw [hin]
   walk_at "g"
   have hek' : lk (tb h "kinds") k = some (.tup (nk.map Tr.int)) := by rw [etk]; exact hek
   have hep' : lk (tb h "spots") s = some (.tup (np.map Tr.int)) := by rw [ets]; exact hep
   obtain ⟨x5, e5⟩ : ∃ x, nk[5]? = some x := ⟨_, List.getElem?_eq_getElem (by omega)⟩
   obtain ⟨x0, e0⟩ : ∃ x, nk[0]? = some x := ⟨_, List.getElem?_eq_getElem (by omega)⟩
   obtain ⟨w0, ew0⟩ : ∃ x, np[0]? = some x := ⟨_, List.getElem?_eq_getElem (by omega)⟩
   rw [hek', hep', num_ints e5, num_ints e0, num_ints ew0] at hr2
   have mf : ∀ {Hx : Hp} {r : Option Er}, Res ⟨C_Unknown, C_Misfit, C_TooMany, C_BadName⟩ (sq (some (.mf "machine" n)) r) Hx Q E → ∀ d H', Same Hx H' → H' d = some (.xd [("name", .str n), ("what", .str "machine")]) → E (.ref C_Misfit) (some d) H' := fun z d H' s e => z.2 _ rfl d H' s e
   refine q_dec (fun c => ?_) (fun c => ?_)
   · walk_at "g"
     exact q_mk rfl fun d H' s3 _ hd => mf (r := sq (ndE h "program" "programs" p) (if w0 < x0 then some (.mf "machine" n) else none)) (by
       have z := hr2
       rw [if_pos (.inl c)] at z
       exact z) d H' s3 hd
   walk_at "g"
   obtain ⟨kv2, q2, es2, v2, g1, g2, g3, g4, tv2, _⟩ := yd_at (ha.mono s02) htk hek
   cases tv2 with
   | @tup u2 us2 _ su2 tu2 =>
   have eu2 := Ts.ints tu2
   subst eu2
   refine q_ixK (.inr "kinds") g1 g2 ?_
   walk_at "g"
   refine q_ixK (.inr k) g3 g4 ?_
   walk_at "g"
   refine q_ixT su2 (atI_nat (j := 5) (v := .int x5) (by rw [List.getElem?_map, e5]; rfl)) ?_
   walk_at "g"
   refine q_dec (fun c2 => ?_) (fun c2 => ?_)
   · walk_at "g"
     exact q_mk rfl fun d H' s3 _ hd => mf (r := sq (ndE h "program" "programs" p) (if w0 < x0 then some (.mf "machine" n) else none)) (by
       have z := hr2
       rw [if_pos (.inr c2)] at z
       exact z) d H' s3 hd
   rw [if_neg (fun z => z.elim c c2)] at hr2
   have hr2 : Res ⟨C_Unknown, C_Misfit, C_TooMany, C_BadName⟩ (sq (ndE h "program" "programs" p) (if w0 < x0 then some (.mf "machine" n) else none)) H2 Q E := hr2
   walk_at "g"
   refine ⟨N, a, h, "program", "programs", p, tp, rfl, ha.mono s02, by kernel_rfl, htp, hr2.sq fun H3 s3 hr3 => ?_⟩
   have s03 := s02.trans s3
   walk_at "g"
   obtain ⟨kv3, q3, es3, v3, f1, f2, f3, f4, tv3, _⟩ := yd_at (ha.mono s03) htk hek
   cases tv3 with
   | @tup u3 us3 _ su3 tu3 =>
   have eu3 := Ts.ints tu3
   subst eu3
   refine q_ixK (.inr "kinds") f1 f2 ?_
   walk_at "g"
   refine q_ixK (.inr k) f3 f4 ?_
   walk_at "g"
   refine q_ixT su3 (atI_nat (j := 0) (v := .int x0) (by rw [List.getElem?_map, e0]; rfl)) ?_
   walk_at "g"
   obtain ⟨kv4, q4, es4, v4, j1, j2, j3, j4, tv4, _⟩ := yd_at (ha.mono s03) hts hep
   cases tv4 with
   | @tup u4 us4 _ su4 tu4 =>
   have eu4 := Ts.ints tu4
   subst eu4
   refine q_ixK (.inr "spots") j1 j2 ?_
   walk_at "g"
   refine q_ixK (.inr s) j3 j4 ?_
   walk_at "g"
   refine q_ixT su4 (atI_nat (j := 0) (v := .int w0) (by rw [List.getElem?_map, ew0]; rfl)) ?_
   walk_at "g"
   refine q_dec (fun c3 => ?_) (fun c3 => ?_)
   · walk_at "g"
     exact q_mk rfl fun d H' s4 _ hd => hr3.2 _ (if_pos c3) d H' s4 hd
   · walk_at "g"
     exact hr3.1 (if_neg c3) _ Same.refl'
  case len =>
   obtain ⟨N, a, h, n, k, s, hd, ch, p, t, ts, tk, tp, rfl, _⟩ := h
   rfl

/-- check_parcel(yard, name) -/
def spPc (c : ErC) (K : PySem.W.Frag) : Sp := fun vs H Q E => ∃ (N : Addr → Prop) (a : Addr) (h : Hs) (n s : Str) (t ts : Tab), vs = [.ref a, .str n] ∧ T K H N (.ref a) (.dic (hK h)) ∧ lk h "parcels" = some t ∧ lk h "spots" = some ts ∧ lk t n = some (.tup [.int 1, .str s]) ∧ Res c (ndE h "spot" "spots" s) H Q E
theorem sc_check_parcel : FnScope ["yard", "name", "weight", "spot"] ["yard", "name"] (defScope s_check_parcel) := ⟨rfl, rfl, rfl, by decide +kernel, rfl, by decide +kernel, by decide +kernel⟩
theorem d_check_parcel (B : Bt mg) (F : TopF K mg "check_parcel" s_check_parcel ["yard", "name"]) (D_need : Df P w K mg base "need" ["yard", "what", "name"] 3 (spNeed ⟨C_Unknown, C_Misfit, C_TooMany, C_BadName⟩ K)) (D_check_ranges : Df P w K mg base "check_ranges" ["what", "name", "entry", "ranges"] 3 (spRg ⟨C_Unknown, C_Misfit, C_TooMany, C_BadName⟩ K)) : Df P w K mg base "check_parcel" ["yard", "name"] 4 (spPc ⟨C_Unknown, C_Misfit, C_TooMany, C_BadName⟩ K) := by
  refine F.df sc_check_parcel (fun vs H Q E h => ?len) (fun f cdv A outer s H vs Q E hr h => ?body)
  case body =>
   have hu := hr.units
   refine ⟨_, (pss_cons (ps_asg (pe_ix (k_ix (K := K) rfl hu) (pe_ix (k_ix (K := K) rfl hu) (pv 0) pe_str (fun _ _ => rfl)) (pv 1) (fun _ _ => rfl)) (k_tup (K := K) (n := 2) rfl (by rfl) (pgs_cons (pg_name (i := 2) sc_check_parcel.nd rfl (Or.inl rfl)) (pgs_cons (pg_name (i := 3) sc_check_parcel.nd rfl (Or.inl rfl)) pgs_nil))))
      (pss_cons (ps_expr (pe_df D_check_ranges (hr.mono (by decide)) (fun σ => passAt (takes_of rfl rfl rfl rfl) σ) (pa_cons pe_str (pa_cons (pv 1) (pa_cons (pe_tup (pa_cons (pv 2) pa_nil)) (pa_cons (pe_tup (pa_cons (pe_tup (pa_cons pe_int (pa_cons pe_int pa_nil))) pa_nil)) pa_nil))))))
      (pss_one (ps_expr (pe_df D_need (hr.mono (by decide)) (fun σ => passAt (takes_of rfl rfl rfl rfl) σ) (pa_cons (pv 0) (pa_cons pe_str (pa_cons (pv 3) pa_nil)))))))), ?_⟩
   obtain ⟨N, a, h, n, s, t, ts, rfl, ha, ht, hts, hn, hr⟩ := h
   obtain ⟨kvs, q, es, v, h1, h2, h3, h4, tv, _⟩ := yd_at ha ht hn
   cases tv with
   | @tup u us _ su tu =>
   cases tu with
   | cons k1 tu => cases tu with
   | cons k2 tu =>
   cases tu
   cases k1
   cases k2
   walk_at "g"
   refine q_ixK (.inr "parcels") h1 h2 ?_
   walk_at "g"
   refine q_ixK (.inr n) h3 h4 ?_
   refine q_gtup su rfl ?_
   walk_at "g"
   intro t1 ht1
   have s1 := same_new (o := .tup [.int 1]) ht1
   walk_at "g"
   intro t2 ht2
   have s2 := same_new (o := .tup [.int 0, .int 9]) ht2
   walk_at "g"
   intro t3 ht3
   have s3 := same_new (o := .tup [.ref t2]) ht3
   have et1 := (s2.trans s3) _ _ (upd_same (H := H) (a := t1) (o := .tup [.int 1]))
   have et2 := s3 _ _ (upd_same (H := upd H t1 (.tup [.int 1])) (a := t2) (o := .tup [.int 0, .int 9]))
   have et3 := upd_same (H := upd (upd H t1 (.tup [.int 1])) t2 (.tup [.int 0, .int 9])) (a := t3) (o := .tup [.ref t2])
   have s13 := (s1.trans s2).trans s3
   generalize upd (upd (upd H t1 (.tup [.int 1])) t2 (.tup [.int 0, .int 9])) t3 (.tup [.ref t2]) = H3 at et1 et2 et3 s13
   refine ⟨ff, ff, "parcel", n, .ref t1, .ref t3, [(1, 0, 9)], rfl, .tup (.inl (.inl et1)) (.cons (.int _) .nil), .tup (.inl (.inl et3)) (.cons (.tup (.inl (.inl et2)) (.cons (.int _) (.cons (.int _) .nil))) .nil), ⟨fun _ H4 s4 => ?_, fun e0 h0 => by cases h0⟩⟩
   walk_at "g"
   exact ⟨N, a, h, "spot", "spots", s, ts, rfl, ha.mono (s13.trans s4), by kernel_rfl, hts, hr.mono (s13.trans s4)⟩
  case len =>
   obtain ⟨N, a, h, n, s, t, ts, rfl, _⟩ := h
   rfl
/-! ### the yards of a law -/
abbrev tabsL : List Str := ["spots", "doors", "lifts", "lanes", "kinds", "machines", "parcels", "programs"]
abbrev intsT (ns : List Int) : Tr := .tup (ns.map Tr.int)
def OkE (key : Str) (e : Tr) : Prop :=
  (key = "spots" ∧ ∃ a b c : Int, e = intsT [a, b, c] ∧ (1 ≤ a ∧ a ≤ 3) ∧ (0 ≤ b ∧ b ≤ 9) ∧ 0 ≤ c ∧ c ≤ 4) ∨ (key = "doors" ∧ ∃ i : Int, e = .int i) ∨
  (key = "lanes" ∧ ∃ (s f hd : Str) (x y : Int) (g : Option Str), e = lnT s f hd x y g ∧ s ≠ f ∧ (hd = "-" ∨ hd = "e") ∧ (1 ≤ x ∧ x ≤ 4) ∧ 1 ≤ y ∧ y ≤ 3) ∨
  (key = "kinds" ∧ ∃ a : Int, e = intsT [a, 1, 0, 1, 5, 9, 1, 1] ∧ 1 ≤ a ∧ a ≤ 3) ∨ (key = "machines" ∧ ∃ (k s hd : Str) (ch : Int) (p : Str), e = mcT k s hd ch p ∧ (hd = "n" ∨ hd = "e")) ∨
  (key = "parcels" ∧ ∃ s : Str, e = .tup [.int 1, .str s]) ∨ (key = "programs" ∧ ∃ b : Bool, e = .tup [stB b])
structure YG (h : Hs) : Prop where
  wf : Wf h
  nm : nms h = tabsL
  ok : ∀ q ∈ h, ∀ x ∈ q.2, OkE q.1 x.2 ∧ x.1.length ≤ 12
  sz : ∀ q ∈ h, q.2.length ≤ 4
  lf : lk h "lifts" = some []
theorem YG.tab {h : Hs} (y : YG h) {k : Str} (m : k ∈ tabsL) : ∃ t, lk h k = some t := lk_mem_nms (by rw [y.nm]; exact m)
theorem YG.okE {h : Hs} (y : YG h) {k n : Str} {t : Tab} {e : Tr} (ht : lk h k = some t) (hn : lk t n = some e) : OkE k e ∧ n.length ≤ 12 := y.ok _ (lk_mem ht) _ (lk_mem hn)
theorem YG.n3 {h : Hs} (y : YG h) {t : Tab} (ht : lk h "spots" = some t) : Nums t 3 := fun n e hn => by
  rcases (y.okE ht hn).1 with ⟨_, a, b, c, rfl, _⟩ | ⟨z, _⟩ | ⟨z, _⟩ | ⟨z, _⟩ | ⟨z, _⟩ | ⟨z, _⟩ | ⟨z, _⟩
  · exact ⟨[a, b, c], rfl, rfl⟩
  all_goals exact absurd z (by decide +kernel)
theorem YG.n8 {h : Hs} (y : YG h) {t : Tab} (ht : lk h "kinds" = some t) : Nums t 8 := fun n e hn => by
  rcases (y.okE ht hn).1 with ⟨z, _⟩ | ⟨z, _⟩ | ⟨z, _⟩ | ⟨_, a, rfl, _⟩ | ⟨z, _⟩ | ⟨z, _⟩ | ⟨z, _⟩
  case inr.inr.inr.inl => exact ⟨[a, 1, 0, 1, 5, 9, 1, 1], rfl, rfl⟩
  all_goals exact absurd z (by decide +kernel)
def ckB (h : Hs) (key n : Str) (e : Tr) : Option Er :=
  if key = "doors" then (match e with | .int i => rgE "door" n [(i, 1, 6)] | _ => none)
  else if key = "lanes" then (match e with | .tup [.str s, .str f, _, _, _, .tup [_, .str d]] => lnE h s f (some d) | .tup [.str s, .str f, _, _, _, _] => lnE h s f none | _ => none)
  else if key = "machines" then (match e with | .tup [.str k, .str s, _, .int ch, .str p] => mcE h n k s ch p | _ => none)
  else if key = "parcels" then (match e with | .tup [_, .str s] => ndE h "spot" "spots" s | _ => none)
  else if key = "programs" then (match e with | .tup [.tup [.str w, _]] => prE h (decide (w = "go")) | _ => none)
  else none
def ckE (h : Hs) (key n : Str) (e : Tr) : Option Er := sq (if isNm n = true then none else some (.bn n)) (ckB h key n e)
section
variable {h : Hs} {n : Str}
theorem ckB_sp {e : Tr} : ckB h "spots" n e = none := by
  unfold ckB
  rw [if_neg (by decide +kernel), if_neg (by decide +kernel), if_neg (by decide +kernel), if_neg (by decide +kernel), if_neg (by decide +kernel)]
theorem ckB_kd {e : Tr} : ckB h "kinds" n e = none := by
  unfold ckB
  rw [if_neg (by decide +kernel), if_neg (by decide +kernel), if_neg (by decide +kernel), if_neg (by decide +kernel), if_neg (by decide +kernel)]
theorem ckB_dr {i : Int} : ckB h "doors" n (.int i) = rgE "door" n [(i, 1, 6)] := by
  unfold ckB
  rw [if_pos rfl]
theorem ckB_ln {s f hd : Str} {x y : Int} {g : Option Str} : ckB h "lanes" n (lnT s f hd x y g) = lnE h s f g := by
  unfold ckB
  rw [if_neg (by decide +kernel), if_pos rfl]
  cases g <;> rfl
theorem ckB_mc {k s hd p : Str} {ch : Int} : ckB h "machines" n (mcT k s hd ch p) = mcE h n k s ch p := by
  unfold ckB
  rw [if_neg (by decide +kernel), if_neg (by decide +kernel), if_pos rfl]
  rfl
theorem ckB_pc {s : Str} : ckB h "parcels" n (.tup [.int 1, .str s]) = ndE h "spot" "spots" s := by
  unfold ckB
  rw [if_neg (by decide +kernel), if_neg (by decide +kernel), if_neg (by decide +kernel), if_pos rfl]
theorem ckB_pr {b : Bool} : ckB h "programs" n (.tup [stB b]) = prE h b := by
  unfold ckB
  rw [if_neg (by decide +kernel), if_neg (by decide +kernel), if_neg (by decide +kernel), if_neg (by decide +kernel), if_pos rfl]
  show prE h (decide (wdB b = "go")) = _
  cases b
  · rw [show decide (wdB false = "go") = false by decide +kernel]
  · rw [show decide (wdB true = "go") = true by decide +kernel]
end
/-- check_entry(yard, key, name) -/
def spCEn (c : ErC) (K : PySem.W.Frag) : Sp := fun vs H Q E => ∃ (N : Addr → Prop) (a : Addr) (h : Hs) (key n : Str) (e : Tr) (t : Tab), vs = [.ref a, .str key, .str n] ∧ T K H N (.ref a) (.dic (hK h)) ∧ YG h ∧ lk h key = some t ∧ lk t n = some e ∧ Res c (ckE h key n e) H Q E
-- check_entry: 0 yard, 1 key, 2 name
theorem sc_check_entry : FnScope ["yard", "key", "name"] ["yard", "key", "name"] (defScope s_check_entry) := ⟨rfl, rfl, rfl, by decide +kernel, rfl, by decide +kernel, by decide +kernel⟩
theorem d_check_entry (B : Bt mg) (F : TopF K mg "check_entry" s_check_entry ["yard", "key", "name"]) {A_SPOT_RANGES : Addr} (G_SPOT_RANGES : mg "SPOT_RANGES" = some (.ref A_SPOT_RANGES)) (W_SPOT_RANGES : ∀ H P, T K H P (.ref A_SPOT_RANGES) gt_SPOT_RANGES) {A_KIND_RANGES : Addr} (G_KIND_RANGES : mg "KIND_RANGES" = some (.ref A_KIND_RANGES)) (W_KIND_RANGES : ∀ H P, T K H P (.ref A_KIND_RANGES) gt_KIND_RANGES) (D_check_ranges : Df P w K mg base "check_ranges" ["what", "name", "entry", "ranges"] 3 (spRg ⟨C_Unknown, C_Misfit, C_TooMany, C_BadName⟩ K)) (D_check_lane : Df P w K mg base "check_lane" ["yard", "name"] 4 (spLn ⟨C_Unknown, C_Misfit, C_TooMany, C_BadName⟩ K)) (D_check_machine : Df P w K mg base "check_machine" ["yard", "name"] 4 (spMc ⟨C_Unknown, C_Misfit, C_TooMany, C_BadName⟩ K)) (D_check_parcel : Df P w K mg base "check_parcel" ["yard", "name"] 4 (spPc ⟨C_Unknown, C_Misfit, C_TooMany, C_BadName⟩ K)) (D_check_one_program : Df P w K mg base "check_one_program" ["yard", "name"] 7 (spCOP ⟨C_Unknown, C_Misfit, C_TooMany, C_BadName⟩ K)) (D_check_name : Df P w K mg base "check_name" ["value"] 3 (spCN ⟨C_Unknown, C_Misfit, C_TooMany, C_BadName⟩)) : Df P w K mg base "check_entry" ["yard", "key", "name"] 8 (spCEn ⟨C_Unknown, C_Misfit, C_TooMany, C_BadName⟩ K) := by
  refine F.df sc_check_entry (fun vs H Q E h => ?len) (fun f cdv A outer s H vs Q E hr h => ?body)
  case body =>
   have hu := hr.units
   refine ⟨_, (pss_cons (ps_expr (pe_df D_check_name (hr.mono (by decide)) (fun σ => passAt (takes_of rfl rfl rfl rfl) σ) (pa_cons (pv 2) pa_nil)))
      (pss_one (ps_if (pt_cmpR (k_eq (K := K) rfl hu) (pv 1) pe_str (nomark _))
      (pss_one (ps_expr (pe_df D_check_ranges (hr.mono (by decide)) (fun σ => passAt (takes_of rfl rfl rfl rfl) σ) (pa_cons pe_str (pa_cons (pv 2) (pa_cons (pe_ix (k_ix (K := K) rfl hu) (pe_ix (k_ix (K := K) rfl hu) (pv 0) pe_str (fun _ _ => rfl)) (pv 2) (fun _ _ => rfl)) (pa_cons (pe_glob (v := .ref A_SPOT_RANGES) (by rfl) G_SPOT_RANGES rfl) pa_nil)))))))
      (pss_one (ps_if (pt_cmpR (k_eq (K := K) rfl hu) (pv 1) pe_str (nomark _))
      (pss_one (ps_expr (pe_df D_check_ranges (hr.mono (by decide)) (fun σ => passAt (takes_of rfl rfl rfl rfl) σ) (pa_cons pe_str (pa_cons (pv 2) (pa_cons (pe_tup (pa_cons (pe_ix (k_ix (K := K) rfl hu) (pe_ix (k_ix (K := K) rfl hu) (pv 0) pe_str (fun _ _ => rfl)) (pv 2) (fun _ _ => rfl)) pa_nil)) (pa_cons (pe_tup (pa_cons (pe_tup (pa_cons pe_int (pa_cons pe_int pa_nil))) pa_nil)) pa_nil)))))))
      (pss_one (ps_if (pt_cmpR (k_eq (K := K) rfl hu) (pv 1) pe_str (nomark _))
      (pss_one (ps_expr TU.pe_never))
      (pss_one (ps_if (pt_cmpR (k_eq (K := K) rfl hu) (pv 1) pe_str (nomark _))
      (pss_one (ps_expr (pe_df D_check_lane (hr.mono (by decide)) (fun σ => passAt (takes_of rfl rfl rfl rfl) σ) (pa_cons (pv 0) (pa_cons (pv 2) pa_nil)))))
      (pss_one (ps_if (pt_cmpR (k_eq (K := K) rfl hu) (pv 1) pe_str (nomark _))
      (pss_one (ps_expr (pe_df D_check_ranges (hr.mono (by decide)) (fun σ => passAt (takes_of rfl rfl rfl rfl) σ) (pa_cons pe_str (pa_cons (pv 2) (pa_cons (pe_ix (k_ix (K := K) rfl hu) (pe_ix (k_ix (K := K) rfl hu) (pv 0) pe_str (fun _ _ => rfl)) (pv 2) (fun _ _ => rfl)) (pa_cons (pe_glob (v := .ref A_KIND_RANGES) (by rfl) G_KIND_RANGES rfl) pa_nil)))))))
      (pss_one (ps_if (pt_cmpR (k_eq (K := K) rfl hu) (pv 1) pe_str (nomark _))
      (pss_one (ps_expr (pe_df D_check_machine (hr.mono (by decide)) (fun σ => passAt (takes_of rfl rfl rfl rfl) σ) (pa_cons (pv 0) (pa_cons (pv 2) pa_nil)))))
      (pss_one (ps_if (pt_cmpR (k_eq (K := K) rfl hu) (pv 1) pe_str (nomark _))
      (pss_one (ps_expr (pe_df D_check_parcel (hr.mono (by decide)) (fun σ => passAt (takes_of rfl rfl rfl rfl) σ) (pa_cons (pv 0) (pa_cons (pv 2) pa_nil)))))
      (pss_one (ps_expr (pe_df D_check_one_program (hr.mono (by decide)) (fun σ => passAt (takes_of rfl rfl rfl rfl) σ) (pa_cons (pv 0) (pa_cons (pv 2) pa_nil)))))))))))))))))))), ?_⟩
   obtain ⟨N, a, h, key, n, e, t, rfl, ha, y, ht, hn, hr⟩ := h
   have hok := y.okE ht hn
   walk_at "g"
   refine ⟨n, rfl, Nat.le_trans hok.2 (by decide), fun nm H1 s1 => ?_, fun nm => hr.2 _ (by unfold ckE; rw [if_neg (by rw [nm]; exact Bool.false_ne_true)]; rfl)⟩
   have hr : Res ⟨C_Unknown, C_Misfit, C_TooMany, C_BadName⟩ (ckB h key n e) H1 Q E := by
     have z := hr.mono s1
     unfold ckE at z
     rw [if_pos nm] at z
     exact z
   have ha := ha.mono s1
   obtain ⟨ts, hts⟩ := y.tab (k := "spots") (by simp)
   obtain ⟨td, htd⟩ := y.tab (k := "doors") (by simp)
   obtain ⟨tk, htk⟩ := y.tab (k := "kinds") (by simp)
   obtain ⟨tp, htp⟩ := y.tab (k := "programs") (by simp)
   obtain ⟨kvs, q, es, v, h1, h2, h3, h4, tv, _⟩ := yd_at ha ht hn
   walk_at "g"
   rcases hok.1 with ⟨rfl, a1, b1, c1, rfl, r1, r2, r3⟩ | ⟨rfl, i, rfl⟩ | ⟨rfl, s, f, hd, x, z, g, rfl, w1, w2, w3, w4⟩ | ⟨rfl, a1, rfl, r1⟩ | ⟨rfl, k, s, hd, ch, p, rfl, w1⟩ | ⟨rfl, s, rfl⟩ | ⟨rfl, b, rfl⟩
   · rw [decide_eq_true rfl]
     walk_at "g"
     refine q_ixK (.inr "spots") h1 h2 ?_
     walk_at "g"
     refine q_ixK (.inr n) h3 h4 ?_
     walk_at "g"
     refine ⟨N, ff, "spot", n, v, .ref A_SPOT_RANGES, [(a1, 1, 3), (b1, 0, 9), (c1, 0, 4)], rfl, tv, W_SPOT_RANGES _ _, ?_⟩
     have e0 : rgE "spot" n [(a1, 1, 3), (b1, 0, 9), (c1, 0, 4)] = none := by
       unfold rgE inR
       simp [r1.1, r1.2, r2.1, r2.2, r3.1, r3.2]
     rw [ckB_sp] at hr
     rw [e0]
     exact hr
   · rw [decide_eq_false (p := ("doors" : Str) = "spots") (by decide +kernel)]
     walk_at "g"
     rw [decide_eq_true (p := ("doors" : Str) = "doors") rfl]
     walk_at "g"
     refine q_ixK (.inr "doors") h1 h2 ?_
     walk_at "g"
     refine q_ixK (.inr n) h3 h4 ?_
     cases tv
     walk_at "g"
     intro t1 ht1
     have s2 := same_new (o := .tup [.int i]) ht1
     walk_at "g"
     intro t2 ht2
     have s3 := same_new (o := .tup [.int 1, .int 6]) ht2
     walk_at "g"
     intro t3 ht3
     have s4 := same_new (o := .tup [.ref t2]) ht3
     have et1 := (s3.trans s4) _ _ (upd_same (H := H1) (a := t1) (o := .tup [.int i]))
     have et2 := s4 _ _ (upd_same (H := upd H1 t1 (.tup [.int i])) (a := t2) (o := .tup [.int 1, .int 6]))
     have et3 := upd_same (H := upd (upd H1 t1 (.tup [.int i])) t2 (.tup [.int 1, .int 6])) (a := t3) (o := .tup [.ref t2])
     have s24 := (s2.trans s3).trans s4
     generalize upd (upd (upd H1 t1 (.tup [.int i])) t2 (.tup [.int 1, .int 6])) t3 (.tup [.ref t2]) = H3 at et1 et2 et3 s24
     rw [ckB_dr] at hr
     exact ⟨ff, ff, "door", n, .ref t1, .ref t3, [(i, 1, 6)], rfl, .tup (.inl (.inl et1)) (.cons (.int _) .nil), .tup (.inl (.inl et3)) (.cons (.tup (.inl (.inl et2)) (.cons (.int _) (.cons (.int _) .nil))) .nil), hr.mono s24⟩
   · rw [decide_eq_false (p := ("lanes" : Str) = "spots") (by decide +kernel)]
     walk_at "g"
     rw [decide_eq_false (p := ("lanes" : Str) = "doors") (by decide +kernel)]
     walk_at "g"
     rw [decide_eq_false (p := ("lanes" : Str) = "lifts") (by decide +kernel)]
     walk_at "g"
     rw [decide_eq_true (p := ("lanes" : Str) = "lanes") rfl]
     walk_at "g"
     rw [ckB_ln] at hr
     exact ⟨N, a, h, n, s, f, hd, x, z, g, t, ts, td, rfl, ha, ht, hts, htd, hn, w1, w2, w3, w4, hr⟩
   · rw [decide_eq_false (p := ("kinds" : Str) = "spots") (by decide +kernel)]
     walk_at "g"
     rw [decide_eq_false (p := ("kinds" : Str) = "doors") (by decide +kernel)]
     walk_at "g"
     rw [decide_eq_false (p := ("kinds" : Str) = "lifts") (by decide +kernel)]
     walk_at "g"
     rw [decide_eq_false (p := ("kinds" : Str) = "lanes") (by decide +kernel)]
     walk_at "g"
     rw [decide_eq_true (p := ("kinds" : Str) = "kinds") rfl]
     walk_at "g"
     refine q_ixK (.inr "kinds") h1 h2 ?_
     walk_at "g"
     refine q_ixK (.inr n) h3 h4 ?_
     walk_at "g"
     refine ⟨N, ff, "kind", n, v, .ref A_KIND_RANGES, [(a1, 1, 3), (1, 1, 3), (0, 0, 2), (1, 0, 3), (5, 0, 9), (9, 0, 60), (1, 0, 3), (1, 0, 4)], rfl, tv, W_KIND_RANGES _ _, ?_⟩
     have e0 : rgE "kind" n [(a1, 1, 3), (1, 1, 3), (0, 0, 2), (1, 0, 3), (5, 0, 9), (9, 0, 60), (1, 0, 3), (1, 0, 4)] = none := by
       unfold rgE inR
       simp [r1.1, r1.2]
     rw [ckB_kd] at hr
     rw [e0]
     exact hr
   · rw [decide_eq_false (p := ("machines" : Str) = "spots") (by decide +kernel)]
     walk_at "g"
     rw [decide_eq_false (p := ("machines" : Str) = "doors") (by decide +kernel)]
     walk_at "g"
     rw [decide_eq_false (p := ("machines" : Str) = "lifts") (by decide +kernel)]
     walk_at "g"
     rw [decide_eq_false (p := ("machines" : Str) = "lanes") (by decide +kernel)]
     walk_at "g"
     rw [decide_eq_false (p := ("machines" : Str) = "kinds") (by decide +kernel)]
     walk_at "g"
     rw [decide_eq_true (p := ("machines" : Str) = "machines") rfl]
     walk_at "g"
     rw [ckB_mc] at hr
     exact ⟨N, a, h, n, k, s, hd, ch, p, t, ts, tk, tp, rfl, ha, ht, hts, htk, htp, hn, w1, y.n3 hts, y.n8 htk, hr⟩
   · rw [decide_eq_false (p := ("parcels" : Str) = "spots") (by decide +kernel)]
     walk_at "g"
     rw [decide_eq_false (p := ("parcels" : Str) = "doors") (by decide +kernel)]
     walk_at "g"
     rw [decide_eq_false (p := ("parcels" : Str) = "lifts") (by decide +kernel)]
     walk_at "g"
     rw [decide_eq_false (p := ("parcels" : Str) = "lanes") (by decide +kernel)]
     walk_at "g"
     rw [decide_eq_false (p := ("parcels" : Str) = "kinds") (by decide +kernel)]
     walk_at "g"
     rw [decide_eq_false (p := ("parcels" : Str) = "machines") (by decide +kernel)]
     walk_at "g"
     rw [decide_eq_true (p := ("parcels" : Str) = "parcels") rfl]
     walk_at "g"
     rw [ckB_pc] at hr
     exact ⟨N, a, h, n, s, t, ts, rfl, ha, ht, hts, hn, hr⟩
   · rw [decide_eq_false (p := ("programs" : Str) = "spots") (by decide +kernel)]
     walk_at "g"
     rw [decide_eq_false (p := ("programs" : Str) = "doors") (by decide +kernel)]
     walk_at "g"
     rw [decide_eq_false (p := ("programs" : Str) = "lifts") (by decide +kernel)]
     walk_at "g"
     rw [decide_eq_false (p := ("programs" : Str) = "lanes") (by decide +kernel)]
     walk_at "g"
     rw [decide_eq_false (p := ("programs" : Str) = "kinds") (by decide +kernel)]
     walk_at "g"
     rw [decide_eq_false (p := ("programs" : Str) = "machines") (by decide +kernel)]
     walk_at "g"
     rw [decide_eq_false (p := ("programs" : Str) = "parcels") (by decide +kernel)]
     walk_at "g"
     rw [ckB_pr] at hr
     exact ⟨N, a, h, n, b, t, ts, rfl, ha, ht, hn, hts, hr⟩
  case len =>
   obtain ⟨N, a, h, key, n, e, t, rfl, _⟩ := h
   rfl

def spotOf (t : Tab) (n : Str) : Str := match lk t n with
  | some (.tup ds) => (match (ds[1]? : Option Tr) with | some (.str s) => s | _ => "")
  | _ => ""
def mcP (t : Tab) : List Str → List Str → Option Er
  | [], _ => none
  | n :: r, acc => if spotOf t n ∈ acc then some (.mf "machine" n) else mcP t r (spotOf t n :: acc)
def pcP (t ts : Tab) : List Str → List Str → Option Er
  | [], _ => none
  | n :: r, acc => if num (lk ts (spotOf t n)) 2 < ((acc.count (spotOf t n) + 1 : Nat) : Int) then some (.mf "parcel" n) else pcP t ts r (spotOf t n :: acc)
def plE (h : Hs) : Option Er := sq (mcP (tb h "machines") (srt (nms (tb h "machines"))) []) (pcP (tb h "parcels") (tb h "spots") (srt (nms (tb h "parcels"))) [])
/-- check_places(yard) -/
def spCPl (c : ErC) (K : PySem.W.Frag) : Sp := fun vs H Q E => ∃ (N : Addr → Prop) (a : Addr) (h : Hs), vs = [.ref a] ∧ T K H N (.ref a) (.dic (hK h)) ∧ YG h ∧ (∀ n s, lk (tb h "parcels") n = some (.tup [.int 1, .str s]) → ndE h "spot" "spots" s = none) ∧ Res c (plE h) H Q E
theorem YG.mcE {h : Hs} (y : YG h) {t : Tab} {n : Str} {e : Tr} (ht : lk h "machines" = some t) (hn : lk t n = some e) : ∃ k s hd ch p, e = mcT k s hd ch p := by
  rcases (y.okE ht hn).1 with ⟨z, _⟩ | ⟨z, _⟩ | ⟨z, _⟩ | ⟨z, _⟩ | ⟨_, k, s, hd, ch, p, rfl, _⟩ | ⟨z, _⟩ | ⟨z, _⟩
  case inr.inr.inr.inr.inl => exact ⟨k, s, hd, ch, p, rfl⟩
  all_goals exact absurd z (by decide +kernel)
theorem YG.pcE {h : Hs} (y : YG h) {t : Tab} {n : Str} {e : Tr} (ht : lk h "parcels" = some t) (hn : lk t n = some e) : ∃ s, e = .tup [.int 1, .str s] := by
  rcases (y.okE ht hn).1 with ⟨z, _⟩ | ⟨z, _⟩ | ⟨z, _⟩ | ⟨z, _⟩ | ⟨z, _⟩ | ⟨_, s, rfl⟩ | ⟨z, _⟩
  case inr.inr.inr.inr.inr.inl => exact ⟨s, rfl⟩
  all_goals exact absurd z (by decide +kernel)
theorem YG.tlen {h : Hs} (y : YG h) {k : Str} {t : Tab} (ht : lk h k = some t) : t.length ≤ 4 := y.sz _ (lk_mem ht)
theorem tb_of {h : Hs} {k : Str} {t : Tab} (ht : lk h k = some t) : tb h k = t := by unfold tb; rw [ht]; rfl
theorem srt_lk {t : Tab} {i : Nat} {n : Str} (h : (srt (nms t))[i]? = some n) : ∃ e, lk t n = some e := lk_mem_nms ((srt_perm _).mem_iff.mp (mem_at h))
theorem drop_at {α : Type} {l : List α} {i : Nat} {x : α} (h : l[i]? = some x) : l.drop i = x :: l.drop (i + 1) := by
  have hi := (List.getElem?_eq_some_iff.mp h).1
  rw [← List.getElem_cons_drop hi]
  rw [List.getElem?_eq_getElem hi] at h
  cases h
  rfl
theorem putK_le (kvs : List (Key × V)) (k : Key) (v : V) : (putK kvs k v).length ≤ kvs.length + 1 := by
  unfold putK
  split
  · rw [List.length_map]
    exact Nat.le_succ _
  · rw [List.length_append]
    exact Nat.le_refl _
-- check_places: 0 yard, 1 held, 2 name, 3 spot, 4 count
theorem sc_check_places : FnScope ["yard", "held", "name", "spot", "count"] ["yard"] (defScope s_check_places) := ⟨rfl, rfl, rfl, by decide +kernel, rfl, by decide +kernel, by decide +kernel⟩
theorem d_check_places (B : Bt mg) (F : TopF K mg "check_places" s_check_places ["yard"]) (X_Misfit : Xc P w K mg base "Misfit" ["what", "name"] C_Misfit) : Df P w K mg base "check_places" ["yard"] 3 (spCPl ⟨C_Unknown, C_Misfit, C_TooMany, C_BadName⟩ K) := by
  refine F.df sc_check_places (fun vs H Q E h => ?len) (fun f cdv A outer s H vs Q E hr h => ?body)
  case body =>
   have hu := hr.units
   refine ⟨_, (pss_cons (ps_set (i := 1) sc_check_places.nd rfl (Or.inl rfl) pe_dnewK)
      (pss_cons (ps_for (passes_of rfl) rfl (k_walk (K := K) rfl (pe_callB (k_sort (K := K) rfl rfl) (by rfl) B.b_sorted (by decide +kernel) (pa_cons (pe_ix (k_ix (K := K) rfl hu) (pv 0) pe_str (fun _ _ => rfl)) pa_nil))) (pg_name (i := 2) sc_check_places.nd rfl (Or.inl rfl))
      (pss_cons (ps_set (i := 3) sc_check_places.nd rfl (Or.inl rfl) (pe_ix (k_ix (K := K) rfl hu) (pe_ix (k_ix (K := K) rfl hu) (pe_ix (k_ix (K := K) rfl hu) (pv 0) pe_str (fun _ _ => rfl)) (pv 2) (fun _ _ => rfl)) pe_int (fun _ _ => rfl)))
      (pss_cons (ps_if (pt_cmpR (k_in (K := K) rfl hu) (pv 3) (pv 1) (by rfl))
      (pss_one (ps_rz rfl X_Misfit (hr.mono (by decide)) (takes_of rfl rfl rfl rfl) (pa_cons pe_str (pa_cons (pv 2) pa_nil))))
      pss_nil)
      (pss_one (ps_asg pe_bl (pg_sub (pv 1) (pv 3) (set_any hu)))))))
      (pss_cons (ps_lockU (ps_setDc (i := 4) (own := [("spot", 3)]) (by rfl) sc_check_places.nd rfl rfl (sw_trueD rfl rfl rfl (by kernel_rfl)) (k_walk (K := K) rfl (pe_ix (k_ix (K := K) rfl hu) (pv 0) pe_str (fun _ _ => rfl))) (blkOk_by (by kernel_rfl)) (fun _ _ _ _ _ => (pg_name (i := 3) sc_check_places.nd rfl (Or.inl rfl))) (fun _ _ _ _ _ => pts_nil) (fun _ _ _ _ _ => (pv 3)) (fun _ _ _ _ _ => pe_int)))
      (pss_one (ps_for (passes_of rfl) rfl (k_walk (K := K) rfl (pe_callB (k_sort (K := K) rfl rfl) (by rfl) B.b_sorted (by decide +kernel) (pa_cons (pe_ix (k_ix (K := K) rfl hu) (pv 0) pe_str (fun _ _ => rfl)) pa_nil))) (pg_name (i := 2) sc_check_places.nd rfl (Or.inl rfl))
      (pss_cons (ps_set (i := 3) sc_check_places.nd rfl (Or.inl rfl) (pe_ix (k_ix (K := K) rfl hu) (pe_ix (k_ix (K := K) rfl hu) (pe_ix (k_ix (K := K) rfl hu) (pv 0) pe_str (fun _ _ => rfl)) (pv 2) (fun _ _ => rfl)) pe_int (fun _ _ => rfl)))
      (pss_cons (ps_daug (Nat.lt_of_le_of_lt (Nat.add_le_add_left (by decide : 1 ≤ 64) _) hu) (pv 4) (pv 3) pe_int in_add (fun _ _ _ => rfl))
      (pss_one (ps_if (pt_cmpR op_gt (pe_ix (k_ix (K := K) rfl hu) (pv 4) (pv 3) (fun _ _ => rfl)) (pe_ix (k_ix (K := K) rfl hu) (pe_ix (k_ix (K := K) rfl hu) (pe_ix (k_ix (K := K) rfl hu) (pv 0) pe_str (fun _ _ => rfl)) (pv 3) (fun _ _ => rfl)) pe_int (fun _ _ => rfl)) (nomark _))
      (pss_one (ps_rz rfl X_Misfit (hr.mono (by decide)) (takes_of rfl rfl rfl rfl) (pa_cons pe_str (pa_cons (pv 2) pa_nil))))
      pss_nil))))))))), ?_⟩
   obtain ⟨N, a, h, rfl, ha, y, hpc, hr⟩ := h
   obtain ⟨tm, htm⟩ := y.tab (k := "machines") (by simp)
   obtain ⟨tc, htc⟩ := y.tab (k := "parcels") (by simp)
   obtain ⟨ts, hts⟩ := y.tab (k := "spots") (by simp)
   have hr0 := hr
   unfold plE at hr
   rw [tb_of htm, tb_of htc, tb_of hts] at hr
   rw [tb_of htc] at hpc
   obtain ⟨a', kvs, ea, _, hra, tka⟩ := ha.dicAt
   cases ea
   obtain ⟨q, es, z1, _, z2, z3⟩ := T.tab tka htm
   have lm := y.tlen htm
   have lc := y.tlen htc
   have ls := y.tlen hts
   walk_at "g"
   intro hd hhd
   have s1 := same_new (o := .dK []) hhd
   have ed : (upd H hd (.dK [])) hd = some (.dK []) := upd_same
   generalize upd H hd (.dK []) = H1 at s1 ed
   walk_at "g"
   refine q_items ?_
   walk_at "g"
   refine q_ixK (.inr "machines") (Sm.rd s1 hra) z1 ?_
   walk_at "g"
   refine q_sortD (ks := nms tm) (Sm.rd s1 z2) (z3.keys.trans (keys_tK tm)) (by rw [nms_len]; omega) fun l hl => ?_
   have s2 := same_new (o := .lst ((srt (nms tm)).map V.str)) hl
   refine q_itemsE (xs := (srt (nms tm)).map V.str) (.inl (.inl upd_same)) ?_
   refine for_items (xs := (srt (nms tm)).map V.str) (fun i σ Hx => ∃ (v2 v3 : Option V) (kh : List (Key × V)) (acc : List Str), σ = [some (.ref a), some (.ref hd), v2, v3, none] ∧ Same H Hx ∧ Hx l = some (.lst ((srt (nms tm)).map V.str)) ∧ Hx hd = some (.dK kh) ∧ (∀ s, (valV kh (.inr s)).isSome = decide (s ∈ acc)) ∧ kh.length ≤ i ∧ mcP tm (srt (nms tm)) [] = mcP tm ((srt (nms tm)).drop i) acc) ?_ ?_ ?_ ?_
   · exact ⟨none, none, [], [], rfl, s1.trans s2, upd_same, s2 _ _ ed, (fun s => by simp [valV]), Nat.le_refl _, rfl⟩
   · rintro i σ Hx _ ⟨v2, v3, kh, acc, rfl, sx, el, _⟩
     exact .inl (.inl el)
   · rintro i x σ Hx hx ⟨v2, v3, kh, acc, rfl, sx, el, eh, hk, hl4, hm⟩
     obtain ⟨n, hn, rfl⟩ := map_at hx
     obtain ⟨e, he⟩ := srt_lk hn
     obtain ⟨k, s, hd0, ch, p, rfl⟩ := y.mcE htm he
     have hi4 : i < 4 := by
       have := (List.getElem?_eq_some_iff.mp hn).1
       rw [(srt_perm _).length_eq, nms_len] at this
       omega
     have es1 : spotOf tm n = s := by
       unfold spotOf
       rw [he]
       rfl
     rw [drop_at hn] at hm
     obtain ⟨kv2, q2, e2, v, g1, g2, g3, g4, tv, _⟩ := yd_at (ha.mono sx) htm he
     cases tv with
     | @tup u us _ su tu =>
     cases tu with
     | cons k1 tu => cases tu with
     | cons k2 tu =>
     cases k2
     walk_at "g"
     refine q_ixK (.inr "machines") g1 g2 ?_
     walk_at "g"
     refine q_ixK (.inr n) g3 g4 ?_
     walk_at "g"
     refine q_ixT su (atI_nat (j := 1) rfl) ?_
     walk_at "g"
     refine q_inD (.inr s) (.inl eh) ?_
     rw [hk s]
     walk_at "g"
     refine q_dec (fun c => ?_) (fun c => ?_)
     · walk_at "g"
       refine q_mk rfl fun d H' s3 _ hd => ?_
       have hm2 : mcP tm (srt (nms tm)) [] = some (.mf "machine" n) := by
         rw [hm]
         unfold mcP
         rw [es1, if_pos c]
       rw [hm2] at hr
       exact hr.2 _ rfl d H' (sx.trans s3) hd
     · walk_at "g"
       refine q_setD (.inr s) eh (len_small (by omega)) ?_
       have lh : l ≠ hd := fun c2 => by
         rw [c2, eh] at el
         cases el
       refine ⟨_, _, _, s :: acc, rfl, fun z o e => ?_, ?_, upd_same, fun s' => ?_, ?_, ?_⟩
       · rw [upd_ne (ne_of_none e hhd)]
         exact sx _ _ e
       · rw [upd_ne lh]
         exact el
       · rw [valV_put]
         by_cases e3 : s' = s
         · rw [if_pos (by rw [e3])]
           simp [e3]
         · rw [if_neg (fun z => e3 (inr_eq.mp z)), hk s']
           simp [e3]
       · have := putK_le kh (.inr s) (.bl true)
         omega
       · rw [hm]
         conv => lhs; unfold mcP
         rw [es1, if_neg c]
   · rintro σ Hx ⟨v2, v3, kh, acc, rfl, sx, el, eh, hk, hl4, hm⟩
     rw [List.length_map, List.drop_length] at hm
     have hm : mcP tm (srt (nms tm)) [] = none := hm
     rw [hm] at hr
     have hr : Res ⟨C_Unknown, C_Misfit, C_TooMany, C_BadName⟩ (pcP tc ts (srt (nms tc)) []) Hx Q E := hr.mono sx
     walk_at "g"
     have rax := Sm.rd sx hra
     obtain ⟨qs, ess, y1, _, y2, y3⟩ := T.tab tka hts
     have y2x := Sm.rd sx y2
     refine q_lockS y2x fun Hl od un D' lkd hD' => ?_
     walk_at "g"
     refine q_keys ?_
     walk_at "g"
     refine q_ixK (.inr "spots") (lkd.rs.dk rax) y1 ?_
     refine q_keysE lkd.at_ ?_
     intro d hdn
     have hlen : ess.length = ts.length := by rw [y3.length]; unfold tK; rw [List.length_map]
     have ekk : ess.map (·.1) = (nms ts).map Sum.inr := y3.keys.trans (keys_tK ts)
     refine dc_any (walk_keys (d := qs) (o := od) (kvs := ess)) (fun i Hy => Same Hl Hy ∧ ∃ kc, Hy d = some (.dK kc) ∧ kc.length ≤ i ∧ ∀ s, valV kc (.inr s) = if s ∈ (nms ts).take i then some (.int 0) else none) ?_ ?_ ?_ ?_
     · exact ⟨same_new hdn, [], upd_same, Nat.le_refl _, fun s => by simp [valV]⟩
     · rintro i Hy _ ⟨sy, _⟩
       exact sy _ _ lkd.at_
     · rintro i x Hy' Hy hi ⟨sy, kc, ekc, lkc, hkc⟩ ⟨rfl, k, v, hkv, rfl⟩
       obtain ⟨nm, hnm, rfl⟩ : ∃ nm, (nms ts)[i]? = some nm ∧ k = .inr nm := by
         have e9 : (ess.map (·.1))[i]? = some k := by rw [List.getElem?_map, hkv]; rfl
         rw [ekk] at e9
         obtain ⟨nm, h9, e9⟩ := map_at e9
         exact ⟨nm, h9, e9⟩
       walk_at "g"
       refine ⟨rfl, ?_⟩
       walk_at "g"
       have hi4 : i < 4 := by omega
       refine ⟨kc, .inr nm, rfl, ekc, len_small (by omega), fun z o e => ?_, _, upd_same, ?_, fun s => ?_⟩
       · rw [upd_ne (ne_of_none e hdn)]
         exact sy _ _ e
       · have := putK_le kc (.inr nm) (.int 0)
         omega
       · rw [valV_put, hkc s, take_more hnm]
         by_cases e3 : s = nm
         · rw [if_pos (by rw [e3]), if_pos (by simp [e3])]
         · rw [if_neg (fun z => e3 (inr_eq.mp z))]
           simp [e3]
     · rintro Hy ⟨sy, kc, ekc, lkc, hkc⟩
       walk_at "g"
       refine hD'.nx _ _ (sy _ _ lkd.at_) ?_
       have dq : d ≠ qs := (ne_of_none lkd.at_ hdn).symm
       have su := sx.trans (lkd.same sy)
       have edu : un Hy d = some (.dK kc) := by rw [lkd.un _ _ dq]; exact ekc
       have hdx : Hx d = none := lkd.new.mp hdn
       have hdH : H d = none := sx.free hdx
       generalize un Hy = Hu at su edu
       rw [hlen, ← nms_len ts, List.take_length] at hkc
       walk_at "g"
       refine q_items ?_
       walk_at "g"
       obtain ⟨qp, esp, p1, _, p2, p3⟩ := T.tab tka htc
       refine q_ixK (.inr "parcels") (Sm.rd su hra) p1 ?_
       walk_at "g"
       refine q_sortD (ks := nms tc) (Sm.rd su p2) (p3.keys.trans (keys_tK tc)) (by rw [nms_len]; omega) fun l5 hl5 => ?_
       have s5 := same_new (o := .lst ((srt (nms tc)).map V.str)) hl5
       refine q_itemsE (xs := (srt (nms tc)).map V.str) (.inl (.inl upd_same)) ?_
       have hr5 : Res ⟨C_Unknown, C_Misfit, C_TooMany, C_BadName⟩ (pcP tc ts (srt (nms tc)) []) H Q E := by
         have z := hr0
         unfold plE at z
         rw [tb_of htm, tb_of htc, tb_of hts, hm] at z
         exact z
       refine for_items (xs := (srt (nms tc)).map V.str) (fun i σ Hx => ∃ (v2 v3 : Option V) (kh : List (Key × V)) (acc : List Str), σ = [some (.ref a), some (.ref hd), v2, v3, some (.ref d)] ∧ Same H Hx ∧ Hx l5 = some (.lst ((srt (nms tc)).map V.str)) ∧ Hx d = some (.dK kh) ∧ (∀ s, valV kh (.inr s) = if s ∈ nms ts then some (.int (acc.count s : Nat)) else none) ∧ kh.length ≤ 4 + i ∧ pcP tc ts (srt (nms tc)) [] = pcP tc ts ((srt (nms tc)).drop i) acc) ?_ ?_ ?_ ?_
       · exact ⟨_, _, kc, [], rfl, su.trans s5, upd_same, s5 _ _ edu, hkc, by omega, rfl⟩
       · rintro i σ Hx _ ⟨v2, v3, kh, acc, rfl, sx, el, _⟩
         exact .inl (.inl el)
       · rintro i x σ Hx hx ⟨v2, v3, kh, acc, rfl, sx, el, eh, hk, hl4, hm2⟩
         obtain ⟨n, hn, rfl⟩ := map_at hx
         obtain ⟨e, he⟩ := srt_lk hn
         obtain ⟨s, rfl⟩ := y.pcE htc he
         have hi4 : i < 4 := by
           have := (List.getElem?_eq_some_iff.mp hn).1
           rw [(srt_perm _).length_eq, nms_len] at this
           omega
         have es1 : spotOf tc n = s := by
           unfold spotOf
           rw [he]
           rfl
         rw [drop_at hn] at hm2
         obtain ⟨es0, hes0⟩ := ndE_some hts (hpc n s he)
         obtain ⟨ns, rfl, ln3⟩ := y.n3 hts s es0 hes0
         obtain ⟨x2, ex2⟩ : ∃ x, ns[2]? = some x := ⟨_, List.getElem?_eq_getElem (by omega)⟩
         have hsm : s ∈ nms ts := mem_nms (lk_mem hes0)
         have hv0 : valV kh (.inr s) = some (.int (acc.count s : Nat)) := by rw [hk s, if_pos hsm]
         have lh : l5 ≠ d := fun c2 => by
           rw [c2, eh] at el
           cases el
         obtain ⟨kv2, q2, e2, v, g1, g2, g3, g4, tv, _⟩ := yd_at (ha.mono sx) htc he
         cases tv with
         | @tup u us _ su2 tu =>
         cases tu with
         | cons k1 tu => cases tu with
         | cons k2 tu =>
         cases tu
         cases k2
         walk_at "g"
         refine q_ixK (.inr "parcels") g1 g2 ?_
         walk_at "g"
         refine q_ixK (.inr n) g3 g4 ?_
         walk_at "g"
         refine q_ixT su2 (atI_nat (j := 1) rfl) ?_
         walk_at "g"
         refine ⟨d, .int (acc.count s : Nat), rfl, by have z := dget_rd (k := .inr s) (.inl eh : Rd Hx d (.dK kh)); rw [hv0] at z; exact z, ?_⟩
         refine ⟨_, _, rfl, rfl, ?_⟩
         refine ⟨_, DPut.k (k := .inr s) eh (len_small (by omega)), ?_⟩
         have k3 : Same H (upd Hx d (.dK (putK kh (.inr s) (.int ((acc.count s : Nat) + 1))))) := fun z o e => by
           rw [upd_ne (ne_of_none e hdH)]
           exact sx _ _ e
         have el3 : (upd Hx d (.dK (putK kh (.inr s) (.int ((acc.count s : Nat) + 1))))) l5 = some (.lst ((srt (nms tc)).map V.str)) := by
           rw [upd_ne lh]
           exact el
         have ed3 : (upd Hx d (.dK (putK kh (.inr s) (.int ((acc.count s : Nat) + 1))))) d = some (.dK (putK kh (.inr s) (.int ((acc.count s : Nat) + 1)))) := upd_same
         generalize upd Hx d (.dK (putK kh (.inr s) (.int ((acc.count s : Nat) + 1)))) = H3 at k3 el3 ed3
         walk_at "g"
         refine q_ixK (.inr s) (.inl ed3) (by rw [valV_put, if_pos rfl]) ?_
         walk_at "g"
         obtain ⟨kv3, q3, e3, v3', f1, f2, f3, f4, tv3, _⟩ := yd_at (ha.mono k3) hts hes0
         cases tv3 with
         | @tup u3 us3 _ su3 tu3 =>
         have eu3 := Ts.ints tu3
         subst eu3
         refine q_ixK (.inr "spots") f1 f2 ?_
         walk_at "g"
         refine q_ixK (.inr s) f3 f4 ?_
         walk_at "g"
         refine q_ixT su3 (atI_nat (j := 2) (v := .int x2) (by rw [List.getElem?_map, ex2]; rfl)) ?_
         walk_at "g"
         have enum : num (lk ts s) 2 = x2 := by rw [hes0]; exact num_ints ex2
         refine q_dec (fun c => ?_) (fun c => ?_)
         · walk_at "g"
           refine q_mk rfl fun d' H' s6 _ hd => ?_
           have hm3 : pcP tc ts (srt (nms tc)) [] = some (.mf "parcel" n) := by
             rw [hm2]
             unfold pcP
             rw [es1, enum, if_pos (by omega)]
           rw [hm3] at hr5
           exact hr5.2 _ rfl d' H' (k3.trans s6) hd
         · walk_at "g"
           refine ⟨_, _, _, s :: acc, rfl, k3, el3, ed3, fun s' => ?_, ?_, ?_⟩
           · rw [valV_put]
             by_cases e3 : s' = s
             · subst e3
               rw [if_pos rfl, if_pos hsm, List.count_cons_self]
               rfl
             · rw [if_neg (fun z => e3 (inr_eq.mp z)), hk s', List.count_cons_of_ne (fun z => e3 z.symm)]
           · have := putK_le kh (.inr s) (.int ((acc.count s : Nat) + 1))
             omega
           · rw [hm2]
             conv => lhs; unfold pcP
             rw [es1, enum, if_neg (by omega)]
       · rintro σ Hx ⟨v2, v3, kh, acc, rfl, sx, el, eh, hk, hl4, hm2⟩
         rw [List.length_map, List.drop_length] at hm2
         have hm2 : pcP tc ts (srt (nms tc)) [] = none := hm2
         walk_at "g"
         exact hr5.1 hm2 _ sx
  case len =>
   obtain ⟨N, a, h, rfl, _⟩ := h
   rfl

theorem YG.prE {h : Hs} (y : YG h) {t : Tab} {n : Str} {e : Tr} (ht : lk h "programs" = some t) (hn : lk t n = some e) : ∃ b, e = .tup [stB b] := by
  rcases (y.okE ht hn).1 with ⟨z, _⟩ | ⟨z, _⟩ | ⟨z, _⟩ | ⟨z, _⟩ | ⟨z, _⟩ | ⟨z, _⟩ | ⟨_, b, rfl⟩
  case inr.inr.inr.inr.inr.inr => exact ⟨b, rfl⟩
  all_goals exact absurd z (by decide +kernel)
/-- message_words(yard): none -/
def spMW (K : PySem.W.Frag) : Sp := fun vs H Q _ => ∃ (N : Addr → Prop) (a : Addr) (h : Hs), vs = [.ref a] ∧ T K H N (.ref a) (.dic (hK h)) ∧ YG h ∧ ∀ p H', Same H H' → H' p = some (.lst []) → Q (.ref p) H'
-- message_words: 0 yard, 1 found, 2 program, 3 what, 4 word
theorem sc_message_words : FnScope ["yard", "found", "program", "what", "word"] ["yard"] (defScope s_message_words) := ⟨rfl, rfl, rfl, by decide +kernel, rfl, by decide +kernel, by decide +kernel⟩
theorem d_message_words (B : Bt mg) (F : TopF K mg "message_words" s_message_words ["yard"]) (D_names_in : Df P w K mg base "names_in" ["program"] 3 (spNin K)) : Df P w K mg base "message_words" ["yard"] 4 (spMW K) := by
  refine F.df sc_message_words (fun vs H Q E h => ?len) (fun f cdv A outer s H vs Q E hr h => ?body)
  case body =>
   have hu := hr.units
   refine ⟨_, (pss_cons (ps_set (i := 1) sc_message_words.nd rfl (Or.inl rfl) pe_dnewK)
      (pss_cons (ps_lockU (ps_for (passes_of rfl) rfl (k_walk (K := K) rfl (pe_ix (k_ix (K := K) rfl hu) (pv 0) pe_str (fun _ _ => rfl))) (pg_name (i := 2) sc_message_words.nd rfl (Or.inl rfl))
      (pss_one (ps_lockU (ps_for (passes_of rfl) rfl (k_walk (K := K) rfl (pe_df D_names_in (hr.mono (by decide)) (fun σ => passAt (takes_of rfl rfl rfl rfl) σ) (pa_cons (pe_ix (k_ix (K := K) rfl hu) (pe_ix (k_ix (K := K) rfl hu) (pv 0) pe_str (fun _ _ => rfl)) (pv 2) (fun _ _ => rfl)) pa_nil))) (k_tup (K := K) (n := 2) rfl (by rfl) (pgs_cons (pg_name (i := 3) sc_message_words.nd rfl (Or.inl rfl)) (pgs_cons (pg_name (i := 4) sc_message_words.nd rfl (Or.inl rfl)) pgs_nil)))
      (pss_one (ps_if (pt_cmpR (k_eq (K := K) rfl hu) (pv 3) pe_str (nomark _))
      (pss_one (ps_asg pe_bl (pg_sub (pv 1) (pv 4) (set_any hu))))
      pss_nil)))))))
      (pss_one (ps_ret (pe_callB (k_sort (K := K) rfl rfl) (by rfl) B.b_sorted (by decide +kernel) (pa_cons (pv 1) pa_nil)))))), ?_⟩
   obtain ⟨N, a, h, rfl, ha, y, hq⟩ := h
   obtain ⟨tp, htp⟩ := y.tab (k := "programs") (by simp)
   obtain ⟨a', kvs, ea, _, hra, tka⟩ := ha.dicAt
   cases ea
   obtain ⟨q, es, z1, _, z2, z3⟩ := T.tab tka htp
   walk_at "g"
   intro m hm
   have s0 : Same H (upd H m (.dK [])) := same_new hm
   have em : (upd H m (.dK [])) m = some (.dK []) := upd_same
   generalize upd H m (.dK []) = H1 at s0 em
   walk_at "g"
   refine q_lockS (Sm.rd s0 z2) fun Hl od un D' lkd hD' => ?_
   walk_at "g"
   refine q_keys ?_
   walk_at "g"
   refine q_ixK (.inr "programs") (lkd.rs.dk (Sm.rd s0 hra)) z1 ?_
   refine q_keysE lkd.at_ ?_
   have mq : m ≠ q := fun c => by
     have z := Sm.rd s0 z2
     rw [c] at em
     rcases z2 with z2 | ⟨o, z2⟩
     · rw [← c, hm] at z2
       cases z2
     · rw [← c, hm] at z2
       cases z2
   have eml : Hl m = some (.dK []) := by rw [lkd.el m mq]; exact em
   refine for_keysS (kvs := es) (fun i σ Hx => ∃ v2 v3 v4 : Option V, σ = [some (.ref a), some (.ref m), v2, v3, v4] ∧ Same Hl Hx) ⟨_, _, _, rfl, Same.refl'⟩ ?_ ?_ ?_
   · rintro i σ Hx _ ⟨v2, v3, v4, rfl, sx⟩
     exact sx _ _ lkd.at_
   · rintro i k v σ Hx hkv ⟨v2, v3, v4, rfl, sx⟩
     obtain ⟨d0, g1, g2⟩ := Tk.at z3 hkv
     obtain ⟨p, hp, ep⟩ := map_at g1
     cases ep
     have hlk : lk tp p.1 = some p.2 := lk_of_mem (y.wf.tab _ (lk_mem htp)).1 (mem_at hp)
     obtain ⟨b, eb⟩ := y.prE htp hlk
     have rs := (RS.of s0).trans (lkd.rs.trans (RS.of sx))
     obtain ⟨v', hv', tv'⟩ := Tk.ent z3 hlk
     rw [eb] at tv'
     walk_at "g"
     refine .inl ?_
     walk_at "g"
     refine q_items ?_
     walk_at "g"
     refine q_ixK (.inr "programs") (rs.dk hra) z1 ?_
     walk_at "g"
     refine q_ixK (.inr p.1) (rs.dk z2) hv' ?_
     walk_at "g"
     refine ⟨v', b, rfl, PrV.of (tv'.rs rs), fun l xs H2 s2 el tx => ?_⟩
     refine q_itemsE (xs := xs) (.inl (.inl el)) ?_
     refine for_any (walk_list (K := K) (a := l) (xs := xs)) (fun i σ Hy => ∃ v3 v4 : Option V, σ = [some (.ref a), some (.ref m), some (.str p.1), v3, v4] ∧ Same H2 Hy) ⟨_, _, rfl, Same.refl'⟩ ?_ ?_ ?_
     · rintro i σ Hy _ ⟨v3, v4, rfl, sy⟩
       exact .inl (.inl (sy _ _ el))
     · rintro j x σ Hy Hz hj ⟨v3, v4, rfl, sy⟩ ⟨rfl, hx⟩
       obtain ⟨d1, g3, t1⟩ := tx.gets hx
       cases b with
       | false => cases j <;> cases (show none = some d1 from g3)
       | true =>
         obtain rfl : j = 0 := by
           have := tx.length
           have e2 : (nmsB true).length = 1 := rfl
           omega
         cases (show some (Tr.tup [.str "spot", .str "c"]) = some d1 from g3)
         have t1 := t1.mono sy
         cases t1 with
         | @tup u us _ su tu =>
         cases tu with
         | cons k1 tu => cases tu with
         | cons k2 tu =>
         cases tu
         cases k1
         cases k2
         refine q_gtup su rfl ?_
         walk_at "g"
         rw [decide_eq_false (p := ("spot" : Str) = "word") (by decide +kernel)]
         walk_at "g"
         exact ⟨_, _, rfl, sy⟩
     · rintro σ Hy ⟨v3, v4, rfl, sy⟩
       exact ⟨_, _, _, rfl, sx.trans (s2.trans sy)⟩
   · rintro σ Hx ⟨v2, v3, v4, rfl, sx⟩
     refine hD'.nx _ _ (sx _ _ lkd.at_) ?_
     have su := s0.trans (lkd.same sx)
     have emu : un Hx m = some (.dK []) := by rw [lkd.un _ _ mq]; exact sx _ _ eml
     generalize un Hx = Hu at su emu
     walk_at "g"
     refine q_sortD (ks := []) (.inl emu) rfl (by decide) fun l hl => ?_
     exact hq l _ (su.trans (same_new hl)) upd_same
  case len =>
   obtain ⟨N, a, h, rfl, _⟩ := h
   rfl
/-! ### the whole check -/
def ckN (h : Hs) (key : Str) (t : Tab) : List Str → Option Er
  | [] => none
  | n :: r => sq (match lk t n with | some e => ckE h key n e | none => none) (ckN h key t r)
def ckT (h : Hs) : List Str → Option Er
  | [] => none
  | key :: r => sq (ckN h key (tb h key) (srt (nms (tb h key)))) (ckT h r)
def chk (h : Hs) : Option Er := sq (ckT h tabsL) (plE h)
theorem sq_eq {a b : Option Er} (h : sq a b = none) : a = none ∧ b = none := by
  cases a with
  | none => exact ⟨rfl, h⟩
  | some e => cases h
theorem ckN_at {h : Hs} {key : Str} {t : Tab} : ∀ {ns : List Str}, ckN h key t ns = none → ∀ n ∈ ns, ∀ e, lk t n = some e → ckE h key n e = none
  | m :: r, z, n, mn, e, he => by
    obtain ⟨z1, z2⟩ := sq_eq z
    rcases List.mem_cons.mp mn with q | q
    · subst q
      rw [he] at z1
      exact z1
    · exact ckN_at z2 n q e he
theorem ckT_at {h : Hs} : ∀ {ks : List Str}, ckT h ks = none → ∀ key ∈ ks, ckN h key (tb h key) (srt (nms (tb h key))) = none
  | k :: r, z, key, m => by
    obtain ⟨z1, z2⟩ := sq_eq z
    rcases List.mem_cons.mp m with q | q
    · subst q
      exact z1
    · exact ckT_at z2 key q
theorem ck_parcels {h : Hs} (z : ckT h tabsL = none) : ∀ n s, lk (tb h "parcels") n = some (.tup [.int 1, .str s]) → ndE h "spot" "spots" s = none := fun n s e => by
  have z1 := ckN_at (ckT_at z "parcels" (by simp)) n ((srt_perm _).mem_iff.mpr (mem_nms (lk_mem e))) _ e
  unfold ckE at z1
  have z2 := (sq_eq z1).2
  rw [ckB_pc] at z2
  exact z2
/-- check_yard(yard) -/
def spCY (c : ErC) (K : PySem.W.Frag) : Sp := fun vs H Q E => ∃ (N : Addr → Prop) (a : Addr) (h : Hs), vs = [.ref a] ∧ T K H N (.ref a) (.dic (hK h)) ∧ YG h ∧ Res c (chk h) H Q E
def mostL : List (Str × Int) := [("spots", 24), ("doors", 6), ("lifts", 3), ("lanes", 60), ("kinds", 6), ("machines", 6), ("parcels", 8), ("programs", 8)]
theorem most_at {key : Str} (m : key ∈ tabsL) : ∃ i, lk gt_MOST key = some (.int i) ∧ (4 ≤ i ∨ (0 ≤ i ∧ key = "lifts")) := by
  simp only [tabsL, List.mem_cons, List.not_mem_nil, or_false] at m
  rcases m with rfl | rfl | rfl | rfl | rfl | rfl | rfl | rfl
  · exact ⟨24, by kernel_rfl, .inl (by decide)⟩
  · exact ⟨6, by kernel_rfl, .inl (by decide)⟩
  · exact ⟨3, by kernel_rfl, .inr ⟨by decide, rfl⟩⟩
  · exact ⟨60, by kernel_rfl, .inl (by decide)⟩
  · exact ⟨6, by kernel_rfl, .inl (by decide)⟩
  · exact ⟨6, by kernel_rfl, .inl (by decide)⟩
  · exact ⟨8, by kernel_rfl, .inl (by decide)⟩
  · exact ⟨8, by kernel_rfl, .inl (by decide)⟩
theorem Ts.strs_eq {K : PySem.W.Frag} {H : Hp} {P : Addr → Prop} : ∀ {xs : List V} {ns : List Str}, Ts K H P xs (ns.map Tr.str) → xs = ns.map V.str
  | _, [], h => by
    cases h
    rfl
  | _, n :: ns, h => by
    cases h with
    | cons a r =>
      cases a
      rw [Ts.strs_eq r]
      rfl
theorem tabs_seq {K : PySem.W.Frag} {A : Addr} (wt : ∀ H P, T K H P (.ref A) gt_TABLES) (H : Hp) : SqT K H A (tabsL.map V.str) := by
  have z := wt H ff
  cases z with
  | @tup _ xs _ s t =>
    have e : xs = tabsL.map V.str := Ts.strs_eq (ns := tabsL) t
    rw [← e]
    exact s
-- check_yard: 0 yard, 1 key, 2 name
theorem sc_check_yard : FnScope ["yard", "key", "name"] ["yard"] (defScope s_check_yard) := ⟨rfl, rfl, rfl, by decide +kernel, rfl, by decide +kernel, by decide +kernel⟩
theorem d_check_yard (B : Bt mg) (F : TopF K mg "check_yard" s_check_yard ["yard"]) (G_MOST_WORDS : ∃ t, mg "MOST_WORDS" = some (.int 8 t)) {A_TABLES : Addr} (G_TABLES : mg "TABLES" = some (.ref A_TABLES)) (W_TABLES : ∀ H P, T K H P (.ref A_TABLES) gt_TABLES) {A_MOST : Addr} (G_MOST : mg "MOST" = some (.ref A_MOST)) (W_MOST : GD K w A_MOST gt_MOST) (X_TooMany : Xc P w K mg base "TooMany" ["what", "limit"] C_TooMany) (D_message_words : Df P w K mg base "message_words" ["yard"] 4 (spMW K)) (D_check_places : Df P w K mg base "check_places" ["yard"] 3 (spCPl ⟨C_Unknown, C_Misfit, C_TooMany, C_BadName⟩ K)) (D_check_entry : Df P w K mg base "check_entry" ["yard", "key", "name"] 8 (spCEn ⟨C_Unknown, C_Misfit, C_TooMany, C_BadName⟩ K)) : Df P w K mg base "check_yard" ["yard"] 9 (spCY ⟨C_Unknown, C_Misfit, C_TooMany, C_BadName⟩ K) := by
  refine F.df sc_check_yard (fun vs H Q E h => ?len) (fun f cdv A outer s H vs Q E hr h => ?body)
  case body =>
   have hu := hr.units
   refine ⟨_, (pss_cons (ps_lockU (ps_for (passes_of rfl) rfl (k_walk (K := K) rfl (pe_glob (v := .ref A_TABLES) (by rfl) G_TABLES rfl)) (pg_name (i := 1) sc_check_yard.nd rfl (Or.inl rfl))
      (pss_one (ps_if (pt_cmpR op_gt (pe_callB (k_len (K := K) rfl) (by rfl) B.b_len (by decide +kernel) (pa_cons (pe_ix (k_ixW (K := K) (w := w) rfl rfl hu) (pv 0) (pv 1) (fun _ _ => rfl)) pa_nil)) (pe_ix (k_ixW (K := K) (w := w) rfl rfl hu) (pe_glob (v := .ref A_MOST) (by rfl) G_MOST rfl) (pv 1) (fun _ _ => rfl)) (nomark _))
      (pss_one (ps_rz rfl X_TooMany (hr.mono (by decide)) (takes_of rfl rfl rfl rfl) (pa_cons (pv 1) (pa_cons (pe_ix (k_ixW (K := K) (w := w) rfl rfl hu) (pe_glob (v := .ref A_MOST) (by rfl) G_MOST rfl) (pv 1) (fun _ _ => rfl)) pa_nil))))
      pss_nil))))
      (pss_cons (ps_lockU (ps_for (passes_of rfl) rfl (k_walk (K := K) rfl (pe_glob (v := .ref A_TABLES) (by rfl) G_TABLES rfl)) (pg_name (i := 1) sc_check_yard.nd rfl (Or.inl rfl))
      (pss_one (ps_for (passes_of rfl) rfl (k_walk (K := K) rfl (pe_callB (k_sort (K := K) rfl rfl) (by rfl) B.b_sorted (by decide +kernel) (pa_cons (pe_ix (k_ixW (K := K) (w := w) rfl rfl hu) (pv 0) (pv 1) (fun _ _ => rfl)) pa_nil))) (pg_name (i := 2) sc_check_yard.nd rfl (Or.inl rfl))
      (pss_one (ps_expr (pe_df D_check_entry (hr.mono (by decide)) (fun σ => passAt (takes_of rfl rfl rfl rfl) σ) (pa_cons (pv 0) (pa_cons (pv 1) (pa_cons (pv 2) pa_nil))))))))))
      (pss_cons (ps_expr (pe_df D_check_places (hr.mono (by decide)) (fun σ => passAt (takes_of rfl rfl rfl rfl) σ) (pa_cons (pv 0) pa_nil)))
      (pss_one (ps_if (pt_cmpR op_gt (pe_callB (k_len (K := K) rfl) (by rfl) B.b_len (by decide +kernel) (pa_cons (pe_df D_message_words (hr.mono (by decide)) (fun σ => passAt (takes_of rfl rfl rfl rfl) σ) (pa_cons (pv 0) pa_nil)) pa_nil)) (pe_glob (v := .int 8) (by rfl) G_MOST_WORDS.choose_spec ⟨_, rfl⟩) (nomark _))
      (pss_one (ps_rz rfl X_TooMany (hr.mono (by decide)) (takes_of rfl rfl rfl rfl) (pa_cons pe_str (pa_cons (pe_glob (v := .int 8) (by rfl) G_MOST_WORDS.choose_spec ⟨_, rfl⟩) pa_nil))))
      pss_nil))))), ?_⟩
   obtain ⟨N, a, h, rfl, ha, y, hr⟩ := h
   obtain ⟨a', kvs, ea, _, hra, tka⟩ := ha.dicAt
   cases ea
   have tq := tabs_seq W_TABLES
   walk_at "g"
   refine .inl ?_
   walk_at "g"
   refine q_tups ?_
   walk_at "g"
   refine q_tupsE (xs := tabsL.map V.str) (tq _) ?_
   have tlen : (tabsL.map V.str).length = 8 := rfl
   refine for_any (walk_tup (K := K) (a := A_TABLES) (xs := tabsL.map V.str)) (fun i σ Hx => ∃ v1 v2 : Option V, σ = [some (.ref a), v1, v2] ∧ Same H Hx) ⟨_, _, rfl, Same.refl'⟩ (fun _ _ _ _ _ => tq _) ?_ ?_
   · rintro i x σ Hx Hy hi ⟨v1, v2, rfl, sx⟩ ⟨rfl, hx⟩
     obtain ⟨key, hk, rfl⟩ := map_at hx
     have mk := mem_at hk
     obtain ⟨t, ht⟩ := y.tab mk
     obtain ⟨q, es, z1, _, z2, z3⟩ := T.tab tka ht
     obtain ⟨mi, hmi, hle⟩ := most_at mk
     have el : es.length = t.length := by rw [z3.length]; unfold tK; rw [List.length_map]
     have tl := y.tlen ht
     walk_at "g"
     refine .inl (q_ixK (.inr key) (Sm.rd sx hra) z1 ?_)
     walk_at "g"
     refine q_lenK (Sm.rd sx z2) ?_
     walk_at "g"
     refine q_ixG W_MOST hmi fun x tx => ?_
     cases (tx H ff)
     walk_at "g"
     rw [decide_eq_false (p := mi < (es.length : Int)) (by
       rcases hle with c | ⟨c, rfl⟩
       · omega
       · rw [y.lf] at ht
         cases ht
         rw [el]
         show ¬ mi < 0
         omega)]
     walk_at "g"
     exact ⟨_, _, rfl, sx⟩
   · rintro σ Hx ⟨v1, v2, rfl, sx⟩
     walk_at "g"
     refine .inl ?_
     walk_at "g"
     refine q_tups ?_
     walk_at "g"
     refine q_tupsE (xs := tabsL.map V.str) (tq _) ?_
     refine for_any (walk_tup (K := K) (a := A_TABLES) (xs := tabsL.map V.str)) (fun i σ Hx => ∃ v1 v2 : Option V, σ = [some (.ref a), v1, v2] ∧ Same H Hx ∧ ckT h tabsL = ckT h (tabsL.drop i)) ⟨_, _, rfl, sx, rfl⟩ (fun _ _ _ _ _ => tq _) ?_ ?_
     · rintro i x σ Hx Hy hi ⟨v1, v2, rfl, sx, hc⟩ ⟨rfl, hx⟩
       obtain ⟨key, hk, rfl⟩ := map_at hx
       have mk := mem_at hk
       obtain ⟨t, ht⟩ := y.tab mk
       obtain ⟨q, es, z1, _, z2, z3⟩ := T.tab tka ht
       have tl := y.tlen ht
       rw [drop_at hk] at hc
       have hc1 : ckT h tabsL = sq (ckN h key t (srt (nms t))) (ckT h (tabsL.drop (i + 1))) := by
         rw [hc]
         show sq (ckN h key (tb h key) (srt (nms (tb h key)))) _ = _
         rw [tb_of ht]
       walk_at "g"
       refine q_items ?_
       walk_at "g"
       refine .inl (q_ixK (.inr key) (Sm.rd sx hra) z1 ?_)
       walk_at "g"
       refine q_sortD (ks := nms t) (Sm.rd sx z2) (z3.keys.trans (keys_tK t)) (by rw [nms_len]; omega) fun l hl => ?_
       have s2 := sx.trans (same_new (o := .lst ((srt (nms t)).map V.str)) hl)
       refine q_itemsE (xs := (srt (nms t)).map V.str) (.inl (.inl upd_same)) ?_
       refine for_items (xs := (srt (nms t)).map V.str) (fun j σ Hz => ∃ v2 : Option V, σ = [some (.ref a), some (.str key), v2] ∧ Same H Hz ∧ Hz l = some (.lst ((srt (nms t)).map V.str)) ∧ ckN h key t (srt (nms t)) = ckN h key t ((srt (nms t)).drop j)) ⟨_, rfl, s2, upd_same, rfl⟩ ?_ ?_ ?_
       · rintro j σ Hz _ ⟨v2, rfl, sz, el, _⟩
         exact .inl (.inl el)
       · rintro j x σ Hz hx ⟨v2, rfl, sz, el, hn⟩
         obtain ⟨n, hnn, rfl⟩ := map_at hx
         obtain ⟨e, he⟩ := srt_lk hnn
         rw [drop_at hnn] at hn
         have hn1 : ckN h key t (srt (nms t)) = sq (ckE h key n e) (ckN h key t ((srt (nms t)).drop (j + 1))) := by
           rw [hn]
           show sq (match lk t n with | some e => ckE h key n e | none => none) _ = _
           rw [he]
         walk_at "g"
         refine ⟨N, a, h, key, n, e, t, rfl, ha.mono sz, y, ht, he, ?_⟩
         cases ec : ckE h key n e with
         | none =>
           refine ⟨fun _ H4 s4 => ?_, fun e z => nomatch z⟩
           rw [ec] at hn1
           exact ⟨_, rfl, sz.trans s4, s4 _ _ el, hn1⟩
         | some e0 =>
           refine ⟨(fun z => nomatch z), fun e1 z => ?_⟩
           cases z
           have hall : chk h = some e0 := by
             unfold chk
             rw [hc1, hn1, ec]
             rfl
           exact (hr.2 e0 hall).mono sz
       · rintro σ Hz ⟨v2, rfl, sz, el, hn⟩
         rw [List.length_map, List.drop_length] at hn
         have hn : ckN h key t (srt (nms t)) = none := hn
         refine ⟨_, _, rfl, sz, ?_⟩
         rw [hc1, hn]
         rfl
     · rintro σ Hx ⟨v1, v2, rfl, sx, hc⟩
       have hc : ckT h tabsL = none := hc
       have hpl : chk h = plE h := by
         unfold chk
         rw [hc]
         rfl
       rw [hpl] at hr
       walk_at "g"
       refine ⟨N, a, h, rfl, ha.mono sx, y, ck_parcels hc, Res.lastq (hr.mono sx) fun H3 s3 hr3 => ?_⟩
       have s03 := sx.trans s3
       walk_at "g"
       refine ⟨N, a, h, rfl, ha.mono s03, y, fun p H4 s4 ep => ?_⟩
       walk_at "g"
       refine q_lenL (.inl (.inl ep)) ?_
       walk_at "g"
       rw [decide_eq_false (p := (8 : Int) < (([] : List V).length : Int)) (by decide)]
       walk_at "g"
       exact (hr3.mono s4).done
  case len =>
   obtain ⟨N, a, h, rfl, _⟩ := h
   rfl

/-- error_words(yard), the law's own words: what the check says -/
def wdT (r : Option Er) : Tr := match r with
  | none => .non
  | some e => e.tr
def spEW (K : PySem.W.Frag) : Sp := fun vs H Q _ => ∃ (N : Addr → Prop) (a : Addr) (h : Hs), vs = [.ref a] ∧ T K H N (.ref a) (.dic (hK h)) ∧ YG h ∧ ∀ v H', Same H H' → T K H' ff v (wdT (chk h)) → Q v H'
theorem sc_error_words : FnScope ["yard", "error"] ["yard"] (defScope s_error_words) := ⟨rfl, rfl, rfl, by decide +kernel, rfl, by decide +kernel, by decide +kernel⟩
theorem d_error_words (B : Bt mg) (F : TopF K mg "error_words" s_error_words ["yard"]) (X_TooMany : Xc P w K mg base "TooMany" ["what", "limit"] C_TooMany) (X_BadName : Xc P w K mg base "BadName" ["name"] C_BadName) (X_Misfit : Xc P w K mg base "Misfit" ["what", "name"] C_Misfit) (X_Unknown : Xc P w K mg base "Unknown" ["what", "name"] C_Unknown) (Z_BadName_TooMany : PySem.W.exmOne K (.ref C_BadName) (.ref C_TooMany) = some false) (Z_Misfit_TooMany : PySem.W.exmOne K (.ref C_Misfit) (.ref C_TooMany) = some false) (Z_Misfit_BadName : PySem.W.exmOne K (.ref C_Misfit) (.ref C_BadName) = some false) (Z_Unknown_TooMany : PySem.W.exmOne K (.ref C_Unknown) (.ref C_TooMany) = some false) (Z_Unknown_BadName : PySem.W.exmOne K (.ref C_Unknown) (.ref C_BadName) = some false) (Z_Unknown_Misfit : PySem.W.exmOne K (.ref C_Unknown) (.ref C_Misfit) = some false) (D_check_yard : Df P w K mg base "check_yard" ["yard"] 9 (spCY ⟨C_Unknown, C_Misfit, C_TooMany, C_BadName⟩ K)) : Df P w K mg base "error_words" ["yard"] 10 (spEW K) := by
  refine F.df sc_error_words (fun vs H Q E h => ?len) (fun f cdv A outer s H vs Q E hr h => ?body)
  case body =>
   have hu := hr.units
   refine ⟨_, (pss_cons (ps_try_manyA rfl rfl sc_error_words.nd (takes_of rfl rfl rfl rfl) (fun W pn xe tk po => (pss_one (ps_expr (pe_df D_check_yard (hr.mono (by decide)) (fun σ => passAt tk σ) (pa_cons (pv 0) pa_nil)))))
      (HdsA.cons (i := 1) rfl rfl ⟨rfl, by decide, .inl X_TooMany.g⟩ (fun a oe cls d pn hz hf => (pss_one (ps_ret (pe_tup (pa_cons pe_str (pa_cons (pe_xf X_TooMany.xf (X_TooMany.no _ (by decide)) hz hf (pv 1)) (pa_cons (pe_xf X_TooMany.xf (X_TooMany.no _ (by decide)) hz hf (pv 1)) pa_nil)))))))
      (HdsA.cons (i := 1) rfl rfl ⟨rfl, by decide, .inl X_BadName.g⟩ (fun a oe cls d pn hz hf => (pss_one (ps_ret (pe_tup (pa_cons pe_str (pa_cons (pe_xf X_BadName.xf (X_BadName.no _ (by decide)) hz hf (pv 1)) pa_nil))))))
      (HdsA.cons (i := 1) rfl rfl ⟨rfl, by decide, .inl X_Misfit.g⟩ (fun a oe cls d pn hz hf => (pss_one (ps_ret (pe_tup (pa_cons pe_str (pa_cons (pe_xf X_Misfit.xf (X_Misfit.no _ (by decide)) hz hf (pv 1)) (pa_cons (pe_xf X_Misfit.xf (X_Misfit.no _ (by decide)) hz hf (pv 1)) pa_nil)))))))
      (HdsA.cons (i := 1) rfl rfl ⟨rfl, by decide, .inl X_Unknown.g⟩ (fun a oe cls d pn hz hf => (pss_one (ps_ret (pe_tup (pa_cons pe_str (pa_cons (pe_xf X_Unknown.xf (X_Unknown.no _ (by decide)) hz hf (pv 1)) (pa_cons (pe_xf X_Unknown.xf (X_Unknown.no _ (by decide)) hz hf (pv 1)) pa_nil)))))))
      HdsA.nil)))))
      (pss_one (ps_ret pe_non))), ?_⟩
   obtain ⟨N, a, h, rfl, ha, y, hq⟩ := h
   walk_at "g"
   refine ⟨N, a, h, rfl, ha, y, fun e H1 s1 => ?_, fun e he => ?_⟩
   · walk_at "g"
     have z := hq .non H1 s1
     rw [e] at z
     exact z .non
   have fin : ∀ {Hx : Hp} {q : Addr} {o : HO}, Same H Hx → Hx q = none → T K (upd Hx q o) ff (.ref q) e.tr → Q (.ref q) (upd Hx q o) := fun {Hx q o} s hn t => by
     have z := hq (.ref q) (upd Hx q o) (s.trans (same_new hn))
     rw [he] at z
     exact z t
   cases e with
   | tm w n =>
     intro d H1 s1 ed
     refine ⟨true, X_TooMany.te, fun _ b hb => ?_, fun z => nomatch z⟩
     walk_at "g"
     refine ⟨_, rfl, rfl, rfl, d, _, .str w, rfl, ed, rfl, ?_⟩
     walk_at "g"
     refine ⟨_, rfl, rfl, rfl, d, _, .int n, rfl, ed, rfl, ?_⟩
     walk_at "g"
     intro q hq1
     exact fin s1 hq1 (.tup st_new (.cons (.str _) (.cons (.str _) (.cons (.int _) .nil))))
   | bn n =>
     intro d H1 s1 ed
     refine ⟨false, Z_BadName_TooMany, (fun z => nomatch z), fun _ => ⟨true, X_BadName.te, fun _ b hb => ?_, fun z => nomatch z⟩⟩
     walk_at "g"
     refine ⟨_, rfl, rfl, rfl, d, _, .str n, rfl, ed, rfl, ?_⟩
     walk_at "g"
     intro q hq1
     exact fin s1 hq1 (.tup st_new (.cons (.str _) (.cons (.str _) .nil)))
   | mf w n =>
     intro d H1 s1 ed
     refine ⟨false, Z_Misfit_TooMany, (fun z => nomatch z), fun _ => ⟨false, Z_Misfit_BadName, (fun z => nomatch z), fun _ => ⟨true, X_Misfit.te, fun _ b hb => ?_, fun z => nomatch z⟩⟩⟩
     walk_at "g"
     refine ⟨_, rfl, rfl, rfl, d, _, .str w, rfl, ed, rfl, ?_⟩
     walk_at "g"
     refine ⟨_, rfl, rfl, rfl, d, _, .str n, rfl, ed, rfl, ?_⟩
     walk_at "g"
     intro q hq1
     exact fin s1 hq1 (.tup st_new (.cons (.str _) (.cons (.str _) (.cons (.str _) .nil))))
   | un w n =>
     intro d H1 s1 ed
     refine ⟨false, Z_Unknown_TooMany, (fun z => nomatch z), fun _ => ⟨false, Z_Unknown_BadName, (fun z => nomatch z), fun _ => ⟨false, Z_Unknown_Misfit, (fun z => nomatch z), fun _ => ⟨true, X_Unknown.te, fun _ b hb => ?_, fun z => nomatch z⟩⟩⟩⟩
     walk_at "g"
     refine ⟨_, rfl, rfl, rfl, d, _, .str w, rfl, ed, rfl, ?_⟩
     walk_at "g"
     refine ⟨_, rfl, rfl, rfl, d, _, .str n, rfl, ed, rfl, ?_⟩
     walk_at "g"
     intro q hq1
     exact fin s1 hq1 (.tup st_new (.cons (.str _) (.cons (.str _) (.cons (.str _) .nil))))
  case len =>
   obtain ⟨N, a, h, rfl, _⟩ := h
   rfl
theorem sc_law_words : FnScope ["yard", "error"] ["yard"] (defScope s_law_words) := ⟨rfl, rfl, rfl, by decide +kernel, rfl, by decide +kernel, by decide +kernel⟩
theorem d_law_words (B : Bt mg) (F : TopF K mg "_law_words" s_law_words ["yard"]) (X_TooMany : Xc P w K mg base "TooMany" ["what", "limit"] C_TooMany) (X_BadName : Xc P w K mg base "BadName" ["name"] C_BadName) (X_Misfit : Xc P w K mg base "Misfit" ["what", "name"] C_Misfit) (X_Unknown : Xc P w K mg base "Unknown" ["what", "name"] C_Unknown) (Z_BadName_TooMany : PySem.W.exmOne K (.ref C_BadName) (.ref C_TooMany) = some false) (Z_Misfit_TooMany : PySem.W.exmOne K (.ref C_Misfit) (.ref C_TooMany) = some false) (Z_Misfit_BadName : PySem.W.exmOne K (.ref C_Misfit) (.ref C_BadName) = some false) (Z_Unknown_TooMany : PySem.W.exmOne K (.ref C_Unknown) (.ref C_TooMany) = some false) (Z_Unknown_BadName : PySem.W.exmOne K (.ref C_Unknown) (.ref C_BadName) = some false) (Z_Unknown_Misfit : PySem.W.exmOne K (.ref C_Unknown) (.ref C_Misfit) = some false) (D_check_yard : Df P w K mg base "check_yard" ["yard"] 9 (spCY ⟨C_Unknown, C_Misfit, C_TooMany, C_BadName⟩ K)) : Df P w K mg base "_law_words" ["yard"] 10 (spEW K) := by
  refine F.df sc_law_words (fun vs H Q E h => ?len) (fun f cdv A outer s H vs Q E hr h => ?body)
  case body =>
   have hu := hr.units
   refine ⟨_, (pss_cons (ps_try_manyA rfl rfl sc_law_words.nd (takes_of rfl rfl rfl rfl) (fun W pn xe tk po => (pss_one (ps_expr (pe_df D_check_yard (hr.mono (by decide)) (fun σ => passAt tk σ) (pa_cons (pv 0) pa_nil)))))
      (HdsA.cons (i := 1) rfl rfl ⟨rfl, by decide, .inl X_TooMany.g⟩ (fun a oe cls d pn hz hf => (pss_one (ps_ret (pe_tup (pa_cons pe_str (pa_cons (pe_xf X_TooMany.xf (X_TooMany.no _ (by decide)) hz hf (pv 1)) (pa_cons (pe_xf X_TooMany.xf (X_TooMany.no _ (by decide)) hz hf (pv 1)) pa_nil)))))))
      (HdsA.cons (i := 1) rfl rfl ⟨rfl, by decide, .inl X_BadName.g⟩ (fun a oe cls d pn hz hf => (pss_one (ps_ret (pe_tup (pa_cons pe_str (pa_cons (pe_xf X_BadName.xf (X_BadName.no _ (by decide)) hz hf (pv 1)) pa_nil))))))
      (HdsA.cons (i := 1) rfl rfl ⟨rfl, by decide, .inl X_Misfit.g⟩ (fun a oe cls d pn hz hf => (pss_one (ps_ret (pe_tup (pa_cons pe_str (pa_cons (pe_xf X_Misfit.xf (X_Misfit.no _ (by decide)) hz hf (pv 1)) (pa_cons (pe_xf X_Misfit.xf (X_Misfit.no _ (by decide)) hz hf (pv 1)) pa_nil)))))))
      (HdsA.cons (i := 1) rfl rfl ⟨rfl, by decide, .inl X_Unknown.g⟩ (fun a oe cls d pn hz hf => (pss_one (ps_ret (pe_tup (pa_cons pe_str (pa_cons (pe_xf X_Unknown.xf (X_Unknown.no _ (by decide)) hz hf (pv 1)) (pa_cons (pe_xf X_Unknown.xf (X_Unknown.no _ (by decide)) hz hf (pv 1)) pa_nil)))))))
      HdsA.nil)))))
      (pss_one (ps_ret pe_non))), ?_⟩
   obtain ⟨N, a, h, rfl, ha, y, hq⟩ := h
   walk_at "g"
   refine ⟨N, a, h, rfl, ha, y, fun e H1 s1 => ?_, fun e he => ?_⟩
   · walk_at "g"
     have z := hq .non H1 s1
     rw [e] at z
     exact z .non
   have fin : ∀ {Hx : Hp} {q : Addr} {o : HO}, Same H Hx → Hx q = none → T K (upd Hx q o) ff (.ref q) e.tr → Q (.ref q) (upd Hx q o) := fun {Hx q o} s hn t => by
     have z := hq (.ref q) (upd Hx q o) (s.trans (same_new hn))
     rw [he] at z
     exact z t
   cases e with
   | tm w n =>
     intro d H1 s1 ed
     refine ⟨true, X_TooMany.te, fun _ b hb => ?_, fun z => nomatch z⟩
     walk_at "g"
     refine ⟨_, rfl, rfl, rfl, d, _, .str w, rfl, ed, rfl, ?_⟩
     walk_at "g"
     refine ⟨_, rfl, rfl, rfl, d, _, .int n, rfl, ed, rfl, ?_⟩
     walk_at "g"
     intro q hq1
     exact fin s1 hq1 (.tup st_new (.cons (.str _) (.cons (.str _) (.cons (.int _) .nil))))
   | bn n =>
     intro d H1 s1 ed
     refine ⟨false, Z_BadName_TooMany, (fun z => nomatch z), fun _ => ⟨true, X_BadName.te, fun _ b hb => ?_, fun z => nomatch z⟩⟩
     walk_at "g"
     refine ⟨_, rfl, rfl, rfl, d, _, .str n, rfl, ed, rfl, ?_⟩
     walk_at "g"
     intro q hq1
     exact fin s1 hq1 (.tup st_new (.cons (.str _) (.cons (.str _) .nil)))
   | mf w n =>
     intro d H1 s1 ed
     refine ⟨false, Z_Misfit_TooMany, (fun z => nomatch z), fun _ => ⟨false, Z_Misfit_BadName, (fun z => nomatch z), fun _ => ⟨true, X_Misfit.te, fun _ b hb => ?_, fun z => nomatch z⟩⟩⟩
     walk_at "g"
     refine ⟨_, rfl, rfl, rfl, d, _, .str w, rfl, ed, rfl, ?_⟩
     walk_at "g"
     refine ⟨_, rfl, rfl, rfl, d, _, .str n, rfl, ed, rfl, ?_⟩
     walk_at "g"
     intro q hq1
     exact fin s1 hq1 (.tup st_new (.cons (.str _) (.cons (.str _) (.cons (.str _) .nil))))
   | un w n =>
     intro d H1 s1 ed
     refine ⟨false, Z_Unknown_TooMany, (fun z => nomatch z), fun _ => ⟨false, Z_Unknown_BadName, (fun z => nomatch z), fun _ => ⟨false, Z_Unknown_Misfit, (fun z => nomatch z), fun _ => ⟨true, X_Unknown.te, fun _ b hb => ?_, fun z => nomatch z⟩⟩⟩⟩
     walk_at "g"
     refine ⟨_, rfl, rfl, rfl, d, _, .str w, rfl, ed, rfl, ?_⟩
     walk_at "g"
     refine ⟨_, rfl, rfl, rfl, d, _, .str n, rfl, ed, rfl, ?_⟩
     walk_at "g"
     intro q hq1
     exact fin s1 hq1 (.tup st_new (.cons (.str _) (.cons (.str _) (.cons (.str _) .nil))))
  case len =>
   obtain ⟨N, a, h, rfl, _⟩ := h
   rfl

/-- _law_entry_at(house, key, name) -/
def spEA (K : PySem.W.Frag) : Sp := fun vs H Q _ => ∃ (N : Addr → Prop) (a : Addr) (k n : Str) (h : Hs) (t : Tab), vs = [.ref a, .str k, .str n] ∧ T K H N (.ref a) (.dic (hK h)) ∧ Wf h ∧ lk h k = some t ∧
  ∀ p xs H', Same H H' → H p = none → H' p = some (.lst xs) → Ts K H' ff xs (ent h k n).toList → Q (.ref p) H'
theorem sc_law_entry_at : FnScope ["house", "key", "name"] ["house", "key", "name"] (defScope s_law_entry_at) := ⟨rfl, rfl, rfl, by decide +kernel, rfl, by decide +kernel, by decide +kernel⟩
theorem d_law_entry_at (B : Bt mg) (F : TopF K mg "_law_entry_at" s_law_entry_at ["house", "key", "name"]) : Df P w K mg base "_law_entry_at" ["house", "key", "name"] 1 (spEA K) := by
  refine F.df sc_law_entry_at (fun vs H Q E h => ?len) (fun f cdv A outer s H vs Q E hr h => ?body)
  case body =>
   have hu := hr.units
   refine ⟨_, (pss_cons (ps_if (pt_cmpR (k_in (K := K) rfl hu) (pv 2) (pe_ix (k_ix (K := K) rfl hu) (pv 0) (pv 1) (fun _ _ => rfl)) (by rfl))
      (pss_one (ps_ret (pe_lst (pa_cons (pe_ix (k_ix (K := K) rfl hu) (pe_ix (k_ix (K := K) rfl hu) (pv 0) (pv 1) (fun _ _ => rfl)) (pv 2) (fun _ _ => rfl)) pa_nil))))
      pss_nil)
      (pss_one (ps_ret (pe_lst pa_nil)))), ?_⟩
   obtain ⟨N, a, k, n, h, t, rfl, ha, wf, hk, hq⟩ := h
   obtain ⟨a', kvs, ea, _, hr2, tk⟩ := ha.dicAt
   cases ea
   obtain ⟨q', es', h1, _, h2, h3⟩ := T.tab tk hk
   have he : ent h k n = lk t n := by
     unfold ent
     rw [hk]
     rfl
   walk_at "g"
   refine q_ixK (.inr k) hr2 h1 ?_
   refine q_inD (.inr n) h2 ?_
   walk_at "g"
   cases e2 : lk t n with
   | some d =>
     obtain ⟨vd, g1, g2⟩ := h3.ent e2
     have tq : T K H ff vd d := g2.imm (immT_lk (wf.tab _ (lk_mem hk)).2 e2)
     rw [g1]
     walk_at "g"
     refine q_ixK (.inr k) hr2 h1 ?_
     walk_at "g"
     refine q_ixK (.inr n) h2 g1 ?_
     walk_at "g"
     intro p hp
     refine hq p _ _ (same_new hp) hp upd_same ?_
     rw [he, e2]
     exact .cons (tq.mono (same_new hp)) .nil
   | none =>
     have g1 := h3.nent e2
     rw [g1]
     walk_at "g"
     intro p hp
     refine hq p _ _ (same_new hp) hp upd_same ?_
     rw [he, e2]
     exact .nil
  case len =>
   obtain ⟨N, a, k, n, h, t, rfl, _⟩ := h
   rfl
abbrev names13 : List Str := ["a", "b1", "c", "A", "d", "l", "l2", "m", "n2", "k", "p", "z", "y"]
def names13s : List Str := srt names13
theorem names13_nd : names13.Nodup := by decide +kernel
theorem names13s_nd : names13s.Nodup := (srt_perm _).nodup_iff.mpr names13_nd
theorem names13s_len : names13s.length = 13 := (srt_perm _).length_eq
def mTab5 (b o t : Hs) (k : Str) : Tab := names13s.filterMap fun n => (mS b o t k n).2.map fun d => (n, d)
def mCon5 (b o t : Hs) (k : Str) : List SP := names13s.filterMap fun n => if (mS b o t k n).1 = true then some (k, n) else none
def mHs5 (b o t : Hs) : Hs := (nms b).map fun k => (k, mTab5 b o t k)
def mCs5 (b o t : Hs) : List SP := (nms b).flatMap fun k => mCon5 b o t k
theorem nms_mHs5 (b o t : Hs) : nms (mHs5 b o t) = nms b := by
  unfold mHs5 nms
  rw [List.map_map]
  exact List.map_id' _
theorem eqb_en (x y : En) : eqb (.lst x.toList) (.lst y.toList) = eqO x y := by
  cases x with
  | none => cases y with
    | none => rfl
    | some e => rfl
  | some d => cases y with
    | none => rfl
    | some e => rfl
theorem en_nod {e : En} (h : ∀ d, e = some d → imm d = true ∧ dep d ≤ 50) : TU.nod (.lst e.toList) = true ∧ TU.dep (.lst e.toList) ≤ 60 := by
  cases e with
  | none => exact ⟨rfl, (show 1 ≤ 60 by decide)⟩
  | some d =>
    obtain ⟨h1, h2⟩ := h d rfl
    have h3 := nod_of_imm h1
    refine ⟨by simp only [Option.toList, TU.nod, nods, h3, Bool.and_self], ?_⟩
    simp only [Option.toList, TU.dep, deps]
    omega
/-- _law_merge(base, one, two) -/
def spLM (K : PySem.W.Frag) : Sp := fun vs H Q _ => ∃ (N : Addr → Prop) (a b c : Addr) (h o t : Hs), vs = [.ref a, .ref b, .ref c] ∧ T K H N (.ref a) (.dic (hK h)) ∧ T K H N (.ref b) (.dic (hK o)) ∧ T K H N (.ref c) (.dic (hK t)) ∧
  MOk h ∧ MOk o ∧ MOk t ∧ h.length ≤ 40 ∧ nms o = nms h ∧ nms t = nms h ∧
  ∀ p r l ys H', Same H H' → SqT K H' p [.ref r, .ref l] → Own K (fun b => H b = none) H' r (mHs5 h o t) → H' l = some (.lst ys) → Ts K H' ff ys ((srtP (mCs5 h o t)).map pr) → Q (.ref p) H'
-- _law_merge: 0 base, 1 one, 2 two, 3 house, 4 met, 5 key, 6 name, 7 was, 8 left, 9 right, 10 stands
theorem sc_law_merge : FnScope ["base", "one", "two", "house", "met", "key", "name", "was", "left", "right", "stands"] ["base", "one", "two"] (defScope s_law_merge) := ⟨rfl, rfl, rfl, by decide +kernel, rfl, by decide +kernel, by decide +kernel⟩
theorem d_law_merge (B : Bt mg) (F : TopF K mg "_law_merge" s_law_merge ["base", "one", "two"]) (D_law_entry_at : Df P w K mg base "_law_entry_at" ["house", "key", "name"] 1 (spEA K)) : Df P w K mg base "_law_merge" ["base", "one", "two"] 2 (spLM K) := by
  refine F.df sc_law_merge (fun vs H Q E h => ?len) (fun f cdv A outer s H vs Q E hr h => ?body)
  case body =>
   have hu := hr.units
   refine ⟨_, (pss_cons (ps_set (i := 3) sc_law_merge.nd rfl (Or.inl rfl) pe_dnewK)
      (pss_cons (ps_set (i := 4) sc_law_merge.nd rfl (Or.inl rfl) (pe_lst pa_nil))
      (pss_cons (ps_lockU (ps_for (passes_of rfl) rfl (k_walk (K := K) rfl (pv 0)) (pg_name (i := 5) sc_law_merge.nd rfl (Or.inl rfl))
      (pss_cons (ps_asg pe_dnewK (pg_sub (pv 3) (pv 5) (set_any hu)))
      (pss_one (ps_for (passes_of rfl) rfl (k_walk (K := K) rfl (pe_callB ((k_sort (K := K) rfl rfl).or (k_sortP (K := K) rfl)) (by rfl) B.b_sorted (by decide +kernel) (pa_cons (pe_lst (pa_cons pe_str (pa_cons pe_str (pa_cons pe_str (pa_cons pe_str (pa_cons pe_str (pa_cons pe_str (pa_cons pe_str (pa_cons pe_str (pa_cons pe_str (pa_cons pe_str (pa_cons pe_str (pa_cons pe_str (pa_cons pe_str pa_nil)))))))))))))) pa_nil))) (pg_name (i := 6) sc_law_merge.nd rfl (Or.inl rfl))
      (pss_cons (ps_set (i := 7) sc_law_merge.nd rfl (Or.inl rfl) (pe_df D_law_entry_at (hr.mono (by decide)) (fun σ => passAt (takes_of rfl rfl rfl rfl) σ) (pa_cons (pv 0) (pa_cons (pv 5) (pa_cons (pv 6) pa_nil)))))
      (pss_cons (ps_set (i := 8) sc_law_merge.nd rfl (Or.inl rfl) (pe_df D_law_entry_at (hr.mono (by decide)) (fun σ => passAt (takes_of rfl rfl rfl rfl) σ) (pa_cons (pv 1) (pa_cons (pv 5) (pa_cons (pv 6) pa_nil)))))
      (pss_cons (ps_set (i := 9) sc_law_merge.nd rfl (Or.inl rfl) (pe_df D_law_entry_at (hr.mono (by decide)) (fun σ => passAt (takes_of rfl rfl rfl rfl) σ) (pa_cons (pv 2) (pa_cons (pv 5) (pa_cons (pv 6) pa_nil)))))
      (pss_cons (ps_set (i := 10) sc_law_merge.nd rfl (Or.inl rfl) (pv 7))
      (pss_cons (ps_if (PW.pt (pw_or (pt_cmpR (k_eq (K := K) rfl hu) (pv 8) (pv 9) (nomark _)) (pw_or1 (pt_cmpR (k_eq (K := K) rfl hu) (pv 9) (pv 7) (nomark _)))))
      (pss_one (ps_set (i := 10) sc_law_merge.nd rfl (Or.inl rfl) (pv 8)))
      (pss_one (ps_if (pt_cmpR (k_eq (K := K) rfl hu) (pv 8) (pv 7) (nomark _))
      (pss_one (ps_set (i := 10) sc_law_merge.nd rfl (Or.inl rfl) (pv 9)))
      (pss_one (ps_expr (k_append (K := K) rfl (pv 4) (pa_cons (pe_tup (pa_cons (pv 5) (pa_cons (pv 6) pa_nil))) pa_nil)))))))
      (pss_one (ps_if (k_tr (K := K) rfl (pv 10))
      (pss_one (ps_asg (pe_ix (k_ix (K := K) rfl hu) (pv 10) pe_int (fun _ _ => rfl)) (pg_sub (pe_ix (k_ix (K := K) rfl hu) (pv 3) (pv 5) (fun _ _ => rfl)) (pv 6) (set_any hu))))
      pss_nil))))))))))))
      (pss_one (ps_ret (pe_tup (pa_cons (pv 3) (pa_cons (pe_callB ((k_sort (K := K) rfl rfl).or (k_sortP (K := K) rfl)) (by rfl) B.b_sorted (by decide +kernel) (pa_cons (pv 4) pa_nil)) pa_nil)))))))), ?_⟩
   obtain ⟨N, a, b, c, h, o, t, rfl, ha, hb, hc, mh, mo, mt, l1, no, nt, hq⟩ := h
   walk_at "g"
   intro r hr0
   have s2 := same_new (o := .dK []) hr0
   walk_at "g"
   intro l hl
   have s3 := same_new (o := .lst []) hl
   have s03 := s2.trans s3
   have hl0 : H l = none := s2.free hl
   walk_at "g"
   obtain ⟨a', kvs, ea, _, hra, tka⟩ := ha.dicAt
   cases ea
   have hlen : kvs.length = h.length := by rw [tka.length]; exact List.length_map _
   refine q_lockS (Sm.rd s03 hra) fun Hl od un D' lkd hD' => ?_
   walk_at "g"
   refine q_keys ?_
   walk_at "g"
   refine q_keysE lkd.at_ ?_
   have L0 : Lk1 H a kvs od Hl := ⟨fun b o e n => lkd.l1.keep b o (s03 b o e) n, lkd.at_⟩
   have hrl : r ≠ l := ne_of_none (H := upd H r (.dK [])) upd_same hl
   have er : Hl r = some (.dK []) := by
     rw [lkd.el r (L0.ne hra hr0)]
     exact s3 _ _ upd_same
   have el : Hl l = some (.lst []) := by
     rw [lkd.el l (L0.ne hra hl0)]
     exact upd_same
   refine for_keysS (kvs := kvs) (fun i σ Hi => ∃ (v5 v6 v7 v8 v9 v10 : Option V) (ys : List V), σ = [some (.ref a), some (.ref b), some (.ref c), some (.ref r), some (.ref l), v5, v6, v7, v8, v9, v10] ∧ Lk1 H a kvs od Hi ∧ Own K (fun b => H b = none ∧ b ≠ l) Hi r ((mHs5 h o t).take i) ∧
     Hi l = some (.lst ys) ∧ Ts K Hi ff ys ((((nms h).take i).flatMap fun k => mCon5 h o t k).map pr) ∧ ys.length ≤ 13 * i) ?_ ?_ ?_ ?_
   · exact ⟨none, none, none, none, none, none, [], rfl, L0, Own.nil er ⟨hr0, hrl⟩, el, .nil, Nat.le_refl _⟩
   · rintro i σ Hi _ ⟨v5, v6, v7, v8, v9, v10, ys, rfl, l1', _⟩
     exact l1'.at_
   · rintro i k v σ Hi hkv ⟨v5, v6, v7, v8, v9, v10, ys, rfl, li, oi, ei, ti, yl⟩
     obtain ⟨d0, g1, g2⟩ := Tk.at tka hkv
     obtain ⟨n, t0, hn, rfl, rfl⟩ := hK_at g1
     have hnm : n ∈ nms h := mem_nms (mem_at hn)
     have e0 : lk h n = some t0 := lk_of_mem mh.1.nd (mem_at hn)
     obtain ⟨t1, e1⟩ := lk_mem_nms (show n ∈ nms o by rw [no]; exact hnm)
     obtain ⟨t2, e2⟩ := lk_mem_nms (show n ∈ nms t by rw [nt]; exact hnm)
     have hi40 : i < 40 := by
       have := (List.getElem?_eq_some_iff.mp hkv).1
       omega
     have nk : n ∉ nms ((mHs5 h o t).take i) := by
       rw [nms_take, nms_mHs5]
       exact nd_at mh.1.nd (nms_at hn)
     walk_at "g"
     intro q hq0
     have hqH : H q = none := li.fresh hq0
     have hql : q ≠ l := fun z => by rw [z, ei] at hq0; cases hq0
     obtain ⟨kr, c1, c2, c3⟩ := oi.push (t := []) nk hq0 ⟨hqH, hql⟩ (same_new hq0) upd_same .nil
     walk_at "g"
     refine q_setD (.inr n) c1 (by rw [c2, List.length_take]; exact len_small (by omega)) ?_
     have lj := (li.same (same_new (o := .dK []) hq0)).upd hra hr0 (o := .dK (putK kr (.inr n) (.ref q)))
     have ej : (upd (upd Hi q (.dK [])) r (.dK (putK kr (.inr n) (.ref q)))) l = some (.lst ys) := by
       rw [upd_ne (Ne.symm hrl)]
       exact same_new (o := .dK []) hq0 _ _ ei
     have tj := (ti.mono (same_new (o := .dK []) hq0)).upd c1 (fun _ z => nomatch z) (fun _ _ z => nomatch z) (fun _ z => z.elim) (o' := .dK (putK kr (.inr n) (.ref q)))
     generalize upd (upd Hi q (.dK [])) r (.dK (putK kr (.inr n) (.ref q))) = Hj at c3 lj ej tj
     walk_at "g"
     refine q_items ?_
     walk_at "g"
     intro p0 hp0
     rw [show [V.str (PySem.Str.ofString "a"), V.str (PySem.Str.ofString "b1"), V.str (PySem.Str.ofString "c"), V.str (PySem.Str.ofString "A"), V.str (PySem.Str.ofString "d"), V.str (PySem.Str.ofString "l"), V.str (PySem.Str.ofString "l2"), V.str (PySem.Str.ofString "m"), V.str (PySem.Str.ofString "n2"), V.str (PySem.Str.ofString "k"), V.str (PySem.Str.ofString "p"), V.str (PySem.Str.ofString "z"), V.str (PySem.Str.ofString "y")] = names13.map V.str from rfl]
     have s39 := same_new (o := .lst (names13.map V.str)) hp0
     have c3 := c3.mono s39
     have lj := lj.same s39
     have ej := s39 _ _ ej
     have tj := tj.mono s39
     have ep0 : (upd Hj p0 (.lst (names13.map V.str))) p0 = some (.lst (names13.map V.str)) := upd_same
     generalize upd Hj p0 (.lst (names13.map V.str)) = Hj at c3 lj ej tj ep0
     walk_at "g"
     refine .inl (q_sortS (ks := names13) (.inl (.inl ep0)) (by decide) fun p1 hp1 => ?_)
     rw [show srt names13 = names13s from rfl]
     have s4 := same_new (o := .lst (names13s.map V.str)) hp1
     have hpl : p1 ≠ l := fun z => by rw [z, ej] at hp1; cases hp1
     refine q_itemsE (xs := names13s.map V.str) sq_new ?_
     refine for_items (xs := names13s.map V.str) (fun j σ Hm => ∃ (v6 v7 v8 v9 v10 : Option V) (ys : List V), σ = [some (.ref a), some (.ref b), some (.ref c), some (.ref r), some (.ref l), some (.str n), v6, v7, v8, v9, v10] ∧ Lk1 H a kvs od Hm ∧
       Own K (fun b => H b = none ∧ b ≠ l) Hm r ((mHs5 h o t).take i ++ [(n, (names13s.take j).filterMap fun x => (mS h o t n x).2.map fun d => (x, d))]) ∧ Hm p1 = some (.lst (names13s.map V.str)) ∧ Hm l = some (.lst ys) ∧
       Ts K Hm ff ys (((((nms h).take i).flatMap fun k => mCon5 h o t k) ++ (names13s.take j).filterMap fun x => if (mS h o t n x).1 = true then some (n, x) else none).map pr) ∧ ys.length ≤ 13 * i + j) ?_ ?_ ?_ ?_
     · exact ⟨v6, v7, v8, v9, v10, ys, rfl, lj.same s4, c3.mono s4, upd_same, s4 _ _ ej, by rw [List.take_zero, List.filterMap_nil, List.append_nil]; exact tj.mono s4, by omega⟩
     · rintro j σ Hm _ ⟨v6, v7, v8, v9, v10, ys, rfl, _, _, e, _⟩
       exact .inl (.inl e)
     · rintro j y σ Hm hy ⟨v6, v7, v8, v9, v10, ys, rfl, lm, om, pm, em, cm, yl2⟩
       obtain ⟨x, hx', rfl⟩ := hlist_at hy
       have hj5 : j < 13 := by
         have := (List.getElem?_eq_some_iff.mp hx').1
         rw [names13s_len] at this
         exact this
       have enOk : ∀ {g : Hs} {tg : Tab}, MOk g → lk g n = some tg → ∀ d, ent g n x = some d → imm d = true ∧ dep d ≤ 50 := fun {g tg} mg eg d ed => by
         unfold ent at ed
         rw [eg] at ed
         have ed2 : lk tg x = some d := ed
         exact ⟨immT_lk (mg.1.tab _ (lk_mem eg)).2 ed2, mg.2.2.lk eg ed2⟩
       have n0 := en_nod (enOk mh e0)
       have n1 := en_nod (enOk mo e1)
       have n2 := en_nod (enOk mt e2)
       have rs0 := lm.rs hra
       walk_at "g"
       refine ⟨N, a, n, x, h, t0, rfl, ha.rs rs0, mh.1, e0, fun pw xw Hw sw pw0 ew tw => ?_⟩
       walk_at "g"
       refine ⟨N, b, n, x, o, t1, rfl, (hb.rs rs0).mono sw, mo.1, e1, fun pl xl Hx sx pl0 exl tl => ?_⟩
       walk_at "g"
       refine ⟨N, c, n, x, t, t2, rfl, ((hc.rs rs0).mono sw).mono sx, mt.1, e2, fun pr1 xr Hy sy pr0 exr tr => ?_⟩
       have sxy := (sw.trans sx).trans sy
       have ew2 := (sx.trans sy) _ _ ew
       have el2 := sy _ _ exl
       have tw2 := tw.mono (sx.trans sy)
       have tl2 := tl.mono sy
       have Tw : T K Hy (fun _ => True) (.ref pw) (.lst (ent h n x).toList) := .lst trivial (.inl (.inl ew2)) (tw2.imp fun _ z => z.elim)
       have Tl : T K Hy (fun _ => True) (.ref pl) (.lst (ent o n x).toList) := .lst trivial (.inl (.inl el2)) (tl2.imp fun _ z => z.elim)
       have Tr' : T K Hy (fun _ => True) (.ref pr1) (.lst (ent t n x).toList) := .lst trivial (.inl (.inl exr)) (tr.imp fun _ z => z.elim)
       have hpw : pw ≠ l := fun z => by rw [z, em] at pw0; cases pw0
       walk_at "g1"
       walk_at "g1"
       walk_at "g1"
       walk_at "g1"
       walk_at "g1"
       walk_at "g1"
       refine q_then (P := fun σ' Hv => ∃ (x10 : Addr) (x6 v7 v8 v9 : Option V) (xs10 ysw : List V), σ' = [some (.ref a), some (.ref b), some (.ref c), some (.ref r), some (.ref l), some (.str n), some (.str x), v7, v8, v9, some (.ref x10)] ∧ Lk1 H a kvs od Hv ∧
         Own K (fun b => H b = none ∧ b ≠ l) Hv r ((mHs5 h o t).take i ++ [(n, (names13s.take j).filterMap fun x => (mS h o t n x).2.map fun d => (x, d))]) ∧ Hv p1 = some (.lst (names13s.map V.str)) ∧ Hv l = some (.lst ysw) ∧
         Ts K Hv ff ysw (((((nms h).take i).flatMap fun k => mCon5 h o t k) ++ (names13s.take (j + 1)).filterMap fun x => if (mS h o t n x).1 = true then some (n, x) else none).map pr) ∧ ysw.length ≤ 13 * i + j + 1 ∧ Hv x10 = some (.lst xs10) ∧ Ts K Hv ff xs10 (mS h o t n x).2.toList) ?_ ?_
       · rintro σ' Hv ⟨x10, x6, v7, v8, v9, xs10, ysw, rfl, lv, ov, pv, ev, cv, yv, e10, t10⟩
         have fm1 : (names13s.take (j + 1)).filterMap (fun x => (mS h o t n x).2.map fun d => (x, d)) = ((names13s.take j).filterMap fun x => (mS h o t n x).2.map fun d => (x, d)) ++ ((mS h o t n x).2.map fun d => (x, d)).toList := by
           rw [take_more hx', List.filterMap_append]
           exact congrArg _ (fm_one _ _)
         walk_at "g"
         refine q_trL (.inl (.inl e10)) ?_
         cases e5 : (mS h o t n x).2 with
         | some dd =>
           rw [e5] at t10 fm1
           cases t10 with
           | @cons v0 _ _ _ t0' t1' =>
           cases t1'
           refine q_t ?_
           walk_at "g"
           refine q_ixL (.inl (.inl e10)) (atI_nat (j := 0) rfl) ?_
           walk_at "g"
           obtain ⟨kv7, q7, es7, a1, a2, a3, a4, a5, a6, a7, back⟩ := ov.at (lk_snoc nk)
           refine q_ixK (.inr n) (.inl a1) a2 ?_
           walk_at "g"
           have nkx : (Sum.inr x : Key) ∉ es7.map (·.1) := by
             rw [a4.keys, keys_tK]
             intro z
             exact nd_at names13s_nd hx' ((nms_fm (fun x => (mS h o t n x).2) _).subset (inr_mem.mp z))
           have esl : es7.length ≤ 13 := by
             have z1 := a4.length
             rw [show (tK ((names13s.take j).filterMap fun x => (mS h o t n x).2.map fun d => (x, d))).length = ((names13s.take j).filterMap fun x => (mS h o t n x).2.map fun d => (x, d)).length from List.length_map _] at z1
             have z2 := List.length_filterMap_le (fun x => (mS h o t n x).2.map fun d => (x, d)) (names13s.take j)
             rw [List.length_take] at z2
             omega
           refine q_setD (.inr x) a3 (len_small (by omega)) ?_
           have t8 : Tk K Hv ff (putK es7 (.inr x) v0) (tK (((names13s.take j).filterMap fun x => (mS h o t n x).2.map fun d => (x, d)) ++ [(x, dd)])) := by
             rw [putK_fresh nkx, tK_snoc]
             exact a4.append (Tk.cons (k := Sum.inr x) t0' .nil)
           have o8 := back _ _ t8
           rw [put_snoc nk] at o8
           refine ⟨_, _, _, _, _, ysw, rfl, lv.upd hra a5.1, ?_, sqL_dk a3 pv, sqL_dk a3 ev, cv.upd a3 (fun _ z => nomatch z) (fun _ _ z => nomatch z) (fun _ z => z.elim), by omega⟩
           rw [fm1]
           exact o8
         | none =>
           rw [e5] at t10 fm1
           cases t10
           refine q_f ?_
           walk_at "g"
           refine ⟨_, _, _, _, _, ysw, rfl, lv, ?_, pv, ev, cv, by omega⟩
           rw [fm1]
           show Own K _ Hv r (_ ++ [(n, _ ++ [])])
           rw [List.append_nil]
           exact ov
       · intro rest
         have fin : ∀ {x10 : Addr} {xs10 : List V} {en : En}, mS h o t n x = (false, en) → Hy x10 = some (.lst xs10) → Ts K Hy ff xs10 en.toList → _ := fun {x10 xs10 en} e ex tx => rest [some (.ref a), some (.ref b), some (.ref c), some (.ref r), some (.ref l), some (.str n), some (.str x), some (.ref pw), some (.ref pl), some (.ref pr1), some (.ref x10)] Hy
           ⟨x10, none, _, _, _, xs10, ys, rfl, lm.same sxy, om.mono sxy, sxy _ _ pm, sxy _ _ em, by
             rw [take_more hx', List.filterMap_append]
             have e6 : List.filterMap (fun x => if (mS h o t n x).1 = true then some (n, x) else none) [x] = [] := by
               rw [List.filterMap_cons, e, if_neg Bool.false_ne_true]
               rfl
             rw [e6, List.append_nil]
             exact cm.mono sxy, by omega, ex, by rw [e]; exact tx⟩
         walk_at "g"
         refine q_eqT Tl Tr' n1.1 n2.1 n1.2 ?_
         rw [eqb_en]
         walk_at "g"
         refine q_ite (fun c1 => ?_) (fun c1 => ?_)
         · repeat (first | exact fin (if_pos (.inl c1)) el2 tl2 | walk_at "g1")
         · walk_at "g"
           refine q_eqT Tr' Tw n2.1 n0.1 n2.2 ?_
           rw [eqb_en]
           walk_at "g"
           refine q_ite (fun c2 => ?_) (fun c2 => ?_)
           · repeat (first | exact fin (if_pos (.inr c2)) el2 tl2 | walk_at "g1")
           · have nn : ¬ (eqO (ent o n x) (ent t n x) = true ∨ eqO (ent t n x) (ent h n x) = true) := fun z => z.elim (fun z => by rw [c1] at z; cases z) (fun z => by rw [c2] at z; cases z)
             walk_at "g"
             refine q_eqT Tl Tw n1.1 n0.1 n1.2 ?_
             rw [eqb_en]
             walk_at "g"
             refine q_ite (fun c3 => ?_) (fun c3 => ?_)
             · repeat (first | exact fin ((if_neg nn).trans (if_pos c3)) exr tr | walk_at "g1")
             · have e9 : mS h o t n x = (true, ent h n x) := (if_neg nn).trans (if_neg (by rw [c3]; exact Bool.false_ne_true))
               walk_at "g"
               refine tyL (sxy _ _ em) ?_
               walk_at "g"
               intro p6 hp6
               have s8 := same_new (o := .tup [.str n, .str x]) hp6
               have s68 := sxy.trans s8
               walk_at "g"
               refine q_append (s68 _ _ em) (len_small (by omega)) ?_
               have upds : ∀ {ds : List Tr} {vs : List V}, Ts K (upd Hy p6 (.tup [.str n, .str x])) ff vs ds → Ts K (upd (upd Hy p6 (.tup [.str n, .str x])) l (.lst (ys ++ [.ref p6]))) ff vs ds := fun z => z.upd (s68 _ _ em) (fun _ z => nomatch z) (fun _ _ z => nomatch z) fun _ z => z.elim
               refine rest _ _ ⟨pw, none, _, _, _, xw, ys ++ [.ref p6], rfl, ((lm.same sxy).same s8).upd hra hl0, (om.mono s68).keep (keeps_upd (p := l)) (nt_of (s68 _ _ em) (fun _ z => nomatch z) fun _ _ z => nomatch z) (fun b z => z.2), ?_, upd_same, ?_, ?_, ?_, ?_⟩
               · rw [upd_ne hpl]
                 exact s68 _ _ pm
               · rw [take_more hx', List.filterMap_append, ← List.append_assoc, List.map_append]
                 have e6 : List.map pr (List.filterMap (fun x => if (mS h o t n x).1 = true then some (n, x) else none) [x]) = [pr (n, x)] := by
                   rw [List.filterMap_cons, e9, if_pos rfl]
                   rfl
                 rw [e6]
                 exact upds ((cm.mono s68).append (.cons (.tup st_new (.cons (.str _) (.cons (.str _) .nil))) .nil))
               · rw [List.length_append]
                 show ys.length + 1 ≤ _
                 omega
               · rw [upd_ne hpw]
                 exact s8 _ _ ew2
               · rw [e9]
                 exact upds (tw2.mono s8)
     · rintro σ Hm ⟨v6, v7, v8, v9, v10, ys, rfl, lm, om, pm, em, cm, yl2⟩
       rw [List.length_map, List.take_length] at om cm
       have yl3 : ys.length ≤ 13 * i + 13 := by
         rw [List.length_map, names13s_len] at yl2
         exact yl2
       have hni : (mHs5 h o t)[i]? = some (n, mTab5 h o t n) := by
         unfold mHs5
         rw [List.getElem?_map, nms_at hn]
         rfl
       have hnn : (nms h)[i]? = some n := nms_at hn
       refine ⟨_, _, _, _, _, _, ys, rfl, lm, ?_, em, ?_, by omega⟩
       · rw [take_more hni]
         exact om
       · rw [take_more hnn, List.flatMap_append]
         have e7 : List.flatMap (fun k => mCon5 h o t k) [n] = mCon5 h o t n := by simp
         rw [e7]
         exact cm
   · rintro σ Hi ⟨v5, v6, v7, v8, v9, v10, ys, rfl, li, oi, ei, ti, yl⟩
     refine hD'.nx _ _ li.at_ ?_
     have hm1 : (mHs5 h o t).take kvs.length = mHs5 h o t := by
       rw [hlen]
       refine List.take_of_length_le ?_
       rw [← nms_len, nms_mHs5, nms_len]
       exact Nat.le_refl _
     have hm2 : (nms h).take kvs.length = nms h := by
       rw [hlen, ← nms_len h]
       exact List.take_length
     rw [hm1] at oi
     rw [hm2] at ti
     have su := li.out lkd s03
     have eu : un Hi l = some (.lst ys) := by rw [lkd.un _ _ (L0.ne hra hl0)]; exact ei
     have ou := lkd.own (fun b z => L0.ne hra z.1) li.at_ oi
     have tu := ti.rs (lkd.unrs li.at_)
     generalize un Hi = Ho at su eu ou tu
     walk_at "g"
     refine .inr (q_sortP (.inl (.inl eu)) tu fun zs p tz hp => ?_)
     have s9 := same_new (o := .lst zs) hp
     walk_at "g"
     intro p9 hp9
     have s10 := same_new (o := .tup [.ref r, .ref p]) hp9
     refine hq p9 r p zs _ (su.trans (s9.trans s10)) st_new ((ou.imp fun b z => z.1).mono (s9.trans s10)) (s10 _ _ upd_same) ((tz.mono s9).mono s10)
  case len =>
   obtain ⟨N, a, b, c, h, o, t, rfl, _⟩ := h
   rfl

/-! ### the family of a law's yards -/
def nmOf (k : Str) : List Str := if k = "spots" then ["a", "b1", "c", "A"] else if k = "doors" then ["d"] else if k = "lanes" then ["l", "l2"] else if k = "kinds" then ["k"] else if k = "machines" then ["m", "n2"] else if k = "parcels" then ["z", "y"] else if k = "programs" then ["p"] else []
theorem nmOf_sub (k n : Str) (h : n ∈ nmOf k) : n ∈ names13 := by
  unfold nmOf at h
  repeat' split at h
  all_goals (revert n; decide +kernel)
theorem nmOf_len (k : Str) : (nmOf k).length ≤ 4 := by
  unfold nmOf
  repeat' split
  all_goals decide
theorem n13_len : ∀ n ∈ names13, n.length ≤ 12 := by decide +kernel
theorem nd_sub_len : ∀ {l m : List Str}, l.Nodup → (∀ x ∈ l, x ∈ m) → l.length ≤ m.length
  | [], _, _, _ => Nat.zero_le _
  | x :: l, m, nd, sub => by
    have nd2 := List.nodup_cons.mp nd
    have hx := sub x List.mem_cons_self
    have ih := nd_sub_len (l := l) (m := m.erase x) nd2.2 fun y hy => (List.mem_erase_of_ne fun e => nd2.1 (by rw [← e]; exact hy)).mpr (sub y (List.mem_cons_of_mem _ hy))
    rw [List.length_erase_of_mem hx] at ih
    have := List.length_pos_of_mem hx
    rw [List.length_cons]
    omega
structure YF (h : Hs) : Prop where
  wf : Wf h
  nm : nms h = tabsL
  ok : ∀ q ∈ h, ∀ x ∈ q.2, OkE q.1 x.2
  na : ∀ q ∈ h, ∀ x ∈ q.2, x.1 ∈ nmOf q.1
theorem YF.sz {h : Hs} (y : YF h) : ∀ q ∈ h, q.2.length ≤ 4 := fun q hq => by
  have := nd_sub_len (m := nmOf q.1) (y.wf.tab q hq).1 fun x hx => by
    obtain ⟨z, hz, rfl⟩ := List.mem_map.mp hx
    exact y.na q hq z hz
  rw [nms_len] at this
  exact Nat.le_trans this (nmOf_len _)
theorem YF.yg {h : Hs} (y : YF h) : YG h := by
  refine ⟨y.wf, y.nm, fun q hq x hx => ⟨y.ok q hq x hx, n13_len _ (nmOf_sub _ _ (y.na q hq x hx))⟩, y.sz, ?_⟩
  obtain ⟨t, ht⟩ := lk_mem_nms (show ("lifts" : Str) ∈ nms h by rw [y.nm]; simp)
  cases t with
  | nil => exact ht
  | cons x t =>
    have z := y.na _ (lk_mem ht) x List.mem_cons_self
    exact absurd (show x.1 ∈ ([] : List Str) from z) (by simp)
theorem OkE.dep {k : Str} {e : Tr} (h : OkE k e) : TU.dep e ≤ 50 := by
  rcases h with ⟨_, a, b, c, rfl, _⟩ | ⟨_, i, rfl⟩ | ⟨_, s, f, hd, x, y, g, rfl, _⟩ | ⟨_, a, rfl, _⟩ | ⟨_, k, s, hd, ch, p, rfl, _⟩ | ⟨_, s, rfl⟩ | ⟨_, b, rfl⟩
  · exact (by decide : (1 : Nat) ≤ 50)
  · exact (by decide : (0 : Nat) ≤ 50)
  · cases g <;> exact (by decide : (2 : Nat) ≤ 50)
  · exact (by decide : (1 : Nat) ≤ 50)
  · exact (by decide : (1 : Nat) ≤ 50)
  · exact (by decide : (1 : Nat) ≤ 50)
  · cases b <;> exact (by decide : (2 : Nat) ≤ 50)
theorem OkE.imm {k : Str} {e : Tr} (h : OkE k e) : TU.imm e = true := by
  rcases h with ⟨_, a, b, c, rfl, _⟩ | ⟨_, i, rfl⟩ | ⟨_, s, f, hd, x, y, g, rfl, _⟩ | ⟨_, a, rfl, _⟩ | ⟨_, k, s, hd, ch, p, rfl, _⟩ | ⟨_, s, rfl⟩ | ⟨_, b, rfl⟩
  · rfl
  · rfl
  · cases g <;> rfl
  · rfl
  · rfl
  · rfl
  · cases b <;> rfl
theorem YF.mok {h : Hs} (y : YF h) : MOk h := ⟨y.wf, fun q hq => Nat.le_trans (y.sz q hq) (by decide), fun q hq x hx => (y.ok q hq x hx).dep⟩
theorem YF.sml {h : Hs} (y : YF h) : Sml h := fun q hq x hx => Nat.le_trans (y.ok q hq x hx).dep (by decide)
theorem YF.len {h : Hs} (y : YF h) : h.length = 8 := by rw [← nms_len, y.nm]; rfl
theorem YF.ent {h : Hs} (y : YF h) {k n : Str} {d : Tr} (e : TU.ent h k n = some d) : OkE k d ∧ n ∈ nmOf k := by
  unfold TU.ent at e
  cases q : lk h k with
  | none => rw [q] at e; cases e
  | some t =>
    rw [q] at e
    have e2 : lk t n = some d := e
    exact ⟨y.ok _ (lk_mem q) _ (lk_mem e2), y.na _ (lk_mem q) _ (lk_mem e2)⟩
theorem n13 : ∀ n, n ∈ names13s ↔ n ∈ names13 := fun n => (srt_perm _).mem_iff
theorem asc5 : Asc names13s := srt_asc _
theorem fm_filter {α : Type} (f : Str → Option α) (p : Str → Bool) : ∀ (l : List Str), (∀ n ∈ l, p n = false → f n = none) → (l.filter p).filterMap f = l.filterMap f
  | [], _ => rfl
  | n :: l, h => by
    have ih := fm_filter f p l fun x hx => h x (List.mem_cons_of_mem _ hx)
    cases e : p n with
    | true => rw [List.filter_cons_of_pos e, List.filterMap_cons, List.filterMap_cons, ih]
    | false =>
      rw [List.filter_cons_of_neg (by rw [e]; exact Bool.false_ne_true), ih, List.filterMap_cons, h n List.mem_cons_self e]
theorem fm_congr {α β : Type} {f g : α → List β} : ∀ {l : List α}, (∀ x ∈ l, f x = g x) → l.flatMap f = l.flatMap g
  | [], _ => rfl
  | x :: l, h => by
    rw [List.flatMap_cons, List.flatMap_cons, h x List.mem_cons_self, fm_congr fun y hy => h y (List.mem_cons_of_mem _ hy)]
theorem set1_none : set1 none none none = (false, none) := if_pos (.inl rfl)
theorem mN_fm {α : Type} {b o t : Hs} (gb : YF b) (go : YF o) (gt : YF t) (k : Str) (f : Str → Option α) (hf : ∀ n, ent b k n = none → ent o k n = none → ent t k n = none → f n = none) : (mN b o t k).filterMap f = names13s.filterMap f := by
  have hN : ∀ n, n ∈ mN b o t k ↔ ∃ g ∈ [b, o, t], n ∈ nms ((lk g k).getD []) := fun n => by
    unfold mN
    rw [(srt_perm _).mem_iff, uni_mem]
    unfold tabs
    constructor
    · rintro ⟨u, hu, m⟩
      obtain ⟨g, hg, rfl⟩ := List.mem_map.mp hu
      exact ⟨g, hg, m⟩
    · rintro ⟨g, hg, m⟩
      exact ⟨_, List.mem_map.mpr ⟨g, hg, rfl⟩, m⟩
  have noEnt : ∀ g n, n ∉ nms ((lk g k).getD []) → ent g k n = none := fun g n c => by
    unfold ent
    cases q : lk g k with
    | none => rfl
    | some u =>
      rw [q] at c
      exact lk_none.mpr c
  have sub : ∀ n ∈ mN b o t k, n ∈ names13s := fun n m => by
    obtain ⟨g, hg, m⟩ := (hN n).mp m
    have gg : YF g := by
      rcases List.mem_cons.mp hg with e | hg
      · rw [e]
        exact gb
      · rcases List.mem_cons.mp hg with e | hg
        · rw [e]
          exact go
        · rw [List.mem_singleton.mp hg]
          exact gt
    cases q : lk g k with
    | none =>
      rw [q] at m
      exact nomatch m
    | some u =>
      rw [q] at m
      obtain ⟨y, hy, e⟩ := List.mem_map.mp (show n ∈ nms u from m)
      rw [← e]
      exact (n13 _).mpr (nmOf_sub _ _ (gg.na _ (lk_mem q) y hy))
  have e : mN b o t k = names13s.filter fun n => decide (n ∈ mN b o t k) := by
    refine asc_unique ?_ (srt_asc _) (asc5.filter _)
    refine (List.perm_ext_iff_of_nodup (mN_nd b o t k) (names13s_nd.filter _)).mpr fun n => ?_
    rw [List.mem_filter]
    exact ⟨fun m => ⟨sub n m, decide_eq_true m⟩, fun z => of_decide_eq_true z.2⟩
  rw [e]
  refine fm_filter f _ _ fun n _ c => ?_
  have c' : n ∉ mN b o t k := of_decide_eq_false c
  have c2 : ∀ g ∈ [b, o, t], n ∉ nms ((lk g k).getD []) := fun g hg m => c' ((hN n).mpr ⟨g, hg, m⟩)
  exact hf n (noEnt b n (c2 b (by simp))) (noEnt o n (c2 o (by simp))) (noEnt t n (c2 t (by simp)))
theorem mHs_5 {b o t : Hs} (gb : YF b) (go : YF o) (gt : YF t) : mHs b o t = mHs5 b o t ∧ mCs b o t = mCs5 b o t := by
  have e : ∀ k n, ent b k n = none → ent o k n = none → ent t k n = none → mS b o t k n = (false, none) := fun k n e1 e2 e3 => by
    unfold mS
    rw [e1, e2, e3]
    exact set1_none
  refine ⟨List.map_congr_left fun k _ => ?_, fm_congr fun k _ => ?_⟩
  · refine congrArg (Prod.mk k) (mN_fm gb go gt k _ fun n e1 e2 e3 => ?_)
    rw [e k n e1 e2 e3]
    rfl
  · refine mN_fm gb go gt k _ fun n e1 e2 e3 => ?_
    rw [e k n e1 e2 e3]
    rfl
theorem mS_from {b o t : Hs} {k n : Str} {d : Tr} (h : (mS b o t k n).2 = some d) : ent b k n = some d ∨ ent o k n = some d ∨ ent t k n = some d := by
  unfold mS set1 at h
  split at h
  · exact .inr (.inl h)
  · split at h
    · exact .inr (.inr h)
    · exact .inl h
theorem YF.merge {b o t : Hs} (gb : YF b) (go : YF o) (gt : YF t) : YF (mHs5 b o t) := by
  have at_ : ∀ {k n : Str} {d : Tr}, (mS b o t k n).2 = some d → OkE k d ∧ n ∈ nmOf k := fun e => by
    rcases mS_from e with z | z | z
    · exact gb.ent z
    · exact go.ent z
    · exact gt.ent z
  have mem : ∀ q ∈ mHs5 b o t, ∀ x ∈ q.2, OkE q.1 x.2 ∧ x.1 ∈ nmOf q.1 := fun q hq x hx => by
    obtain ⟨k, _, rfl⟩ := List.mem_map.mp hq
    obtain ⟨n, _, e⟩ := List.mem_filterMap.mp hx
    cases e2 : (mS b o t k n).2 with
    | none => rw [e2] at e; cases e
    | some d =>
      rw [e2] at e
      cases e
      exact at_ e2
  refine ⟨⟨by rw [nms_mHs5]; exact gb.wf.nd, fun q hq => ⟨?_, fun x hx => (mem q hq x hx).1.imm⟩⟩, by rw [nms_mHs5]; exact gb.nm, fun q hq x hx => (mem q hq x hx).1, fun q hq x hx => (mem q hq x hx).2⟩
  obtain ⟨k, _, rfl⟩ := List.mem_map.mp hq
  exact (nms_fm (fun n => (mS b o t k n).2) names13s).nodup names13s_nd
theorem srtP_nil {l : List SP} : srtP l = [] ↔ l = [] := by
  constructor
  · intro h
    have := (srtP_perm l).length_eq
    rw [h] at this
    exact List.length_eq_zero_iff.mp this.symm
  · intro h
    rw [h]
    rfl
theorem eqb_prs (l : List SP) : eqb (.lst (l.map pr)) (.lst []) = decide (l = []) := by
  cases l with
  | nil => rfl
  | cons p l => rfl
theorem nod_prs (l : List SP) : TU.nod (.lst (l.map pr)) = true := by
  simp only [TU.nod]
  exact nods_all fun d hd => by
    obtain ⟨p, _, rfl⟩ := List.mem_map.mp hd
    rfl
theorem dep_prs (l : List SP) : TU.dep (.lst (l.map pr)) ≤ 60 := by
  have : deps (l.map pr) ≤ 1 := deps_all fun d hd => by
    obtain ⟨p, _, rfl⟩ := List.mem_map.mp hd
    exact (show 1 ≤ 1 by decide)
  simp only [TU.dep]
  omega
/-- merge_yards(base, one, two) -/
def spMY (K : PySem.W.Frag) : Sp := fun vs H Q _ => ∃ (N : Addr → Prop) (a b c : Addr) (h o t : Hs), vs = [.ref a, .ref b, .ref c] ∧ T K H N (.ref a) (.dic (hK h)) ∧ T K H N (.ref b) (.dic (hK o)) ∧ T K H N (.ref c) (.dic (hK t)) ∧ YF h ∧ YF o ∧ YF t ∧
  (mCs5 h o t ≠ [] → ∀ p l ys H', Same H H' → H' p = some (.tup [.str "conflict", .ref l]) → H' l = some (.lst ys) → Ts K H' ff ys ((srtP (mCs5 h o t)).map pr) → Q (.ref p) H') ∧
  (mCs5 h o t = [] → ∀ e, chk (mHs5 h o t) = some e → ∀ p v H', Same H H' → H' p = some (.tup [.str "unsound", v]) → T K H' ff v e.tr → Q (.ref p) H') ∧
  (mCs5 h o t = [] → chk (mHs5 h o t) = none → ∀ p r H', Same H H' → H' p = some (.tup [.str "yard", .ref r]) → Own K (fun z => H z = none) H' r (mHs5 h o t) → Q (.ref p) H')
-- merge_yards: 0 base, 1 one, 2 two, 3 yard, 4 met, 5 words
theorem sc_merge_yards : FnScope ["base", "one", "two", "yard", "met", "words"] ["base", "one", "two"] (defScope s_merge_yards) := ⟨rfl, rfl, rfl, by decide +kernel, rfl, by decide +kernel, by decide +kernel⟩
theorem d_merge_yards (B : Bt mg) (F : TopF K mg "merge_yards" s_merge_yards ["base", "one", "two"]) (D_error_words : Df P w K mg base "error_words" ["yard"] 10 (spEW K)) (D_merge : Df P w K mg base "merge" ["base", "one", "two"] 5 (spMe K C_Misfit)) : Df P w K mg base "merge_yards" ["base", "one", "two"] 11 (spMY K) := by
  refine F.df sc_merge_yards (fun vs H Q E h => ?len) (fun f cdv A outer s H vs Q E hr h => ?body)
  case body =>
   have hu := hr.units
   refine ⟨_, (pss_cons (ps_asg (pe_df D_merge (hr.mono (by decide)) (fun σ => passAt (takes_of rfl rfl rfl rfl) σ) (pa_cons (pv 0) (pa_cons (pv 1) (pa_cons (pv 2) pa_nil)))) (k_tup (K := K) (n := 2) rfl (by rfl) (pgs_cons (pg_name (i := 3) sc_merge_yards.nd rfl (Or.inl rfl)) (pgs_cons (pg_name (i := 4) sc_merge_yards.nd rfl (Or.inl rfl)) pgs_nil))))
      (pss_cons (ps_if (pt_cmpR (k_ne (K := K) rfl hu) (pv 4) (pe_lst pa_nil) (nomark _))
      (pss_one (ps_ret (pe_tup (pa_cons pe_str (pa_cons (pv 4) pa_nil)))))
      pss_nil)
      (pss_cons (ps_set (i := 5) sc_merge_yards.nd rfl (Or.inl rfl) (pe_df D_error_words (hr.mono (by decide)) (fun σ => passAt (takes_of rfl rfl rfl rfl) σ) (pa_cons (pv 3) pa_nil)))
      (pss_cons (ps_if (pt_cmpR op_notN (pv 5) pe_non (nomark _))
      (pss_one (ps_ret (pe_tup (pa_cons pe_str (pa_cons (pv 5) pa_nil)))))
      pss_nil)
      (pss_one (ps_ret (pe_tup (pa_cons pe_str (pa_cons (pv 3) pa_nil))))))))), ?_⟩
   obtain ⟨N, a, b, c, h, o, t, rfl, ha, hb, hc, gh, go, gt, q1, q2, q3⟩ := h
   obtain ⟨em, ec⟩ := mHs_5 gh go gt
   have keq : srt (nms h) = srt (nms o) ∧ srt (nms h) = srt (nms t) := ⟨by rw [gh.nm, go.nm], by rw [gh.nm, gt.nm]⟩
   have gm := gh.merge go gt
   walk_at "g"
   refine ⟨N, a, b, c, h, o, t, rfl, ha, hb, hc, gh.mok, go.mok, gt.mok, by rw [gh.len]; decide, by rw [go.len]; decide, by rw [gt.len]; decide, fun _ p r l ys H1 s1 hp hr hl hl0 hts => ?_, fun z => absurd keq z⟩
   rw [em] at hr
   rw [ec] at hts
   refine q_gtup hp rfl ?_
   walk_at "g"
   intro l0 hl0'
   have s2 := same_new (o := .lst []) hl0'
   refine q_neT (P := fun _ => True) (.lst trivial (.inl (.inl (s2 _ _ hl))) ((hts.mono s2).imp fun _ z => z.elim)) (.lst trivial (.inl (.inl upd_same)) .nil) (nod_prs _) rfl (dep_prs _) ?_
   rw [eqb_prs]
   have s12 := s1.trans s2
   have hl2 := s2 _ _ hl
   have hts2 := hts.mono s2
   have hr2 := hr.mono s2
   generalize upd H1 l0 (.lst []) = H2 at s2 s12 hl2 hts2 hr2
   walk_at "g"
   refine q_ndec (fun c => ?_) (fun c => ?_)
   · walk_at "g"
     intro p2 hp2
     have s3 := same_new (o := .tup [.str "conflict", .ref l]) hp2
     exact q1 (fun z => c (srtP_nil.mpr z)) p2 l ys _ (s12.trans s3) upd_same (s3 _ _ hl2) (hts2.mono s3)
   · have ce : mCs5 h o t = [] := srtP_nil.mp c
     walk_at "g"
     refine ⟨_, r, mHs5 h o t, rfl, hr2.T, gm.yg, fun v H3 s3 tv => ?_⟩
     walk_at "g"
     cases ek : chk (mHs5 h o t) with
     | none =>
       rw [ek] at tv
       cases tv
       refine ⟨rfl, ?_⟩
       rw [decide_eq_true (p := V.non = V.non) rfl]
       walk_at "g"
       intro p2 hp2
       have s4 := same_new (o := .tup [.str "yard", .ref r]) hp2
       exact q3 ce ek p2 r _ ((s12.trans s3).trans s4) upd_same ((hr2.mono s3).mono s4)
     | some e =>
       rw [ek] at tv
       refine ⟨rfl, ?_⟩
       have nv : ¬ v = V.non := fun z => by
         rw [z] at tv
         cases e <;> cases tv
       rw [decide_eq_false nv]
       walk_at "g"
       intro p2 hp2
       have s4 := same_new (o := .tup [.str "unsound", v]) hp2
       exact q2 ce e ek p2 v _ ((s12.trans s3).trans s4) upd_same (tv.mono s4)
  case len =>
   obtain ⟨N, a, b, c, h, o, t, rfl, _⟩ := h
   rfl

/-- the law's menu of edits -/
def menuT : List Tr := [.tup [.str "spots", .str "c", .tup [.int 1, .int 0, .int 0]], .tup [.str "spots", .str "c", .tup []], .tup [.str "spots", .str "A", .tup [.int 1, .int 0, .int 0]], .tup [.str "spots", .str "b1", .tup [.int 2, .int 3, .int 1]], .tup [.str "doors", .str "d", .tup []], .tup [.str "doors", .str "d", .int 7], .tup [.str "doors", .str "d", .int 3], .tup [.str "lanes", .str "l", .tup []], .tup [.str "lanes", .str "l2", .tup [.str "b1", .str "a", .str "e", .int 2, .int 1, .tup [.str "open"]]], .tup [.str "lanes", .str "l2", .tup [.str "b1", .str "c", .str "e", .int 2, .int 1, .tup [.str "open"]]], .tup [.str "machines", .str "m", .tup [.str "k", .str "a", .str "e", .int 10, .str "p"]], .tup [.str "machines", .str "m", .tup [.str "k", .str "b1", .str "e", .int 9, .str "p"]], .tup [.str "machines", .str "n2", .tup []], .tup [.str "machines", .str "n2", .tup [.str "k", .str "a", .str "n", .int 0, .str "p"]], .tup [.str "kinds", .str "k", .tup [.int 3, .int 1, .int 0, .int 1, .int 5, .int 9, .int 1, .int 1]], .tup [.str "programs", .str "p", .tup [.tup [.str "go", .str "c"]]], .tup [.str "parcels", .str "z", .tup [.int 1, .str "a"]], .tup [.str "parcels", .str "y", .tup [.int 1, .str "a"]]]
def spMenu (K : PySem.W.Frag) : Sp := fun vs H Q _ => vs = [] ∧ ∀ r xs H', Same H H' → H' r = some (.lst xs) → Ts K H' ff xs menuT → Q (.ref r) H'
theorem sc_law_menu : FnScope [] [] (defScope s_law_menu) := ⟨rfl, rfl, rfl, by decide +kernel, rfl, by decide +kernel, by decide +kernel⟩
theorem d_law_menu (B : Bt mg) (F : TopF K mg "_law_menu" s_law_menu []) : Df P w K mg base "_law_menu" [] 1 (spMenu K) := by
  refine F.df sc_law_menu (fun vs H Q E h => ?len) (fun f cdv A outer s H vs Q E hr h => ?body)
  case body =>
   have hu := hr.units
   refine ⟨_, (pss_one (ps_ret (pe_lst (pa_cons (pe_tup (pa_cons pe_str (pa_cons pe_str (pa_cons (pe_tup (pa_cons pe_int (pa_cons pe_int (pa_cons pe_int pa_nil)))) pa_nil)))) (pa_cons (pe_tup (pa_cons pe_str (pa_cons pe_str (pa_cons (pe_tup pa_nil) pa_nil)))) (pa_cons (pe_tup (pa_cons pe_str (pa_cons pe_str (pa_cons (pe_tup (pa_cons pe_int (pa_cons pe_int (pa_cons pe_int pa_nil)))) pa_nil)))) (pa_cons (pe_tup (pa_cons pe_str (pa_cons pe_str (pa_cons (pe_tup (pa_cons pe_int (pa_cons pe_int (pa_cons pe_int pa_nil)))) pa_nil)))) (pa_cons (pe_tup (pa_cons pe_str (pa_cons pe_str (pa_cons (pe_tup pa_nil) pa_nil)))) (pa_cons (pe_tup (pa_cons pe_str (pa_cons pe_str (pa_cons pe_int pa_nil)))) (pa_cons (pe_tup (pa_cons pe_str (pa_cons pe_str (pa_cons pe_int pa_nil)))) (pa_cons (pe_tup (pa_cons pe_str (pa_cons pe_str (pa_cons (pe_tup pa_nil) pa_nil)))) (pa_cons (pe_tup (pa_cons pe_str (pa_cons pe_str (pa_cons (pe_tup (pa_cons pe_str (pa_cons pe_str (pa_cons pe_str (pa_cons pe_int (pa_cons pe_int (pa_cons (pe_tup (pa_cons pe_str pa_nil)) pa_nil))))))) pa_nil)))) (pa_cons (pe_tup (pa_cons pe_str (pa_cons pe_str (pa_cons (pe_tup (pa_cons pe_str (pa_cons pe_str (pa_cons pe_str (pa_cons pe_int (pa_cons pe_int (pa_cons (pe_tup (pa_cons pe_str pa_nil)) pa_nil))))))) pa_nil)))) (pa_cons (pe_tup (pa_cons pe_str (pa_cons pe_str (pa_cons (pe_tup (pa_cons pe_str (pa_cons pe_str (pa_cons pe_str (pa_cons pe_int (pa_cons pe_str pa_nil)))))) pa_nil)))) (pa_cons (pe_tup (pa_cons pe_str (pa_cons pe_str (pa_cons (pe_tup (pa_cons pe_str (pa_cons pe_str (pa_cons pe_str (pa_cons pe_int (pa_cons pe_str pa_nil)))))) pa_nil)))) (pa_cons (pe_tup (pa_cons pe_str (pa_cons pe_str (pa_cons (pe_tup pa_nil) pa_nil)))) (pa_cons (pe_tup (pa_cons pe_str (pa_cons pe_str (pa_cons (pe_tup (pa_cons pe_str (pa_cons pe_str (pa_cons pe_str (pa_cons pe_int (pa_cons pe_str pa_nil)))))) pa_nil)))) (pa_cons (pe_tup (pa_cons pe_str (pa_cons pe_str (pa_cons (pe_tup (pa_cons pe_int (pa_cons pe_int (pa_cons pe_int (pa_cons pe_int (pa_cons pe_int (pa_cons pe_int (pa_cons pe_int (pa_cons pe_int pa_nil))))))))) pa_nil)))) (pa_cons (pe_tup (pa_cons pe_str (pa_cons pe_str (pa_cons (pe_tup (pa_cons (pe_tup (pa_cons pe_str (pa_cons pe_str pa_nil))) pa_nil)) pa_nil)))) (pa_cons (pe_tup (pa_cons pe_str (pa_cons pe_str (pa_cons (pe_tup (pa_cons pe_int (pa_cons pe_str pa_nil))) pa_nil)))) (pa_cons (pe_tup (pa_cons pe_str (pa_cons pe_str (pa_cons (pe_tup (pa_cons pe_int (pa_cons pe_str pa_nil))) pa_nil)))) pa_nil))))))))))))))))))))), ?_⟩
   obtain ⟨rfl, hq⟩ := h
   have sm : Same H H := Same.refl'
   have ts : Ts K H ff [] [] := .nil
   walk_at "g"
   intro a_1 h_1
   have s_1 := same_new (o := .tup [.int 1, .int 0, .int 0]) h_1
   have e_1 : (upd H a_1 (.tup [.int 1, .int 0, .int 0])) a_1 = some (.tup [.int 1, .int 0, .int 0]) := upd_same
   have ts := ts.mono s_1
   have sm := sm.trans s_1
   generalize upd H a_1 (.tup [.int 1, .int 0, .int 0]) = G1 at s_1 e_1 ts sm
   have i_1 : T K G1 ff (.ref a_1) (.tup [.int 1, .int 0, .int 0]) := .tup (.inl (.inl e_1)) (.cons (.int _) (.cons (.int _) (.cons (.int _) .nil)))
   walk_at "g"
   intro a_2 h_2
   have s_2 := same_new (o := .tup [.str "spots", .str "c", .ref a_1]) h_2
   have e_2 : (upd G1 a_2 (.tup [.str "spots", .str "c", .ref a_1])) a_2 = some (.tup [.str "spots", .str "c", .ref a_1]) := upd_same
   have ts := ts.mono s_2
   have sm := sm.trans s_2
   have i_1 := i_1.mono s_2
   generalize upd G1 a_2 (.tup [.str "spots", .str "c", .ref a_1]) = G2 at s_2 e_2 ts sm i_1
   have i_2 : T K G2 ff (.ref a_2) (.tup [.str "spots", .str "c", .tup [.int 1, .int 0, .int 0]]) := .tup (.inl (.inl e_2)) (.cons (.str _) (.cons (.str _) (.cons i_1 .nil)))
   have ts := ts.append (.cons i_2 .nil)
   clear i_1
   walk_at "g"
   intro a_3 h_3
   have s_3 := same_new (o := .tup []) h_3
   have e_3 : (upd G2 a_3 (.tup [])) a_3 = some (.tup []) := upd_same
   have ts := ts.mono s_3
   have sm := sm.trans s_3
   generalize upd G2 a_3 (.tup []) = G3 at s_3 e_3 ts sm
   have i_3 : T K G3 ff (.ref a_3) (.tup []) := .tup (.inl (.inl e_3)) .nil
   walk_at "g"
   intro a_4 h_4
   have s_4 := same_new (o := .tup [.str "spots", .str "c", .ref a_3]) h_4
   have e_4 : (upd G3 a_4 (.tup [.str "spots", .str "c", .ref a_3])) a_4 = some (.tup [.str "spots", .str "c", .ref a_3]) := upd_same
   have ts := ts.mono s_4
   have sm := sm.trans s_4
   have i_3 := i_3.mono s_4
   generalize upd G3 a_4 (.tup [.str "spots", .str "c", .ref a_3]) = G4 at s_4 e_4 ts sm i_3
   have i_4 : T K G4 ff (.ref a_4) (.tup [.str "spots", .str "c", .tup []]) := .tup (.inl (.inl e_4)) (.cons (.str _) (.cons (.str _) (.cons i_3 .nil)))
   have ts := ts.append (.cons i_4 .nil)
   clear i_3
   walk_at "g"
   intro a_5 h_5
   have s_5 := same_new (o := .tup [.int 1, .int 0, .int 0]) h_5
   have e_5 : (upd G4 a_5 (.tup [.int 1, .int 0, .int 0])) a_5 = some (.tup [.int 1, .int 0, .int 0]) := upd_same
   have ts := ts.mono s_5
   have sm := sm.trans s_5
   generalize upd G4 a_5 (.tup [.int 1, .int 0, .int 0]) = G5 at s_5 e_5 ts sm
   have i_5 : T K G5 ff (.ref a_5) (.tup [.int 1, .int 0, .int 0]) := .tup (.inl (.inl e_5)) (.cons (.int _) (.cons (.int _) (.cons (.int _) .nil)))
   walk_at "g"
   intro a_6 h_6
   have s_6 := same_new (o := .tup [.str "spots", .str "A", .ref a_5]) h_6
   have e_6 : (upd G5 a_6 (.tup [.str "spots", .str "A", .ref a_5])) a_6 = some (.tup [.str "spots", .str "A", .ref a_5]) := upd_same
   have ts := ts.mono s_6
   have sm := sm.trans s_6
   have i_5 := i_5.mono s_6
   generalize upd G5 a_6 (.tup [.str "spots", .str "A", .ref a_5]) = G6 at s_6 e_6 ts sm i_5
   have i_6 : T K G6 ff (.ref a_6) (.tup [.str "spots", .str "A", .tup [.int 1, .int 0, .int 0]]) := .tup (.inl (.inl e_6)) (.cons (.str _) (.cons (.str _) (.cons i_5 .nil)))
   have ts := ts.append (.cons i_6 .nil)
   clear i_5
   walk_at "g"
   intro a_7 h_7
   have s_7 := same_new (o := .tup [.int 2, .int 3, .int 1]) h_7
   have e_7 : (upd G6 a_7 (.tup [.int 2, .int 3, .int 1])) a_7 = some (.tup [.int 2, .int 3, .int 1]) := upd_same
   have ts := ts.mono s_7
   have sm := sm.trans s_7
   generalize upd G6 a_7 (.tup [.int 2, .int 3, .int 1]) = G7 at s_7 e_7 ts sm
   have i_7 : T K G7 ff (.ref a_7) (.tup [.int 2, .int 3, .int 1]) := .tup (.inl (.inl e_7)) (.cons (.int _) (.cons (.int _) (.cons (.int _) .nil)))
   walk_at "g"
   intro a_8 h_8
   have s_8 := same_new (o := .tup [.str "spots", .str "b1", .ref a_7]) h_8
   have e_8 : (upd G7 a_8 (.tup [.str "spots", .str "b1", .ref a_7])) a_8 = some (.tup [.str "spots", .str "b1", .ref a_7]) := upd_same
   have ts := ts.mono s_8
   have sm := sm.trans s_8
   have i_7 := i_7.mono s_8
   generalize upd G7 a_8 (.tup [.str "spots", .str "b1", .ref a_7]) = G8 at s_8 e_8 ts sm i_7
   have i_8 : T K G8 ff (.ref a_8) (.tup [.str "spots", .str "b1", .tup [.int 2, .int 3, .int 1]]) := .tup (.inl (.inl e_8)) (.cons (.str _) (.cons (.str _) (.cons i_7 .nil)))
   have ts := ts.append (.cons i_8 .nil)
   clear i_7
   walk_at "g"
   intro a_9 h_9
   have s_9 := same_new (o := .tup []) h_9
   have e_9 : (upd G8 a_9 (.tup [])) a_9 = some (.tup []) := upd_same
   have ts := ts.mono s_9
   have sm := sm.trans s_9
   generalize upd G8 a_9 (.tup []) = G9 at s_9 e_9 ts sm
   have i_9 : T K G9 ff (.ref a_9) (.tup []) := .tup (.inl (.inl e_9)) .nil
   walk_at "g"
   intro a_10 h_10
   have s_10 := same_new (o := .tup [.str "doors", .str "d", .ref a_9]) h_10
   have e_10 : (upd G9 a_10 (.tup [.str "doors", .str "d", .ref a_9])) a_10 = some (.tup [.str "doors", .str "d", .ref a_9]) := upd_same
   have ts := ts.mono s_10
   have sm := sm.trans s_10
   have i_9 := i_9.mono s_10
   generalize upd G9 a_10 (.tup [.str "doors", .str "d", .ref a_9]) = G10 at s_10 e_10 ts sm i_9
   have i_10 : T K G10 ff (.ref a_10) (.tup [.str "doors", .str "d", .tup []]) := .tup (.inl (.inl e_10)) (.cons (.str _) (.cons (.str _) (.cons i_9 .nil)))
   have ts := ts.append (.cons i_10 .nil)
   clear i_9
   walk_at "g"
   intro a_11 h_11
   have s_11 := same_new (o := .tup [.str "doors", .str "d", .int 7]) h_11
   have e_11 : (upd G10 a_11 (.tup [.str "doors", .str "d", .int 7])) a_11 = some (.tup [.str "doors", .str "d", .int 7]) := upd_same
   have ts := ts.mono s_11
   have sm := sm.trans s_11
   generalize upd G10 a_11 (.tup [.str "doors", .str "d", .int 7]) = G11 at s_11 e_11 ts sm
   have i_11 : T K G11 ff (.ref a_11) (.tup [.str "doors", .str "d", .int 7]) := .tup (.inl (.inl e_11)) (.cons (.str _) (.cons (.str _) (.cons (.int _) .nil)))
   have ts := ts.append (.cons i_11 .nil)
   walk_at "g"
   intro a_12 h_12
   have s_12 := same_new (o := .tup [.str "doors", .str "d", .int 3]) h_12
   have e_12 : (upd G11 a_12 (.tup [.str "doors", .str "d", .int 3])) a_12 = some (.tup [.str "doors", .str "d", .int 3]) := upd_same
   have ts := ts.mono s_12
   have sm := sm.trans s_12
   generalize upd G11 a_12 (.tup [.str "doors", .str "d", .int 3]) = G12 at s_12 e_12 ts sm
   have i_12 : T K G12 ff (.ref a_12) (.tup [.str "doors", .str "d", .int 3]) := .tup (.inl (.inl e_12)) (.cons (.str _) (.cons (.str _) (.cons (.int _) .nil)))
   have ts := ts.append (.cons i_12 .nil)
   walk_at "g"
   intro a_13 h_13
   have s_13 := same_new (o := .tup []) h_13
   have e_13 : (upd G12 a_13 (.tup [])) a_13 = some (.tup []) := upd_same
   have ts := ts.mono s_13
   have sm := sm.trans s_13
   generalize upd G12 a_13 (.tup []) = G13 at s_13 e_13 ts sm
   have i_13 : T K G13 ff (.ref a_13) (.tup []) := .tup (.inl (.inl e_13)) .nil
   walk_at "g"
   intro a_14 h_14
   have s_14 := same_new (o := .tup [.str "lanes", .str "l", .ref a_13]) h_14
   have e_14 : (upd G13 a_14 (.tup [.str "lanes", .str "l", .ref a_13])) a_14 = some (.tup [.str "lanes", .str "l", .ref a_13]) := upd_same
   have ts := ts.mono s_14
   have sm := sm.trans s_14
   have i_13 := i_13.mono s_14
   generalize upd G13 a_14 (.tup [.str "lanes", .str "l", .ref a_13]) = G14 at s_14 e_14 ts sm i_13
   have i_14 : T K G14 ff (.ref a_14) (.tup [.str "lanes", .str "l", .tup []]) := .tup (.inl (.inl e_14)) (.cons (.str _) (.cons (.str _) (.cons i_13 .nil)))
   have ts := ts.append (.cons i_14 .nil)
   clear i_13
   walk_at "g"
   intro a_15 h_15
   have s_15 := same_new (o := .tup [.str "open"]) h_15
   have e_15 : (upd G14 a_15 (.tup [.str "open"])) a_15 = some (.tup [.str "open"]) := upd_same
   have ts := ts.mono s_15
   have sm := sm.trans s_15
   generalize upd G14 a_15 (.tup [.str "open"]) = G15 at s_15 e_15 ts sm
   have i_15 : T K G15 ff (.ref a_15) (.tup [.str "open"]) := .tup (.inl (.inl e_15)) (.cons (.str _) .nil)
   walk_at "g"
   intro a_16 h_16
   have s_16 := same_new (o := .tup [.str "b1", .str "a", .str "e", .int 2, .int 1, .ref a_15]) h_16
   have e_16 : (upd G15 a_16 (.tup [.str "b1", .str "a", .str "e", .int 2, .int 1, .ref a_15])) a_16 = some (.tup [.str "b1", .str "a", .str "e", .int 2, .int 1, .ref a_15]) := upd_same
   have ts := ts.mono s_16
   have sm := sm.trans s_16
   have i_15 := i_15.mono s_16
   generalize upd G15 a_16 (.tup [.str "b1", .str "a", .str "e", .int 2, .int 1, .ref a_15]) = G16 at s_16 e_16 ts sm i_15
   have i_16 : T K G16 ff (.ref a_16) (.tup [.str "b1", .str "a", .str "e", .int 2, .int 1, .tup [.str "open"]]) := .tup (.inl (.inl e_16)) (.cons (.str _) (.cons (.str _) (.cons (.str _) (.cons (.int _) (.cons (.int _) (.cons i_15 .nil))))))
   walk_at "g"
   intro a_17 h_17
   have s_17 := same_new (o := .tup [.str "lanes", .str "l2", .ref a_16]) h_17
   have e_17 : (upd G16 a_17 (.tup [.str "lanes", .str "l2", .ref a_16])) a_17 = some (.tup [.str "lanes", .str "l2", .ref a_16]) := upd_same
   have ts := ts.mono s_17
   have sm := sm.trans s_17
   have i_15 := i_15.mono s_17
   have i_16 := i_16.mono s_17
   generalize upd G16 a_17 (.tup [.str "lanes", .str "l2", .ref a_16]) = G17 at s_17 e_17 ts sm i_15 i_16
   have i_17 : T K G17 ff (.ref a_17) (.tup [.str "lanes", .str "l2", .tup [.str "b1", .str "a", .str "e", .int 2, .int 1, .tup [.str "open"]]]) := .tup (.inl (.inl e_17)) (.cons (.str _) (.cons (.str _) (.cons i_16 .nil)))
   have ts := ts.append (.cons i_17 .nil)
   clear i_15
   clear i_16
   walk_at "g"
   intro a_18 h_18
   have s_18 := same_new (o := .tup [.str "open"]) h_18
   have e_18 : (upd G17 a_18 (.tup [.str "open"])) a_18 = some (.tup [.str "open"]) := upd_same
   have ts := ts.mono s_18
   have sm := sm.trans s_18
   generalize upd G17 a_18 (.tup [.str "open"]) = G18 at s_18 e_18 ts sm
   have i_18 : T K G18 ff (.ref a_18) (.tup [.str "open"]) := .tup (.inl (.inl e_18)) (.cons (.str _) .nil)
   walk_at "g"
   intro a_19 h_19
   have s_19 := same_new (o := .tup [.str "b1", .str "c", .str "e", .int 2, .int 1, .ref a_18]) h_19
   have e_19 : (upd G18 a_19 (.tup [.str "b1", .str "c", .str "e", .int 2, .int 1, .ref a_18])) a_19 = some (.tup [.str "b1", .str "c", .str "e", .int 2, .int 1, .ref a_18]) := upd_same
   have ts := ts.mono s_19
   have sm := sm.trans s_19
   have i_18 := i_18.mono s_19
   generalize upd G18 a_19 (.tup [.str "b1", .str "c", .str "e", .int 2, .int 1, .ref a_18]) = G19 at s_19 e_19 ts sm i_18
   have i_19 : T K G19 ff (.ref a_19) (.tup [.str "b1", .str "c", .str "e", .int 2, .int 1, .tup [.str "open"]]) := .tup (.inl (.inl e_19)) (.cons (.str _) (.cons (.str _) (.cons (.str _) (.cons (.int _) (.cons (.int _) (.cons i_18 .nil))))))
   walk_at "g"
   intro a_20 h_20
   have s_20 := same_new (o := .tup [.str "lanes", .str "l2", .ref a_19]) h_20
   have e_20 : (upd G19 a_20 (.tup [.str "lanes", .str "l2", .ref a_19])) a_20 = some (.tup [.str "lanes", .str "l2", .ref a_19]) := upd_same
   have ts := ts.mono s_20
   have sm := sm.trans s_20
   have i_18 := i_18.mono s_20
   have i_19 := i_19.mono s_20
   generalize upd G19 a_20 (.tup [.str "lanes", .str "l2", .ref a_19]) = G20 at s_20 e_20 ts sm i_18 i_19
   have i_20 : T K G20 ff (.ref a_20) (.tup [.str "lanes", .str "l2", .tup [.str "b1", .str "c", .str "e", .int 2, .int 1, .tup [.str "open"]]]) := .tup (.inl (.inl e_20)) (.cons (.str _) (.cons (.str _) (.cons i_19 .nil)))
   have ts := ts.append (.cons i_20 .nil)
   clear i_18
   clear i_19
   walk_at "g"
   intro a_21 h_21
   have s_21 := same_new (o := .tup [.str "k", .str "a", .str "e", .int 10, .str "p"]) h_21
   have e_21 : (upd G20 a_21 (.tup [.str "k", .str "a", .str "e", .int 10, .str "p"])) a_21 = some (.tup [.str "k", .str "a", .str "e", .int 10, .str "p"]) := upd_same
   have ts := ts.mono s_21
   have sm := sm.trans s_21
   generalize upd G20 a_21 (.tup [.str "k", .str "a", .str "e", .int 10, .str "p"]) = G21 at s_21 e_21 ts sm
   have i_21 : T K G21 ff (.ref a_21) (.tup [.str "k", .str "a", .str "e", .int 10, .str "p"]) := .tup (.inl (.inl e_21)) (.cons (.str _) (.cons (.str _) (.cons (.str _) (.cons (.int _) (.cons (.str _) .nil)))))
   walk_at "g"
   intro a_22 h_22
   have s_22 := same_new (o := .tup [.str "machines", .str "m", .ref a_21]) h_22
   have e_22 : (upd G21 a_22 (.tup [.str "machines", .str "m", .ref a_21])) a_22 = some (.tup [.str "machines", .str "m", .ref a_21]) := upd_same
   have ts := ts.mono s_22
   have sm := sm.trans s_22
   have i_21 := i_21.mono s_22
   generalize upd G21 a_22 (.tup [.str "machines", .str "m", .ref a_21]) = G22 at s_22 e_22 ts sm i_21
   have i_22 : T K G22 ff (.ref a_22) (.tup [.str "machines", .str "m", .tup [.str "k", .str "a", .str "e", .int 10, .str "p"]]) := .tup (.inl (.inl e_22)) (.cons (.str _) (.cons (.str _) (.cons i_21 .nil)))
   have ts := ts.append (.cons i_22 .nil)
   clear i_21
   walk_at "g"
   intro a_23 h_23
   have s_23 := same_new (o := .tup [.str "k", .str "b1", .str "e", .int 9, .str "p"]) h_23
   have e_23 : (upd G22 a_23 (.tup [.str "k", .str "b1", .str "e", .int 9, .str "p"])) a_23 = some (.tup [.str "k", .str "b1", .str "e", .int 9, .str "p"]) := upd_same
   have ts := ts.mono s_23
   have sm := sm.trans s_23
   generalize upd G22 a_23 (.tup [.str "k", .str "b1", .str "e", .int 9, .str "p"]) = G23 at s_23 e_23 ts sm
   have i_23 : T K G23 ff (.ref a_23) (.tup [.str "k", .str "b1", .str "e", .int 9, .str "p"]) := .tup (.inl (.inl e_23)) (.cons (.str _) (.cons (.str _) (.cons (.str _) (.cons (.int _) (.cons (.str _) .nil)))))
   walk_at "g"
   intro a_24 h_24
   have s_24 := same_new (o := .tup [.str "machines", .str "m", .ref a_23]) h_24
   have e_24 : (upd G23 a_24 (.tup [.str "machines", .str "m", .ref a_23])) a_24 = some (.tup [.str "machines", .str "m", .ref a_23]) := upd_same
   have ts := ts.mono s_24
   have sm := sm.trans s_24
   have i_23 := i_23.mono s_24
   generalize upd G23 a_24 (.tup [.str "machines", .str "m", .ref a_23]) = G24 at s_24 e_24 ts sm i_23
   have i_24 : T K G24 ff (.ref a_24) (.tup [.str "machines", .str "m", .tup [.str "k", .str "b1", .str "e", .int 9, .str "p"]]) := .tup (.inl (.inl e_24)) (.cons (.str _) (.cons (.str _) (.cons i_23 .nil)))
   have ts := ts.append (.cons i_24 .nil)
   clear i_23
   walk_at "g"
   intro a_25 h_25
   have s_25 := same_new (o := .tup []) h_25
   have e_25 : (upd G24 a_25 (.tup [])) a_25 = some (.tup []) := upd_same
   have ts := ts.mono s_25
   have sm := sm.trans s_25
   generalize upd G24 a_25 (.tup []) = G25 at s_25 e_25 ts sm
   have i_25 : T K G25 ff (.ref a_25) (.tup []) := .tup (.inl (.inl e_25)) .nil
   walk_at "g"
   intro a_26 h_26
   have s_26 := same_new (o := .tup [.str "machines", .str "n2", .ref a_25]) h_26
   have e_26 : (upd G25 a_26 (.tup [.str "machines", .str "n2", .ref a_25])) a_26 = some (.tup [.str "machines", .str "n2", .ref a_25]) := upd_same
   have ts := ts.mono s_26
   have sm := sm.trans s_26
   have i_25 := i_25.mono s_26
   generalize upd G25 a_26 (.tup [.str "machines", .str "n2", .ref a_25]) = G26 at s_26 e_26 ts sm i_25
   have i_26 : T K G26 ff (.ref a_26) (.tup [.str "machines", .str "n2", .tup []]) := .tup (.inl (.inl e_26)) (.cons (.str _) (.cons (.str _) (.cons i_25 .nil)))
   have ts := ts.append (.cons i_26 .nil)
   clear i_25
   walk_at "g"
   intro a_27 h_27
   have s_27 := same_new (o := .tup [.str "k", .str "a", .str "n", .int 0, .str "p"]) h_27
   have e_27 : (upd G26 a_27 (.tup [.str "k", .str "a", .str "n", .int 0, .str "p"])) a_27 = some (.tup [.str "k", .str "a", .str "n", .int 0, .str "p"]) := upd_same
   have ts := ts.mono s_27
   have sm := sm.trans s_27
   generalize upd G26 a_27 (.tup [.str "k", .str "a", .str "n", .int 0, .str "p"]) = G27 at s_27 e_27 ts sm
   have i_27 : T K G27 ff (.ref a_27) (.tup [.str "k", .str "a", .str "n", .int 0, .str "p"]) := .tup (.inl (.inl e_27)) (.cons (.str _) (.cons (.str _) (.cons (.str _) (.cons (.int _) (.cons (.str _) .nil)))))
   walk_at "g"
   intro a_28 h_28
   have s_28 := same_new (o := .tup [.str "machines", .str "n2", .ref a_27]) h_28
   have e_28 : (upd G27 a_28 (.tup [.str "machines", .str "n2", .ref a_27])) a_28 = some (.tup [.str "machines", .str "n2", .ref a_27]) := upd_same
   have ts := ts.mono s_28
   have sm := sm.trans s_28
   have i_27 := i_27.mono s_28
   generalize upd G27 a_28 (.tup [.str "machines", .str "n2", .ref a_27]) = G28 at s_28 e_28 ts sm i_27
   have i_28 : T K G28 ff (.ref a_28) (.tup [.str "machines", .str "n2", .tup [.str "k", .str "a", .str "n", .int 0, .str "p"]]) := .tup (.inl (.inl e_28)) (.cons (.str _) (.cons (.str _) (.cons i_27 .nil)))
   have ts := ts.append (.cons i_28 .nil)
   clear i_27
   walk_at "g"
   intro a_29 h_29
   have s_29 := same_new (o := .tup [.int 3, .int 1, .int 0, .int 1, .int 5, .int 9, .int 1, .int 1]) h_29
   have e_29 : (upd G28 a_29 (.tup [.int 3, .int 1, .int 0, .int 1, .int 5, .int 9, .int 1, .int 1])) a_29 = some (.tup [.int 3, .int 1, .int 0, .int 1, .int 5, .int 9, .int 1, .int 1]) := upd_same
   have ts := ts.mono s_29
   have sm := sm.trans s_29
   generalize upd G28 a_29 (.tup [.int 3, .int 1, .int 0, .int 1, .int 5, .int 9, .int 1, .int 1]) = G29 at s_29 e_29 ts sm
   have i_29 : T K G29 ff (.ref a_29) (.tup [.int 3, .int 1, .int 0, .int 1, .int 5, .int 9, .int 1, .int 1]) := .tup (.inl (.inl e_29)) (.cons (.int _) (.cons (.int _) (.cons (.int _) (.cons (.int _) (.cons (.int _) (.cons (.int _) (.cons (.int _) (.cons (.int _) .nil))))))))
   walk_at "g"
   intro a_30 h_30
   have s_30 := same_new (o := .tup [.str "kinds", .str "k", .ref a_29]) h_30
   have e_30 : (upd G29 a_30 (.tup [.str "kinds", .str "k", .ref a_29])) a_30 = some (.tup [.str "kinds", .str "k", .ref a_29]) := upd_same
   have ts := ts.mono s_30
   have sm := sm.trans s_30
   have i_29 := i_29.mono s_30
   generalize upd G29 a_30 (.tup [.str "kinds", .str "k", .ref a_29]) = G30 at s_30 e_30 ts sm i_29
   have i_30 : T K G30 ff (.ref a_30) (.tup [.str "kinds", .str "k", .tup [.int 3, .int 1, .int 0, .int 1, .int 5, .int 9, .int 1, .int 1]]) := .tup (.inl (.inl e_30)) (.cons (.str _) (.cons (.str _) (.cons i_29 .nil)))
   have ts := ts.append (.cons i_30 .nil)
   clear i_29
   walk_at "g"
   intro a_31 h_31
   have s_31 := same_new (o := .tup [.str "go", .str "c"]) h_31
   have e_31 : (upd G30 a_31 (.tup [.str "go", .str "c"])) a_31 = some (.tup [.str "go", .str "c"]) := upd_same
   have ts := ts.mono s_31
   have sm := sm.trans s_31
   generalize upd G30 a_31 (.tup [.str "go", .str "c"]) = G31 at s_31 e_31 ts sm
   have i_31 : T K G31 ff (.ref a_31) (.tup [.str "go", .str "c"]) := .tup (.inl (.inl e_31)) (.cons (.str _) (.cons (.str _) .nil))
   walk_at "g"
   intro a_32 h_32
   have s_32 := same_new (o := .tup [.ref a_31]) h_32
   have e_32 : (upd G31 a_32 (.tup [.ref a_31])) a_32 = some (.tup [.ref a_31]) := upd_same
   have ts := ts.mono s_32
   have sm := sm.trans s_32
   have i_31 := i_31.mono s_32
   generalize upd G31 a_32 (.tup [.ref a_31]) = G32 at s_32 e_32 ts sm i_31
   have i_32 : T K G32 ff (.ref a_32) (.tup [.tup [.str "go", .str "c"]]) := .tup (.inl (.inl e_32)) (.cons i_31 .nil)
   walk_at "g"
   intro a_33 h_33
   have s_33 := same_new (o := .tup [.str "programs", .str "p", .ref a_32]) h_33
   have e_33 : (upd G32 a_33 (.tup [.str "programs", .str "p", .ref a_32])) a_33 = some (.tup [.str "programs", .str "p", .ref a_32]) := upd_same
   have ts := ts.mono s_33
   have sm := sm.trans s_33
   have i_31 := i_31.mono s_33
   have i_32 := i_32.mono s_33
   generalize upd G32 a_33 (.tup [.str "programs", .str "p", .ref a_32]) = G33 at s_33 e_33 ts sm i_31 i_32
   have i_33 : T K G33 ff (.ref a_33) (.tup [.str "programs", .str "p", .tup [.tup [.str "go", .str "c"]]]) := .tup (.inl (.inl e_33)) (.cons (.str _) (.cons (.str _) (.cons i_32 .nil)))
   have ts := ts.append (.cons i_33 .nil)
   clear i_31
   clear i_32
   walk_at "g"
   intro a_34 h_34
   have s_34 := same_new (o := .tup [.int 1, .str "a"]) h_34
   have e_34 : (upd G33 a_34 (.tup [.int 1, .str "a"])) a_34 = some (.tup [.int 1, .str "a"]) := upd_same
   have ts := ts.mono s_34
   have sm := sm.trans s_34
   generalize upd G33 a_34 (.tup [.int 1, .str "a"]) = G34 at s_34 e_34 ts sm
   have i_34 : T K G34 ff (.ref a_34) (.tup [.int 1, .str "a"]) := .tup (.inl (.inl e_34)) (.cons (.int _) (.cons (.str _) .nil))
   walk_at "g"
   intro a_35 h_35
   have s_35 := same_new (o := .tup [.str "parcels", .str "z", .ref a_34]) h_35
   have e_35 : (upd G34 a_35 (.tup [.str "parcels", .str "z", .ref a_34])) a_35 = some (.tup [.str "parcels", .str "z", .ref a_34]) := upd_same
   have ts := ts.mono s_35
   have sm := sm.trans s_35
   have i_34 := i_34.mono s_35
   generalize upd G34 a_35 (.tup [.str "parcels", .str "z", .ref a_34]) = G35 at s_35 e_35 ts sm i_34
   have i_35 : T K G35 ff (.ref a_35) (.tup [.str "parcels", .str "z", .tup [.int 1, .str "a"]]) := .tup (.inl (.inl e_35)) (.cons (.str _) (.cons (.str _) (.cons i_34 .nil)))
   have ts := ts.append (.cons i_35 .nil)
   clear i_34
   walk_at "g"
   intro a_36 h_36
   have s_36 := same_new (o := .tup [.int 1, .str "a"]) h_36
   have e_36 : (upd G35 a_36 (.tup [.int 1, .str "a"])) a_36 = some (.tup [.int 1, .str "a"]) := upd_same
   have ts := ts.mono s_36
   have sm := sm.trans s_36
   generalize upd G35 a_36 (.tup [.int 1, .str "a"]) = G36 at s_36 e_36 ts sm
   have i_36 : T K G36 ff (.ref a_36) (.tup [.int 1, .str "a"]) := .tup (.inl (.inl e_36)) (.cons (.int _) (.cons (.str _) .nil))
   walk_at "g"
   intro a_37 h_37
   have s_37 := same_new (o := .tup [.str "parcels", .str "y", .ref a_36]) h_37
   have e_37 : (upd G36 a_37 (.tup [.str "parcels", .str "y", .ref a_36])) a_37 = some (.tup [.str "parcels", .str "y", .ref a_36]) := upd_same
   have ts := ts.mono s_37
   have sm := sm.trans s_37
   have i_36 := i_36.mono s_37
   generalize upd G36 a_37 (.tup [.str "parcels", .str "y", .ref a_36]) = G37 at s_37 e_37 ts sm i_36
   have i_37 : T K G37 ff (.ref a_37) (.tup [.str "parcels", .str "y", .tup [.int 1, .str "a"]]) := .tup (.inl (.inl e_37)) (.cons (.str _) (.cons (.str _) (.cons i_36 .nil)))
   have ts := ts.append (.cons i_37 .nil)
   clear i_36
   walk_at "g"
   intro r hr
   have s9 := same_new (o := .lst [.ref a_2, .ref a_4, .ref a_6, .ref a_8, .ref a_10, .ref a_11, .ref a_12, .ref a_14, .ref a_17, .ref a_20, .ref a_22, .ref a_24, .ref a_26, .ref a_28, .ref a_30, .ref a_33, .ref a_35, .ref a_37]) hr
   exact hq r _ _ (sm.trans s9) upd_same (ts.mono s9)
  case len =>
   obtain ⟨rfl, _⟩ := h
   rfl

/-! ### the first yard -/
def e201 : Tr := .tup [.int 2, .int 0, .int 1]
def yH0 : Hs := [("spots", []), ("doors", [("d", .int 2)]), ("lifts", []), ("lanes", []), ("kinds", []), ("machines", []), ("parcels", []), ("programs", [("p", .tup [stB false])])]
def spN : List Str := ["a", "b1", "c"]
def spTb (n : Nat) : Tab := (spN.take n).map fun s => (s, e201)
def mcN : List (Str × Str) := [("m", "a"), ("n2", "b1")]
def mcTb (m : Nat) : Tab := (mcN.take m).map fun s => (s.1, mcT "k" s.2 "n" 3 "p")
def lnG (dg : Bool) : Option Str := cond dg (some "d") none
def yB1 (n : Nat) : Hs := put yH0 "spots" (spTb n)
def yB2 (n : Nat) : Hs := put (yB1 n) "kinds" [("k", intsT [1, 1, 0, 1, 5, 9, 1, 1])]
def yB3 (n : Nat) (dg : Bool) : Hs := put (yB2 n) "lanes" [("l", lnT "a" "b1" "-" 1 1 (lnG dg))]
def yBs (n : Nat) (dg : Bool) (m : Nat) : Hs := put (yB3 n dg) "machines" (mcTb m)
theorem n4 {i : Nat} (h : i < 4) : i = 0 ∨ i = 1 ∨ i = 2 ∨ i = 3 := by omega
theorem n3' {i : Nat} (h : i < 3) : i = 0 ∨ i = 1 ∨ i = 2 := by omega
theorem mergeK8 {q1 q2 q3 q4 q5 q6 q7 q8 : V} : mergeK [] [((.inr "spots" : Key), q1), (.inr "doors", q2), (.inr "lifts", q3), (.inr "lanes", q4), (.inr "kinds", q5), (.inr "machines", q6), (.inr "parcels", q7), (.inr "programs", q8)] = [(.inr "spots", q1), (.inr "doors", q2), (.inr "lifts", q3), (.inr "lanes", q4), (.inr "kinds", q5), (.inr "machines", q6), (.inr "parcels", q7), (.inr "programs", q8)] := by kernel_rfl
/-- _law_yard(jar, at) -/
def spYd (K : PySem.W.Frag) : Sp := fun vs H Q _ => ∃ (j a : Addr) (p : Int), vs = [.ref j, .ref a] ∧ Rnd H j a p ∧ p + 10 ≤ lim ∧
  ∀ r n dg m H' p', Kp a H H' → Rnd H' j a p' → p ≤ p' → p' ≤ p + 10 → Own K (fun b => H b = none) H' r (yBs n dg m) → (n = 2 ∨ n = 3) → m ≤ 2 → Q (.ref r) H'
-- _law_yard: 0 jar, 1 at, 2 yard, 3 k
theorem sc_law_yard : FnScope ["jar", "at", "yard", "k"] ["jar", "at"] (defScope s_law_yard) := ⟨rfl, rfl, rfl, by decide +kernel, rfl, by decide +kernel, by decide +kernel⟩
theorem d_law_yard (B : Bt mg) (F : TopF K mg "_law_yard" s_law_yard ["jar", "at"]) (D_law_draw : Df P w K mg base "_law_draw" ["jar", "at", "many"] 1 (spDraw)) : Df P w K mg base "_law_yard" ["jar", "at"] 2 (spYd K) := by
  refine F.df sc_law_yard (fun vs H Q E h => ?len) (fun f cdv A outer s H vs Q E hr h => ?body)
  case body =>
   have hu := hr.units
   refine ⟨_, (pss_cons (ps_set (i := 2) sc_law_yard.nd rfl (Or.inl rfl) (pe_disp (pps_cons pe_str pe_dnewK (pps_cons pe_str (pe_disp (pps_cons pe_str pe_int pps_nil) rfl rfl (fun z => nomatch z) (by decide)) (pps_cons pe_str pe_dnewK (pps_cons pe_str pe_dnewK (pps_cons pe_str pe_dnewK (pps_cons pe_str pe_dnewK (pps_cons pe_str pe_dnewK (pps_cons pe_str (pe_disp (pps_cons pe_str (pe_tup (pa_cons (pe_tup (pa_cons pe_str (pa_cons pe_int pa_nil))) pa_nil)) pps_nil) rfl rfl (fun z => nomatch z) (by decide)) pps_nil)))))))) rfl rfl (fun z => nomatch z) (by decide)))
      (pss_cons (ps_for (passes_of rfl) rfl (pi_range1 (by rfl) B.b_range (pa_cons (pe_op (k_add (K := K) rfl) pe_int (pe_df D_law_draw (hr.mono (by decide)) (fun σ => passAt (takes_of rfl rfl rfl rfl) σ) (pa_cons (pv 0) (pa_cons (pv 1) (pa_cons pe_int pa_nil))))) pa_nil)) (pg_name (i := 3) sc_law_yard.nd rfl (Or.inl rfl))
      (pss_one (ps_asg (pe_tup (pa_cons pe_int (pa_cons pe_int (pa_cons pe_int pa_nil)))) (pg_sub (pe_ix (k_ix (K := K) rfl hu) (pv 2) pe_str (fun _ _ => rfl)) (pe_ix (k_ix (K := K) rfl hu) (pe_lst (pa_cons pe_str (pa_cons pe_str (pa_cons pe_str pa_nil)))) (pv 3) (fun _ _ => rfl)) (set_any hu)))))
      (pss_cons (ps_asg (pe_tup (pa_cons pe_int (pa_cons pe_int (pa_cons pe_int (pa_cons pe_int (pa_cons pe_int (pa_cons pe_int (pa_cons pe_int (pa_cons pe_int pa_nil))))))))) (pg_sub (pe_ix (k_ix (K := K) rfl hu) (pv 2) pe_str (fun _ _ => rfl)) pe_str (set_any hu)))
      (pss_cons (ps_asg (pe_tup (pa_cons pe_str (pa_cons pe_str (pa_cons pe_str (pa_cons pe_int (pa_cons pe_int (pa_cons (pe_ix (k_ix (K := K) rfl hu) (pe_lst (pa_cons (pe_tup (pa_cons pe_str pa_nil)) (pa_cons (pe_tup (pa_cons pe_str (pa_cons pe_str pa_nil))) pa_nil))) (pe_df D_law_draw (hr.mono (by decide)) (fun σ => passAt (takes_of rfl rfl rfl rfl) σ) (pa_cons (pv 0) (pa_cons (pv 1) (pa_cons pe_int pa_nil)))) (fun _ _ => rfl)) pa_nil))))))) (pg_sub (pe_ix (k_ix (K := K) rfl hu) (pv 2) pe_str (fun _ _ => rfl)) pe_str (set_any hu)))
      (pss_cons (ps_for (passes_of rfl) rfl (pi_range1 (by rfl) B.b_range (pa_cons (pe_df D_law_draw (hr.mono (by decide)) (fun σ => passAt (takes_of rfl rfl rfl rfl) σ) (pa_cons (pv 0) (pa_cons (pv 1) (pa_cons pe_int pa_nil)))) pa_nil)) (pg_name (i := 3) sc_law_yard.nd rfl (Or.inl rfl))
      (pss_one (ps_asg (pe_tup (pa_cons pe_str (pa_cons (pe_ix (k_ix (K := K) rfl hu) (pe_lst (pa_cons pe_str (pa_cons pe_str pa_nil))) (pv 3) (fun _ _ => rfl)) (pa_cons pe_str (pa_cons pe_int (pa_cons pe_str pa_nil)))))) (pg_sub (pe_ix (k_ix (K := K) rfl hu) (pv 2) pe_str (fun _ _ => rfl)) (pe_ix (k_ix (K := K) rfl hu) (pe_lst (pa_cons pe_str (pa_cons pe_str pa_nil))) (pv 3) (fun _ _ => rfl)) (set_any hu)))))
      (pss_one (ps_ret (pv 2)))))))), ?_⟩
   obtain ⟨j, a, p0, rfl, R, hp0, hq⟩ := h
   have jH : H j ≠ none := fun c => by
     obtain ⟨_, e, _⟩ := R.ex
     rw [e] at c
     cases c
   walk_at "g"
   intro p hp
   have sp := same_new (o := .dK []) hp
   have ep : (upd H p (.dK [])) p = some (.dK []) := upd_same
   have live : ∀ z ∈ [p], (upd H p (.dK [])) z ≠ none := fun z m => by
     rw [List.mem_singleton.mp m, ep]
     exact fun c => nomatch c
   have nd : [p].Nodup := by simp
   have fr : ∀ z ∈ [p], H z = none := fun z m => by rw [List.mem_singleton.mp m]; exact hp
   generalize upd H p (.dK []) = G0 at sp ep live nd
   walk_at "g"
   have sp_1 := sp
   intro q1 h1
   have s1 : Same G0 (upd G0 q1 (.dK [])) := same_new h1
   have e1 : (upd G0 q1 (.dK [])) q1 = some (.dK []) := upd_same
   have ep := s1 _ _ ep
   have sp := sp.trans s1
   have nd : (q1 :: [p]).Nodup := List.nodup_cons.mpr ⟨fun m => live _ m h1, nd⟩
   have fr : ∀ z ∈ q1 :: [p], H z = none := fun z m => by
     rcases List.mem_cons.mp m with c | m
     · rw [c]; exact sp_1.free h1
     · exact fr z m
   have live : ∀ z ∈ q1 :: [p], (upd G0 q1 (.dK [])) z ≠ none := fun z m => by
     rcases List.mem_cons.mp m with c | m
     · rw [c, e1]; exact fun c => nomatch c
     · exact fun c => live z m (s1.free c)
   generalize upd G0 q1 (.dK []) = G1 at s1 e1 ep sp live
   walk_at "g"
   have sp_2 := sp
   intro q2 h2
   walk_at "g"
   refine ⟨upd_same, [(.inr "d", .int 2)], rfl, by decide, ?_⟩
   rw [show mergeK [] [((.inr "d" : Key), V.int 2)] = [(.inr "d", .int 2)] by kernel_rfl]
   have s2 : Same G1 (upd (upd G1 q2 (.dK [])) q2 (.dK [(.inr "d", .int 2)])) := fun z u e => by
     rw [upd_ne (ne_of_none e h2), upd_ne (ne_of_none e h2)]
     exact e
   have e2 : (upd (upd G1 q2 (.dK [])) q2 (.dK [(.inr "d", .int 2)])) q2 = some (.dK [(.inr "d", .int 2)]) := upd_same
   have ep := s2 _ _ ep
   have sp := sp.trans s2
   have e1 := s2 _ _ e1
   have nd : (q2 :: q1 :: [p]).Nodup := List.nodup_cons.mpr ⟨fun m => live _ m h2, nd⟩
   have fr : ∀ z ∈ q2 :: q1 :: [p], H z = none := fun z m => by
     rcases List.mem_cons.mp m with c | m
     · rw [c]; exact sp_2.free h2
     · exact fr z m
   have live : ∀ z ∈ q2 :: q1 :: [p], (upd (upd G1 q2 (.dK [])) q2 (.dK [(.inr "d", .int 2)])) z ≠ none := fun z m => by
     rcases List.mem_cons.mp m with c | m
     · rw [c, e2]; exact fun c => nomatch c
     · exact fun c => live z m (s2.free c)
   generalize upd (upd G1 q2 (.dK [])) q2 (.dK [(.inr "d", .int 2)]) = G2 at s2 e2 ep sp live e1
   walk_at "g"
   have sp_3 := sp
   intro q3 h3
   have s3 : Same G2 (upd G2 q3 (.dK [])) := same_new h3
   have e3 : (upd G2 q3 (.dK [])) q3 = some (.dK []) := upd_same
   have ep := s3 _ _ ep
   have sp := sp.trans s3
   have e1 := s3 _ _ e1
   have e2 := s3 _ _ e2
   have nd : (q3 :: q2 :: q1 :: [p]).Nodup := List.nodup_cons.mpr ⟨fun m => live _ m h3, nd⟩
   have fr : ∀ z ∈ q3 :: q2 :: q1 :: [p], H z = none := fun z m => by
     rcases List.mem_cons.mp m with c | m
     · rw [c]; exact sp_3.free h3
     · exact fr z m
   have live : ∀ z ∈ q3 :: q2 :: q1 :: [p], (upd G2 q3 (.dK [])) z ≠ none := fun z m => by
     rcases List.mem_cons.mp m with c | m
     · rw [c, e3]; exact fun c => nomatch c
     · exact fun c => live z m (s3.free c)
   generalize upd G2 q3 (.dK []) = G3 at s3 e3 ep sp live e1 e2
   walk_at "g"
   have sp_4 := sp
   intro q4 h4
   have s4 : Same G3 (upd G3 q4 (.dK [])) := same_new h4
   have e4 : (upd G3 q4 (.dK [])) q4 = some (.dK []) := upd_same
   have ep := s4 _ _ ep
   have sp := sp.trans s4
   have e1 := s4 _ _ e1
   have e2 := s4 _ _ e2
   have e3 := s4 _ _ e3
   have nd : (q4 :: q3 :: q2 :: q1 :: [p]).Nodup := List.nodup_cons.mpr ⟨fun m => live _ m h4, nd⟩
   have fr : ∀ z ∈ q4 :: q3 :: q2 :: q1 :: [p], H z = none := fun z m => by
     rcases List.mem_cons.mp m with c | m
     · rw [c]; exact sp_4.free h4
     · exact fr z m
   have live : ∀ z ∈ q4 :: q3 :: q2 :: q1 :: [p], (upd G3 q4 (.dK [])) z ≠ none := fun z m => by
     rcases List.mem_cons.mp m with c | m
     · rw [c, e4]; exact fun c => nomatch c
     · exact fun c => live z m (s4.free c)
   generalize upd G3 q4 (.dK []) = G4 at s4 e4 ep sp live e1 e2 e3
   walk_at "g"
   have sp_5 := sp
   intro q5 h5
   have s5 : Same G4 (upd G4 q5 (.dK [])) := same_new h5
   have e5 : (upd G4 q5 (.dK [])) q5 = some (.dK []) := upd_same
   have ep := s5 _ _ ep
   have sp := sp.trans s5
   have e1 := s5 _ _ e1
   have e2 := s5 _ _ e2
   have e3 := s5 _ _ e3
   have e4 := s5 _ _ e4
   have nd : (q5 :: q4 :: q3 :: q2 :: q1 :: [p]).Nodup := List.nodup_cons.mpr ⟨fun m => live _ m h5, nd⟩
   have fr : ∀ z ∈ q5 :: q4 :: q3 :: q2 :: q1 :: [p], H z = none := fun z m => by
     rcases List.mem_cons.mp m with c | m
     · rw [c]; exact sp_5.free h5
     · exact fr z m
   have live : ∀ z ∈ q5 :: q4 :: q3 :: q2 :: q1 :: [p], (upd G4 q5 (.dK [])) z ≠ none := fun z m => by
     rcases List.mem_cons.mp m with c | m
     · rw [c, e5]; exact fun c => nomatch c
     · exact fun c => live z m (s5.free c)
   generalize upd G4 q5 (.dK []) = G5 at s5 e5 ep sp live e1 e2 e3 e4
   walk_at "g"
   have sp_6 := sp
   intro q6 h6
   have s6 : Same G5 (upd G5 q6 (.dK [])) := same_new h6
   have e6 : (upd G5 q6 (.dK [])) q6 = some (.dK []) := upd_same
   have ep := s6 _ _ ep
   have sp := sp.trans s6
   have e1 := s6 _ _ e1
   have e2 := s6 _ _ e2
   have e3 := s6 _ _ e3
   have e4 := s6 _ _ e4
   have e5 := s6 _ _ e5
   have nd : (q6 :: q5 :: q4 :: q3 :: q2 :: q1 :: [p]).Nodup := List.nodup_cons.mpr ⟨fun m => live _ m h6, nd⟩
   have fr : ∀ z ∈ q6 :: q5 :: q4 :: q3 :: q2 :: q1 :: [p], H z = none := fun z m => by
     rcases List.mem_cons.mp m with c | m
     · rw [c]; exact sp_6.free h6
     · exact fr z m
   have live : ∀ z ∈ q6 :: q5 :: q4 :: q3 :: q2 :: q1 :: [p], (upd G5 q6 (.dK [])) z ≠ none := fun z m => by
     rcases List.mem_cons.mp m with c | m
     · rw [c, e6]; exact fun c => nomatch c
     · exact fun c => live z m (s6.free c)
   generalize upd G5 q6 (.dK []) = G6 at s6 e6 ep sp live e1 e2 e3 e4 e5
   walk_at "g"
   have sp_7 := sp
   intro q7 h7
   have s7 : Same G6 (upd G6 q7 (.dK [])) := same_new h7
   have e7 : (upd G6 q7 (.dK [])) q7 = some (.dK []) := upd_same
   have ep := s7 _ _ ep
   have sp := sp.trans s7
   have e1 := s7 _ _ e1
   have e2 := s7 _ _ e2
   have e3 := s7 _ _ e3
   have e4 := s7 _ _ e4
   have e5 := s7 _ _ e5
   have e6 := s7 _ _ e6
   have nd : (q7 :: q6 :: q5 :: q4 :: q3 :: q2 :: q1 :: [p]).Nodup := List.nodup_cons.mpr ⟨fun m => live _ m h7, nd⟩
   have fr : ∀ z ∈ q7 :: q6 :: q5 :: q4 :: q3 :: q2 :: q1 :: [p], H z = none := fun z m => by
     rcases List.mem_cons.mp m with c | m
     · rw [c]; exact sp_7.free h7
     · exact fr z m
   have live : ∀ z ∈ q7 :: q6 :: q5 :: q4 :: q3 :: q2 :: q1 :: [p], (upd G6 q7 (.dK [])) z ≠ none := fun z m => by
     rcases List.mem_cons.mp m with c | m
     · rw [c, e7]; exact fun c => nomatch c
     · exact fun c => live z m (s7.free c)
   generalize upd G6 q7 (.dK []) = G7 at s7 e7 ep sp live e1 e2 e3 e4 e5 e6
   walk_at "g"
   have sp_8 := sp
   intro q8 h8
   walk_at "g"
   intro t1 ht1
   walk_at "g"
   intro t2 ht2
   walk_at "g"
   have sq1 := same_new (o := .dK []) h8
   have st1 := same_new (o := .tup [.str "wait", .int 1]) ht1
   have st2 := same_new (o := .tup [.ref t1]) ht2
   have eqx := (st1.trans st2) _ _ (upd_same (H := G7) (a := q8) (o := .dK []))
   have et1 := st2 _ _ (upd_same (H := upd G7 q8 (.dK [])) (a := t1) (o := .tup [.str "wait", .int 1]))
   have et2 := upd_same (H := upd (upd G7 q8 (.dK [])) t1 (.tup [.str "wait", .int 1])) (a := t2) (o := .tup [.ref t1])
   have sGt := (sq1.trans st1).trans st2
   refine ⟨eqx, [(.inr "p", .ref t2)], rfl, (show 1 ≤ 15 by decide), ?_⟩
   rw [show mergeK [] [((.inr "p" : Key), V.ref t2)] = [(.inr "p", .ref t2)] by kernel_rfl]
   have s8 : Same G7 (upd (upd (upd (upd G7 q8 (.dK [])) t1 (.tup [.str "wait", .int 1])) t2 (.tup [.ref t1])) q8 (.dK [(.inr "p", .ref t2)])) := fun z u e => by
     rw [upd_ne (ne_of_none e h8)]
     exact sGt _ _ e
   have ne1 : t1 ≠ q8 := (ne_of_none (upd_same (H := G7) (a := q8) (o := .dK [])) ht1).symm
   have ne2 : t2 ≠ q8 := (ne_of_none (st1 _ _ (upd_same (H := G7) (a := q8) (o := .dK []))) ht2).symm
   have et1 : (upd (upd (upd (upd G7 q8 (.dK [])) t1 (.tup [.str "wait", .int 1])) t2 (.tup [.ref t1])) q8 (.dK [(.inr "p", .ref t2)])) t1 = some (.tup [.str "wait", .int 1]) := by rw [upd_ne ne1]; exact et1
   have et2 : (upd (upd (upd (upd G7 q8 (.dK [])) t1 (.tup [.str "wait", .int 1])) t2 (.tup [.ref t1])) q8 (.dK [(.inr "p", .ref t2)])) t2 = some (.tup [.ref t1]) := by rw [upd_ne ne2]; exact et2
   have e8 : (upd (upd (upd (upd G7 q8 (.dK [])) t1 (.tup [.str "wait", .int 1])) t2 (.tup [.ref t1])) q8 (.dK [(.inr "p", .ref t2)])) q8 = some (.dK [(.inr "p", .ref t2)]) := upd_same
   have ep := s8 _ _ ep
   have sp := sp.trans s8
   have e1 := s8 _ _ e1
   have e2 := s8 _ _ e2
   have e3 := s8 _ _ e3
   have e4 := s8 _ _ e4
   have e5 := s8 _ _ e5
   have e6 := s8 _ _ e6
   have e7 := s8 _ _ e7
   have nd : (q8 :: q7 :: q6 :: q5 :: q4 :: q3 :: q2 :: q1 :: [p]).Nodup := List.nodup_cons.mpr ⟨fun m => live _ m h8, nd⟩
   have fr : ∀ z ∈ q8 :: q7 :: q6 :: q5 :: q4 :: q3 :: q2 :: q1 :: [p], H z = none := fun z m => by
     rcases List.mem_cons.mp m with c | m
     · rw [c]; exact sp_8.free h8
     · exact fr z m
   have live : ∀ z ∈ q8 :: q7 :: q6 :: q5 :: q4 :: q3 :: q2 :: q1 :: [p], (upd (upd (upd (upd G7 q8 (.dK [])) t1 (.tup [.str "wait", .int 1])) t2 (.tup [.ref t1])) q8 (.dK [(.inr "p", .ref t2)])) z ≠ none := fun z m => by
     rcases List.mem_cons.mp m with c | m
     · rw [c, e8]; exact fun c => nomatch c
     · exact fun c => live z m (s8.free c)
   generalize upd (upd (upd (upd G7 q8 (.dK [])) t1 (.tup [.str "wait", .int 1])) t2 (.tup [.ref t1])) q8 (.dK [(.inr "p", .ref t2)]) = G8 at s8 e8 ep sp live e1 e2 e3 e4 e5 e6 e7 et1 et2
   walk_at "g"
   refine ⟨ep, [(.inr "spots", .ref q1), (.inr "doors", .ref q2), (.inr "lifts", .ref q3), (.inr "lanes", .ref q4), (.inr "kinds", .ref q5), (.inr "machines", .ref q6), (.inr "parcels", .ref q7), (.inr "programs", .ref q8)], rfl, (show 8 ≤ 15 by decide), ?_⟩
   rw [mergeK8]
   have ndr : (p :: [q1, q2, q3, q4, q5, q6, q7, q8]).Nodup := by
     have z := (List.reverse_perm _).nodup_iff.mpr nd
     exact z
   have npq : ∀ q ∈ [q1, q2, q3, q4, q5, q6, q7, q8], q ≠ p := fun q m c => (List.nodup_cons.mp ndr).1 (by rw [← c]; exact m)
   have e1 : (upd G8 p (.dK [(.inr "spots", .ref q1), (.inr "doors", .ref q2), (.inr "lifts", .ref q3), (.inr "lanes", .ref q4), (.inr "kinds", .ref q5), (.inr "machines", .ref q6), (.inr "parcels", .ref q7), (.inr "programs", .ref q8)])) q1 = some (.dK []) := by rw [upd_ne (npq _ (by simp))]; exact e1
   have e2 : (upd G8 p (.dK [(.inr "spots", .ref q1), (.inr "doors", .ref q2), (.inr "lifts", .ref q3), (.inr "lanes", .ref q4), (.inr "kinds", .ref q5), (.inr "machines", .ref q6), (.inr "parcels", .ref q7), (.inr "programs", .ref q8)])) q2 = some (.dK [(.inr "d", .int 2)]) := by rw [upd_ne (npq _ (by simp))]; exact e2
   have e3 : (upd G8 p (.dK [(.inr "spots", .ref q1), (.inr "doors", .ref q2), (.inr "lifts", .ref q3), (.inr "lanes", .ref q4), (.inr "kinds", .ref q5), (.inr "machines", .ref q6), (.inr "parcels", .ref q7), (.inr "programs", .ref q8)])) q3 = some (.dK []) := by rw [upd_ne (npq _ (by simp))]; exact e3
   have e4 : (upd G8 p (.dK [(.inr "spots", .ref q1), (.inr "doors", .ref q2), (.inr "lifts", .ref q3), (.inr "lanes", .ref q4), (.inr "kinds", .ref q5), (.inr "machines", .ref q6), (.inr "parcels", .ref q7), (.inr "programs", .ref q8)])) q4 = some (.dK []) := by rw [upd_ne (npq _ (by simp))]; exact e4
   have e5 : (upd G8 p (.dK [(.inr "spots", .ref q1), (.inr "doors", .ref q2), (.inr "lifts", .ref q3), (.inr "lanes", .ref q4), (.inr "kinds", .ref q5), (.inr "machines", .ref q6), (.inr "parcels", .ref q7), (.inr "programs", .ref q8)])) q5 = some (.dK []) := by rw [upd_ne (npq _ (by simp))]; exact e5
   have e6 : (upd G8 p (.dK [(.inr "spots", .ref q1), (.inr "doors", .ref q2), (.inr "lifts", .ref q3), (.inr "lanes", .ref q4), (.inr "kinds", .ref q5), (.inr "machines", .ref q6), (.inr "parcels", .ref q7), (.inr "programs", .ref q8)])) q6 = some (.dK []) := by rw [upd_ne (npq _ (by simp))]; exact e6
   have e7 : (upd G8 p (.dK [(.inr "spots", .ref q1), (.inr "doors", .ref q2), (.inr "lifts", .ref q3), (.inr "lanes", .ref q4), (.inr "kinds", .ref q5), (.inr "machines", .ref q6), (.inr "parcels", .ref q7), (.inr "programs", .ref q8)])) q7 = some (.dK []) := by rw [upd_ne (npq _ (by simp))]; exact e7
   have e8 : (upd G8 p (.dK [(.inr "spots", .ref q1), (.inr "doors", .ref q2), (.inr "lifts", .ref q3), (.inr "lanes", .ref q4), (.inr "kinds", .ref q5), (.inr "machines", .ref q6), (.inr "parcels", .ref q7), (.inr "programs", .ref q8)])) q8 = some (.dK [(.inr "p", .ref t2)]) := by rw [upd_ne (npq _ (by simp))]; exact e8
   have tp1 : t1 ≠ p := fun c => by
     rw [c, ep] at et1
     cases et1
   have tp2 : t2 ≠ p := fun c => by
     rw [c, ep] at et2
     cases et2
   have et1 : (upd G8 p (.dK [(.inr "spots", .ref q1), (.inr "doors", .ref q2), (.inr "lifts", .ref q3), (.inr "lanes", .ref q4), (.inr "kinds", .ref q5), (.inr "machines", .ref q6), (.inr "parcels", .ref q7), (.inr "programs", .ref q8)])) t1 = some (.tup [.str "wait", .int 1]) := by rw [upd_ne tp1]; exact et1
   have et2 : (upd G8 p (.dK [(.inr "spots", .ref q1), (.inr "doors", .ref q2), (.inr "lifts", .ref q3), (.inr "lanes", .ref q4), (.inr "kinds", .ref q5), (.inr "machines", .ref q6), (.inr "parcels", .ref q7), (.inr "programs", .ref q8)])) t2 = some (.tup [.ref t1]) := by rw [upd_ne tp2]; exact et2
   have own : Own K (fun b => H b = none) (upd G8 p (.dK [(.inr "spots", .ref q1), (.inr "doors", .ref q2), (.inr "lifts", .ref q3), (.inr "lanes", .ref q4), (.inr "kinds", .ref q5), (.inr "machines", .ref q6), (.inr "parcels", .ref q7), (.inr "programs", .ref q8)])) p yH0 := by
     refine ⟨[q1, q2, q3, q4, q5, q6, q7, q8], _, upd_same, ?_, ndr, fun q m => fr q ?_⟩
     · exact .cons e1 .nil (.cons e2 (.cons (.int 2) .nil) (.cons e3 .nil (.cons e4 .nil (.cons e5 .nil (.cons e6 .nil (.cons e7 .nil (.cons e8 (.cons (.tup (.inl (.inl et2)) (.cons (.tup (.inl (.inl et1)) (.cons (.str _) (.cons (.int _) .nil))) .nil)) .nil) .nil)))))))
     · have z := List.mem_reverse.mpr m
       exact z
   have sHp : Same H (upd G8 p (.dK [(.inr "spots", .ref q1), (.inr "doors", .ref q2), (.inr "lifts", .ref q3), (.inr "lanes", .ref q4), (.inr "kinds", .ref q5), (.inr "machines", .ref q6), (.inr "parcels", .ref q7), (.inr "programs", .ref q8)])) := fun z u e => by
     rw [upd_ne (ne_of_none e hp)]
     exact sp _ _ e
   have R1 := R.same sHp
   have own := own
   generalize upd G8 p (.dK [(.inr "spots", .ref q1), (.inr "doors", .ref q2), (.inr "lifts", .ref q3), (.inr "lanes", .ref q4), (.inr "kinds", .ref q5), (.inr "machines", .ref q6), (.inr "parcels", .ref q7), (.inr "programs", .ref q8)]) = G9 at own sHp R1
   clear e1 e2 e3 e4 e5 e6 e7 e8 et1 et2 ndr npq fr live ep sp nd
   walk_at "g"
   have aH : H a ≠ none := fun c => by
     rw [R.at_] at c
     cases c
   have nba : ∀ b, H b = none → b ≠ a := fun b e c => aH (by rw [← c]; exact e)
   refine ⟨j, a, p0, 2, rfl, R1, by omega, by decide, fun v p1 v0 v1 u0 u1 => ?_⟩
   obtain ⟨k1, rfl⟩ : ∃ k : Nat, v = (k : Int) := ⟨v.toNat, by omega⟩
   have k1' := Kp.upd (H := G9) (a := a) (o := .lst [.int p1])
   have R2 := R1.set (p' := p1) (by have := R1.p0; omega)
   have own := own.kp k1' R1.at_ nba
   have kH : Kp a H (upd G9 a (.lst [.int p1])) := (Kp.of sHp).trans k1'
   generalize upd G9 a (.lst [.int p1]) = G10 at R2 own kH
   walk_at "g"
   refine ⟨_, rfl, by omega, by omega, ?_⟩
   rw [show ((2 : Int) + (k1 : Int)).toNat = 2 + k1 by omega]
   have jl : ∀ {Hx : Hp}, Kp a H Hx → Rnd Hx j a p1 → True := fun _ _ => trivial
   refine for_rng (lo := 0) (n := 2 + k1) (fun i σ Hx => ∃ v3 : Option V, σ = [some (.ref j), some (.ref a), some (.ref p), v3] ∧ Kp a H Hx ∧ Rnd Hx j a p1 ∧ Own K (fun b => H b = none) Hx p (yB1 i)) ?_ ?_ ?_
   · exact ⟨_, rfl, kH, R2, own⟩
   · rintro i σ Hx hi ⟨v3, rfl, kx, Rx, ox⟩
     have hi3 : i < 3 := by omega
     have elk : lk (yB1 i) "spots" = some (spTb i) := by
       rcases n3' hi3 with rfl | rfl | rfl <;> kernel_rfl
     have enx : put (yB1 i) "spots" (put (spTb i) (spN[i]) e201) = yB1 (i + 1) := by
       rcases n3' hi3 with rfl | rfl | rfl <;> kernel_rfl
     walk_at "g"
     intro t1 ht1
     have s1 := same_new (o := .tup [.int 2, .int 0, .int 1]) ht1
     have et1 : (upd Hx t1 (.tup [.int 2, .int 0, .int 1])) t1 = some (.tup [.int 2, .int 0, .int 1]) := upd_same
     have kx := kx.trans (Kp.of s1)
     have Rx := Rx.same s1
     have ox := ox.mono s1
     generalize upd Hx t1 (.tup [.int 2, .int 0, .int 1]) = H1 at s1 et1 kx Rx ox
     obtain ⟨kvs, q, es, z1, z2, z3, z4, zq, _, _, back⟩ := ox.at elk
     walk_at "g"
     refine q_ixK (.inr "spots") (.inl z1) z2 ?_
     walk_at "g"
     intro l1 hl1
     have s2 := same_new (o := .lst [.str "a", .str "b1", .str "c"]) hl1
     walk_at "g"
     refine q_ixL (.inl (.inl upd_same)) (v := .str spN[i]) (by
       rcases n3' hi3 with rfl | rfl | rfl <;> rfl) ?_
     have kx := kx.trans (Kp.of s2)
     have Rx := Rx.same s2
     have ox := ox.mono s2
     have et2 := s2 _ _ et1
     have z1 := s2 _ _ z1
     clear z3 z4 zq back
     generalize upd H1 l1 (.lst [.str "a", .str "b1", .str "c"]) = H2 at kx Rx ox et2 z1
     obtain ⟨kvs', q', es', y1, y2, y3, y4, yq, _, _, back⟩ := ox.at elk
     cases z1.symm.trans y1
     rw [z2] at y2
     cases y2
     have yl : es'.length ≤ 3 := by
       rw [y4.length]
       unfold tK spTb
       rw [List.length_map, List.length_map, List.length_take]
       omega
     refine q_setD (.inr spN[i]) y3 (len_small (by omega)) ?_
     have tn : (nms (spTb i)).Nodup := by rcases n3' hi3 with rfl | rfl | rfl <;> decide +kernel
     have o3 := back (putK es' (.inr spN[i]) (.ref t1)) (put (spTb i) spN[i] e201) (by
       rw [← put_tK tn]
       exact y4.put (.tup (.inl (.inl et2)) (.cons (.int _) (.cons (.int _) (.cons (.int _) .nil)))))
     rw [enx] at o3
     have qa : q ≠ a := nba _ yq
     have qj : q ≠ j := fun c => jH (by rw [← c]; exact yq)
     exact ⟨_, rfl, kx.new yq, Rx.upd y3 qj qa, o3⟩
   · rintro σ Hx ⟨v3, rfl, kx, Rx, ox⟩
     obtain ⟨n, hn, rfl⟩ : ∃ n, (n = 2 ∨ n = 3) ∧ 2 + k1 = n := ⟨2 + k1, by omega, rfl⟩
     generalize 2 + k1 = n at hn ox
     -- the kind
     have lk1 : lk (yB1 n) "kinds" = some [] := by rcases hn with rfl | rfl <;> kernel_rfl
     walk_at "g"
     intro t1 ht1
     have s1 := same_new (o := .tup [.int 1, .int 1, .int 0, .int 1, .int 5, .int 9, .int 1, .int 1]) ht1
     have et1 : (upd Hx t1 (.tup [.int 1, .int 1, .int 0, .int 1, .int 5, .int 9, .int 1, .int 1])) t1 = some (.tup [.int 1, .int 1, .int 0, .int 1, .int 5, .int 9, .int 1, .int 1]) := upd_same
     have kx := kx.trans (Kp.of s1)
     have Rx := Rx.same s1
     have ox := ox.mono s1
     generalize upd Hx t1 (.tup [.int 1, .int 1, .int 0, .int 1, .int 5, .int 9, .int 1, .int 1]) = H1 at s1 et1 kx Rx ox
     obtain ⟨kvs, q, es, z1, z2, z3, z4, zq, _, _, back⟩ := ox.at lk1
     walk_at "g"
     refine q_ixK (.inr "kinds") (.inl z1) z2 ?_
     walk_at "g"
     have el0 : es.length = 0 := by rw [z4.length]; rfl
     refine q_setD (.inr "k") z3 (len_small (by omega)) ?_
     have o2 := back (putK es (.inr "k") (.ref t1)) [("k", intsT [1, 1, 0, 1, 5, 9, 1, 1])] (by
       have z := z4.put (k := .inr "k") (v := .ref t1) (d := intsT [1, 1, 0, 1, 5, 9, 1, 1]) (.tup (.inl (.inl et1)) (.cons (.int _) (.cons (.int _) (.cons (.int _) (.cons (.int _) (.cons (.int _) (.cons (.int _) (.cons (.int _) (.cons (.int _) .nil)))))))))
       exact z)
     have o2 : Own K (fun b => H b = none) (upd H1 q (.dK (putK es (.inr "k") (.ref t1)))) p (yB2 n) := o2
     have kx := kx.new (o := .dK (putK es (.inr "k") (.ref t1))) zq
     have Rx := Rx.upd z3 (o' := .dK (putK es (.inr "k") (.ref t1))) (fun c => jH (by rw [← c]; exact zq)) (nba _ zq)
     generalize upd H1 q (.dK (putK es (.inr "k") (.ref t1))) = H2 at o2 kx Rx
     clear z1 z2 z3 z4 zq back et1 s1
     -- the lane
     walk_at "g"
     intro g1 hg1
     have sg1 := same_new (o := .tup [.str "open"]) hg1
     have eg1 : (upd H2 g1 (.tup [.str "open"])) g1 = some (.tup [.str "open"]) := upd_same
     have kx := kx.trans (Kp.of sg1)
     have Rx := Rx.same sg1
     have o2 := o2.mono sg1
     generalize upd H2 g1 (.tup [.str "open"]) = H3 at sg1 eg1 kx Rx o2
     walk_at "g"
     intro g2 hg2
     have sg2 := same_new (o := .tup [.str "door", .str "d"]) hg2
     have eg2 : (upd H3 g2 (.tup [.str "door", .str "d"])) g2 = some (.tup [.str "door", .str "d"]) := upd_same
     have eg1 := sg2 _ _ eg1
     have kx := kx.trans (Kp.of sg2)
     have Rx := Rx.same sg2
     have o2 := o2.mono sg2
     generalize upd H3 g2 (.tup [.str "door", .str "d"]) = H4 at sg2 eg2 eg1 kx Rx o2
     walk_at "g"
     intro g3 hg3
     have sg3 := same_new (o := .lst [.ref g1, .ref g2]) hg3
     have eg3 : (upd H4 g3 (.lst [.ref g1, .ref g2])) g3 = some (.lst [.ref g1, .ref g2]) := upd_same
     have eg1 := sg3 _ _ eg1
     have eg2 := sg3 _ _ eg2
     have kx := kx.trans (Kp.of sg3)
     have Rx := Rx.same sg3
     have o2 := o2.mono sg3
     have nga : g3 ≠ a := fun c => by
       have := Rx.at_
       rw [← c, eg3] at this
       cases this
     generalize upd H4 g3 (.lst [.ref g1, .ref g2]) = H5 at sg3 eg3 eg2 eg1 kx Rx o2
     walk_at "g"
     refine ⟨j, a, p1, 2, rfl, Rx, by omega, by decide, fun w p2 w0 w1 x0 x1 => ?_⟩
     have k2' := Kp.upd (H := H5) (a := a) (o := .lst [.int p2])
     have kx := kx.trans k2'
     have o2 := o2.kp k2' Rx.at_ nba
     have eg1 : (upd H5 a (.lst [.int p2])) g1 = some (.tup [.str "open"]) := by
       rw [upd_ne (fun c => by rw [c, Rx.at_] at eg1; cases eg1)]
       exact eg1
     have eg2 : (upd H5 a (.lst [.int p2])) g2 = some (.tup [.str "door", .str "d"]) := by
       rw [upd_ne (fun c => by rw [c, Rx.at_] at eg2; cases eg2)]
       exact eg2
     have eg3 : (upd H5 a (.lst [.int p2])) g3 = some (.lst [.ref g1, .ref g2]) := by
       rw [upd_ne nga]
       exact eg3
     have Rx := Rx.set (p' := p2) (by have := Rx.p0; omega)
     generalize upd H5 a (.lst [.int p2]) = H6 at eg1 eg2 eg3 Rx o2 kx
     obtain ⟨dg, gv, hat, hgt⟩ : ∃ (dg : Bool) (gv : Addr), atI [V.ref g1, .ref g2] w = some (.ref gv) ∧ T K H6 ff (.ref gv) (gtT (lnG dg)) := by
       rcases (show w = 0 ∨ w = 1 by omega) with rfl | rfl
       · exact ⟨false, g1, rfl, .tup (.inl (.inl eg1)) (.cons (.str _) .nil)⟩
       · exact ⟨true, g2, rfl, .tup (.inl (.inl eg2)) (.cons (.str _) (.cons (.str _) .nil))⟩
     refine q_ixL (.inl (.inl eg3)) hat ?_
     walk_at "g"
     intro t2 ht2
     have s2 := same_new (o := .tup [.str "a", .str "b1", .str "-", .int 1, .int 1, .ref gv]) ht2
     have et2 : (upd H6 t2 (.tup [.str "a", .str "b1", .str "-", .int 1, .int 1, .ref gv])) t2 = some (.tup [.str "a", .str "b1", .str "-", .int 1, .int 1, .ref gv]) := upd_same
     have hgt := hgt.mono s2
     have kx := kx.trans (Kp.of s2)
     have Rx := Rx.same s2
     have o2 := o2.mono s2
     generalize upd H6 t2 (.tup [.str "a", .str "b1", .str "-", .int 1, .int 1, .ref gv]) = H7 at et2 hgt kx Rx o2
     have lk2 : lk (yB2 n) "lanes" = some [] := by rcases hn with rfl | rfl <;> kernel_rfl
     obtain ⟨kvs, q, es, z1, z2, z3, z4, zq, _, _, back⟩ := o2.at lk2
     walk_at "g"
     refine q_ixK (.inr "lanes") (.inl z1) z2 ?_
     walk_at "g"
     have el0 : es.length = 0 := by rw [z4.length]; rfl
     refine q_setD (.inr "l") z3 (len_small (by omega)) ?_
     have o3 := back (putK es (.inr "l") (.ref t2)) [("l", lnT "a" "b1" "-" 1 1 (lnG dg))] (by
       have z := z4.put (k := .inr "l") (v := .ref t2) (d := lnT "a" "b1" "-" 1 1 (lnG dg)) (.tup (.inl (.inl et2)) (.cons (.str _) (.cons (.str _) (.cons (.str _) (.cons (.int _) (.cons (.int _) (.cons hgt .nil)))))))
       exact z)
     have o3 : Own K (fun b => H b = none) (upd H7 q (.dK (putK es (.inr "l") (.ref t2)))) p (yB3 n dg) := o3
     have kx := kx.new (o := .dK (putK es (.inr "l") (.ref t2))) zq
     have Rx := Rx.upd z3 (o' := .dK (putK es (.inr "l") (.ref t2))) (fun c => jH (by rw [← c]; exact zq)) (nba _ zq)
     generalize upd H7 q (.dK (putK es (.inr "l") (.ref t2))) = H8 at o3 kx Rx
     clear z1 z2 z3 z4 zq back et2 hgt s2 eg1 eg2 eg3 sg1 sg2 sg3 o2
     -- the machines
     walk_at "g"
     refine ⟨j, a, p2, 3, rfl, Rx, by omega, by decide, fun u p3 b0 b1 c0 c1 => ?_⟩
     obtain ⟨k3, rfl⟩ : ∃ k : Nat, u = (k : Int) := ⟨u.toNat, by omega⟩
     have k3' := Kp.upd (H := H8) (a := a) (o := .lst [.int p3])
     have kx := kx.trans k3'
     have o3 := o3.kp k3' Rx.at_ nba
     have Rx := Rx.set (p' := p3) (by have := Rx.p0; omega)
     generalize upd H8 a (.lst [.int p3]) = H9 at Rx o3 kx
     walk_at "g"
     refine ⟨_, rfl, by omega, by omega, ?_⟩
     rw [show (k3 : Int).toNat = k3 by omega]
     have e0 : yB3 n dg = yBs n dg 0 := by
       rcases hn with rfl | rfl <;> kernel_rfl
     rw [e0] at o3
     refine for_rng (lo := 0) (n := k3) (fun i σ Hx => ∃ v3 : Option V, σ = [some (.ref j), some (.ref a), some (.ref p), v3] ∧ Kp a H Hx ∧ Rnd Hx j a p3 ∧ Own K (fun b => H b = none) Hx p (yBs n dg i)) ?_ ?_ ?_
     · exact ⟨_, rfl, kx, Rx, o3⟩
     · rintro i σ Hx hi ⟨v3, rfl, kx, Rx, ox⟩
       have hi2 : i < 2 := by omega
       have hic : i = 0 ∨ i = 1 := by omega
       have elk : lk (yBs n dg i) "machines" = some (mcTb i) := by
         rcases hn with rfl | rfl <;> rcases hic with rfl | rfl <;> kernel_rfl
       have enx : put (yBs n dg i) "machines" (put (mcTb i) ((mcN[i]).1) (mcT "k" ((mcN[i]).2) "n" 3 "p")) = yBs n dg (i + 1) := by
         rcases hn with rfl | rfl <;> rcases hic with rfl | rfl <;> kernel_rfl
       walk_at "g"
       intro l1 hl1
       have s1 := same_new (o := .lst [.str "a", .str "b1"]) hl1
       walk_at "g"
       refine q_ixL (.inl (.inl upd_same)) (v := .str (mcN[i]).2) (by
         rcases hic with rfl | rfl <;> rfl) ?_
       have kx := kx.trans (Kp.of s1)
       have Rx := Rx.same s1
       have ox := ox.mono s1
       generalize upd Hx l1 (.lst [.str "a", .str "b1"]) = H1 at kx Rx ox
       walk_at "g"
       intro t1 ht1
       have s2 := same_new (o := .tup [.str "k", .str (mcN[i]).2, .str "n", .int 3, .str "p"]) ht1
       have et1 : (upd H1 t1 (.tup [.str "k", .str (mcN[i]).2, .str "n", .int 3, .str "p"])) t1 = some (.tup [.str "k", .str (mcN[i]).2, .str "n", .int 3, .str "p"]) := upd_same
       have kx := kx.trans (Kp.of s2)
       have Rx := Rx.same s2
       have ox := ox.mono s2
       generalize upd H1 t1 (.tup [.str "k", .str (mcN[i]).2, .str "n", .int 3, .str "p"]) = H2 at et1 kx Rx ox
       obtain ⟨kvs, q, es, z1, z2, z3, z4, zq, _, _, back⟩ := ox.at elk
       walk_at "g"
       refine q_ixK (.inr "machines") (.inl z1) z2 ?_
       walk_at "g"
       intro l2 hl2
       have s3 := same_new (o := .lst [.str "m", .str "n2"]) hl2
       walk_at "g"
       refine q_ixL (.inl (.inl upd_same)) (v := .str (mcN[i]).1) (by
         rcases hic with rfl | rfl <;> rfl) ?_
       have kx := kx.trans (Kp.of s3)
       have Rx := Rx.same s3
       have ox := ox.mono s3
       have et1 := s3 _ _ et1
       have z1 := s3 _ _ z1
       clear z3 z4 zq back
       generalize upd H2 l2 (.lst [.str "m", .str "n2"]) = H3 at kx Rx ox et1 z1
       obtain ⟨kvs', q', es', y1, y2, y3, y4, yq, _, _, back⟩ := ox.at elk
       cases z1.symm.trans y1
       rw [z2] at y2
       cases y2
       have yl : es'.length ≤ 2 := by
         rw [y4.length]
         unfold tK mcTb
         rw [List.length_map, List.length_map, List.length_take]
         omega
       refine q_setD (.inr (mcN[i]).1) y3 (len_small (by omega)) ?_
       have tn : (nms (mcTb i)).Nodup := by rcases hic with rfl | rfl <;> decide +kernel
       have o4 := back (putK es' (.inr (mcN[i]).1) (.ref t1)) (put (mcTb i) (mcN[i]).1 (mcT "k" ((mcN[i]).2) "n" 3 "p")) (by
         rw [← put_tK tn]
         exact y4.put (.tup (.inl (.inl et1)) (.cons (.str _) (.cons (.str _) (.cons (.str _) (.cons (.int _) (.cons (.str _) .nil)))))))
       rw [enx] at o4
       have qa : q ≠ a := nba _ yq
       have qj : q ≠ j := fun c => jH (by rw [← c]; exact yq)
       exact ⟨_, rfl, kx.new yq, Rx.upd y3 qj qa, o4⟩
     · rintro σ Hx ⟨v3, rfl, kx, Rx, ox⟩
       walk_at "g"
       exact hq p n dg k3 Hx p3 kx Rx (by omega) (by omega) ox hn (by omega)

  case len =>
   obtain ⟨j, a, p0, rfl, _⟩ := h
   rfl

/-! ### the yards of the family: the first one, edits -/
theorem YF.set {h : Hs} (y : YF h) {k : Str} {t t' : Tab} (e : lk h k = some t) (nd : (nms t').Nodup) (ok : ∀ x ∈ t', OkE k x.2 ∧ x.1 ∈ nmOf k) : YF (put h k t') := by
  have m : k ∈ nms h := List.mem_map.mpr ⟨_, lk_mem e, rfl⟩
  refine ⟨y.wf.set nd fun x mx => (ok x mx).1.imm, by rw [nms_put_of m]; exact y.nm, fun q hq => ?_, fun q hq => ?_⟩
  · rcases mem_put hq with h1 | rfl
    · exact y.ok q h1
    · exact fun x mx => (ok x mx).1
  · rcases mem_put hq with h1 | rfl
    · exact y.na q h1
    · exact fun x mx => (ok x mx).2
theorem YF.at {h : Hs} (y : YF h) {k : Str} {t : Tab} (e : lk h k = some t) : (nms t).Nodup ∧ ∀ x ∈ t, OkE k x.2 ∧ x.1 ∈ nmOf k :=
  ⟨(y.wf.tab _ (lk_mem e)).1, fun x m => ⟨y.ok _ (lk_mem e) x m, y.na _ (lk_mem e) x m⟩⟩
theorem YF.add {h : Hs} (y : YF h) {k n : Str} {t : Tab} {d : Tr} (e : lk h k = some t) (ok : OkE k d) (hn : n ∈ nmOf k) : YF (put h k (put t n d)) := by
  obtain ⟨nd, z⟩ := y.at e
  refine y.set e (nd_put nd n d) fun x m => ?_
  rcases mem_put m with m | rfl
  · exact z x m
  · exact ⟨ok, hn⟩
theorem YF.del {h : Hs} (y : YF h) {k n : Str} {t : Tab} (e : lk h k = some t) : YF (put h k (del t n)) := by
  obtain ⟨nd, z⟩ := y.at e
  exact y.set e (nd_del nd n) fun x m => z x (mem_del m)
theorem mem_ordT {t : Tab} {x : Str × Tr} (m : x ∈ ord t) : x ∈ t := by
  obtain ⟨n, hn, e⟩ := List.mem_map.mp (show x ∈ (srt (nms t)).map fun n => (n, (TU.lk t n).getD default) from m)
  obtain ⟨d, hd⟩ := lk_mem_nms ((srt_perm _).mem_iff.mp hn)
  rw [← e]
  show (n, (TU.lk t n).getD default) ∈ t
  rw [hd]
  exact lk_mem hd
theorem YF.cp {h : Hs} (y : YF h) : YF (cpH h) := by
  refine ⟨y.wf.cp, by rw [nms_cp]; exact y.nm, fun q hq x m => ?_, fun q hq x m => ?_⟩
  · obtain ⟨p, hp, rfl⟩ := List.mem_map.mp hq
    exact y.ok p hp x (mem_ordT m)
  · obtain ⟨p, hp, rfl⟩ := List.mem_map.mp hq
    exact y.na p hp x (mem_ordT m)
theorem OkE.sp {a b c : Int} (h : (1 ≤ a ∧ a ≤ 3) ∧ (0 ≤ b ∧ b ≤ 9) ∧ 0 ≤ c ∧ c ≤ 4) : OkE "spots" (intsT [a, b, c]) := .inl ⟨rfl, a, b, c, rfl, h⟩
theorem OkE.dr {i : Int} : OkE "doors" (.int i) := .inr (.inl ⟨rfl, i, rfl⟩)
theorem OkE.ln {s f hd : Str} {x y : Int} {g : Option Str} (h : s ≠ f ∧ (hd = "-" ∨ hd = "e") ∧ (1 ≤ x ∧ x ≤ 4) ∧ 1 ≤ y ∧ y ≤ 3) : OkE "lanes" (lnT s f hd x y g) := .inr (.inr (.inl ⟨rfl, s, f, hd, x, y, g, rfl, h⟩))
theorem OkE.kd {a : Int} (h : 1 ≤ a ∧ a ≤ 3) : OkE "kinds" (intsT [a, 1, 0, 1, 5, 9, 1, 1]) := .inr (.inr (.inr (.inl ⟨rfl, a, rfl, h⟩)))
theorem OkE.mc {k s hd : Str} {ch : Int} {p : Str} (h : hd = "n" ∨ hd = "e") : OkE "machines" (mcT k s hd ch p) := .inr (.inr (.inr (.inr (.inl ⟨rfl, k, s, hd, ch, p, rfl, h⟩))))
theorem OkE.pa {s : Str} : OkE "parcels" (.tup [.int 1, .str s]) := .inr (.inr (.inr (.inr (.inr (.inl ⟨rfl, s, rfl⟩)))))
theorem OkE.pg {b : Bool} : OkE "programs" (.tup [stB b]) := .inr (.inr (.inr (.inr (.inr (.inr ⟨rfl, b, rfl⟩)))))
/-- repr shows it, and that is short -/
def vwb (d : Tr) : Bool := (py d).showable && (py d).leavesShort 13 && decide ((py d).bulk ≤ 100) && decide (dep d ≤ 3) && nol d
abbrev VE (d : Tr) : Prop := vwb d = true
theorem VE.vw {d : Tr} (h : VE d) : Vw 100 3 true d := by
  unfold VE vwb at h
  simp only [Bool.and_eq_true, decide_eq_true_eq] at h
  exact ⟨h.1.1.1.1, h.1.1.1.2, h.1.1.2, h.1.2, fun _ => h.2⟩
theorem tabsL_pla : ∀ k ∈ tabsL, Pla 20 k := by decide +kernel
theorem n13_pla : ∀ k ∈ names13, Pla 20 k := by decide +kernel
theorem YF.vw {g : Hs} (y : YF g) (a : All VE g) : Vw 4080 5 true (.dic (hK g)) := by
  have vk : Vwk ((20 + 488 + 2) * (hK g).length) 4 true (hK g) := Vwk.all fun p hp => by
    obtain ⟨q, hq, rfl⟩ := List.mem_map.mp hp
    refine ⟨⟨q.1, rfl, tabsL_pla _ (by rw [← y.nm]; exact mem_nms hq)⟩, ?_⟩
    have vt : Vwk ((20 + 100 + 2) * (tK q.2).length) 3 true (tK q.2) := Vwk.all fun x hx => by
      obtain ⟨z, hz, rfl⟩ := List.mem_map.mp hx
      exact ⟨⟨z.1, rfl, n13_pla _ (nmOf_sub _ _ (y.na q hq z hz))⟩, VE.vw (a q hq z hz)⟩
    have e : (tK q.2).length = q.2.length := List.length_map _
    exact (Vw.dic vt).le (by rw [e]; have := y.sz q hq; omega) (by decide)
  have e : (hK g).length = g.length := List.length_map _
  exact (Vw.dic vk).le (by rw [e, y.len]; decide) (by decide)
theorem VEput {h : Hs} {t' : Tab} {k : Str} (a : All VE h) (b : ∀ x ∈ t', VE x.2) : All VE (TU.put h k t') := fun q hq => by
  rcases mem_put hq with m | rfl
  · exact a q m
  · exact b
theorem VE_yBs {n m : Nat} (dg : Bool) (hn : n = 2 ∨ n = 3) (hm : m ≤ 2) : All VE (yBs n dg m) := by
  rcases (show m = 0 ∨ m = 1 ∨ m = 2 by omega) with rfl | rfl | rfl <;> rcases hn with rfl | rfl <;> cases dg <;> (show ∀ q ∈ yBs _ _ _, ∀ x ∈ q.2, vwb x.2 = true) <;> decide +kernel
def MnD (d : Tr) : Prop := ∃ (k n : Str) (e : Tr), d = .tup [.str k, .str n, e] ∧ k ∈ tabsL ∧ n ∈ nmOf k ∧ nod e = true ∧ dep e ≤ 60 ∧ (e = .tup [] ∨ (eqb e (.tup []) = false ∧ OkE k e ∧ VE e))
theorem MnD.dr {k n : Str} (h : k ∈ tabsL ∧ n ∈ nmOf k) : MnD (.tup [.str k, .str n, .tup []]) := ⟨k, n, .tup [], rfl, h.1, h.2, rfl, (by decide : (1 : Nat) ≤ 60), .inl rfl⟩
theorem MnD.pt {k n : Str} {e : Tr} (h : k ∈ tabsL ∧ n ∈ nmOf k) (n1 : nod e = true) (n2 : eqb e (.tup []) = false) (n3 : VE e) (ok : OkE k e) : MnD (.tup [.str k, .str n, e]) := ⟨k, n, e, rfl, h.1, h.2, n1, Nat.le_trans ok.dep (by decide), .inr ⟨n2, ok, n3⟩⟩
theorem menu_ok : ∀ d ∈ menuT, MnD d := by
  have z : ∀ {d : Tr} {l : List Tr}, MnD d → (∀ x ∈ l, MnD x) → ∀ x ∈ d :: l, MnD x := fun a b x m => (List.mem_cons.mp m).elim (fun e => e ▸ a) (b x)
  unfold menuT
  refine z (.pt (by decide +kernel) rfl rfl (by kernel_rfl) (.sp (by decide))) ?_
  refine z (.dr (by decide +kernel)) ?_
  refine z (.pt (by decide +kernel) rfl rfl (by kernel_rfl) (.sp (by decide))) ?_
  refine z (.pt (by decide +kernel) rfl rfl (by kernel_rfl) (.sp (by decide))) ?_
  refine z (.dr (by decide +kernel)) ?_
  refine z (.pt (by decide +kernel) rfl rfl (by kernel_rfl) .dr) ?_
  refine z (.pt (by decide +kernel) rfl rfl (by kernel_rfl) .dr) ?_
  refine z (.dr (by decide +kernel)) ?_
  refine z (.pt (by decide +kernel) rfl rfl (by kernel_rfl) (.ln (g := none) (by decide +kernel))) ?_
  refine z (.pt (by decide +kernel) rfl rfl (by kernel_rfl) (.ln (g := none) (by decide +kernel))) ?_
  refine z (.pt (by decide +kernel) rfl rfl (by kernel_rfl) (.mc (by decide +kernel))) ?_
  refine z (.pt (by decide +kernel) rfl rfl (by kernel_rfl) (.mc (by decide +kernel))) ?_
  refine z (.dr (by decide +kernel)) ?_
  refine z (.pt (by decide +kernel) rfl rfl (by kernel_rfl) (.mc (by decide +kernel))) ?_
  refine z (.pt (by decide +kernel) rfl rfl (by kernel_rfl) (.kd (by decide))) ?_
  refine z (.pt (by decide +kernel) rfl rfl (by kernel_rfl) (.pg (b := true))) ?_
  refine z (.pt (by decide +kernel) rfl rfl (by kernel_rfl) .pa) ?_
  refine z (.pt (by decide +kernel) rfl rfl (by kernel_rfl) .pa) ?_
  exact fun _ m => nomatch m
theorem YF0 : YF yH0 := by
  have key : ∀ q ∈ yH0, ∀ x ∈ q.2, OkE q.1 x.2 ∧ x.1 ∈ nmOf q.1 := fun q hq x hx => by
    unfold yH0 at hq
    simp only [List.mem_cons, List.not_mem_nil, or_false] at hq
    rcases hq with rfl | rfl | rfl | rfl | rfl | rfl | rfl | rfl <;> first | (cases hx; done) | skip
    · rw [List.mem_singleton.mp hx]
      exact ⟨.dr, by decide +kernel⟩
    · rw [List.mem_singleton.mp hx]
      exact ⟨.pg, by decide +kernel⟩
  refine ⟨⟨by decide +kernel, fun q hq => ⟨?_, fun x m => (key q hq x m).1.imm⟩⟩, rfl, fun q hq x m => (key q hq x m).1, fun q hq x m => (key q hq x m).2⟩
  revert q
  decide +kernel
theorem YFs {n m : Nat} (dg : Bool) (hn : n = 2 ∨ n = 3) (hm : m ≤ 2) : YF (yBs n dg m) := by
  have a1 : YF (yB1 n) := YF0.set (k := "spots") (t := []) (by kernel_rfl) (by rcases hn with rfl | rfl <;> decide +kernel) fun x hx => by
    obtain ⟨s, hs, rfl⟩ := List.mem_map.mp hx
    have key : ∀ s ∈ spN, s ∈ nmOf "spots" := by decide +kernel
    exact ⟨.sp (by decide), key s (List.mem_of_mem_take hs)⟩
  have a2 : YF (yB2 n) := a1.set (k := "kinds") (t := []) (by rcases hn with rfl | rfl <;> kernel_rfl) (by decide +kernel) fun x hx => by
    rw [List.mem_singleton.mp hx]
    exact ⟨.kd (by decide), by decide +kernel⟩
  have a3 : YF (yB3 n dg) := a2.set (k := "lanes") (t := []) (by rcases hn with rfl | rfl <;> kernel_rfl) (show (["l"] : List Str).Nodup by decide +kernel) fun x hx => by
    rw [List.mem_singleton.mp hx]
    exact ⟨.ln (by decide +kernel), show ("l" : Str) ∈ nmOf "lanes" by decide +kernel⟩
  refine a3.set (k := "machines") (t := []) (by rcases hn with rfl | rfl <;> kernel_rfl) ?_ fun x hx => ?_
  · rcases (show m = 0 ∨ m = 1 ∨ m = 2 by omega) with rfl | rfl | rfl <;> decide +kernel
  · obtain ⟨s, hs, rfl⟩ := List.mem_map.mp hx
    have key : ∀ s ∈ mcN, s.1 ∈ nmOf "machines" := by decide +kernel
    exact ⟨.mc (by decide +kernel), key s (List.mem_of_mem_take hs)⟩
theorem chk_yBs {n m : Nat} (dg : Bool) (hn : n = 2 ∨ n = 3) (hm : m ≤ 2) : chk (yBs n dg m) = none := by
  rcases (show m = 0 ∨ m = 1 ∨ m = 2 by omega) with rfl | rfl | rfl <;> rcases hn with rfl | rfl <;> cases dg <;> kernel_rfl
/-- _law_grown(jar, at, base) -/
def spGw (K : PySem.W.Frag) : Sp := fun vs H Q _ => ∃ (N : Addr → Prop) (j a r : Addr) (p : Int) (h : Hs), vs = [.ref j, .ref a, .ref r] ∧ Rnd H j a p ∧ p + 20 ≤ lim ∧ T K H N (.ref r) (.dic (hK h)) ∧ YF h ∧ All VE h ∧
  ∀ q H' p' g, Kp a H H' → Rnd H' j a p' → p ≤ p' → p' ≤ p + 20 → Own K (fun b => H b = none) H' q g → YF g → All VE g → Q (.ref q) H'
-- _law_grown: 0 jar, 1 at, 2 base, 3 yard, 4 k, 5 key, 6 name, 7 entry
theorem sc_law_grown : FnScope ["jar", "at", "base", "yard", "k", "key", "name", "entry"] ["jar", "at", "base"] (defScope s_law_grown) := ⟨rfl, rfl, rfl, by decide +kernel, rfl, by decide +kernel, by decide +kernel⟩
theorem d_law_grown (B : Bt mg) (F : TopF K mg "_law_grown" s_law_grown ["jar", "at", "base"]) (D_law_copy : Df P w K mg base "_law_copy" ["house"] 1 (spCH K)) (D_law_draw : Df P w K mg base "_law_draw" ["jar", "at", "many"] 1 (spDraw)) (D_law_menu : Df P w K mg base "_law_menu" [] 1 (spMenu K)) : Df P w K mg base "_law_grown" ["jar", "at", "base"] 3 (spGw K) := by
  refine F.df sc_law_grown (fun vs H Q E h => ?len) (fun f cdv A outer s H vs Q E hr h => ?body)
  case body =>
   have hu := hr.units
   refine ⟨_, (pss_cons (ps_set (i := 3) sc_law_grown.nd rfl (Or.inl rfl) (pe_df D_law_copy (hr.mono (by decide)) (fun σ => passAt (takes_of rfl rfl rfl rfl) σ) (pa_cons (pv 2) pa_nil)))
      (pss_cons (ps_for (passes_of rfl) rfl (pi_range1 (by rfl) B.b_range (pa_cons (pe_df D_law_draw (hr.mono (by decide)) (fun σ => passAt (takes_of rfl rfl rfl rfl) σ) (pa_cons (pv 0) (pa_cons (pv 1) (pa_cons pe_int pa_nil)))) pa_nil)) (pg_name (i := 4) sc_law_grown.nd rfl (Or.inl rfl))
      (pss_cons (ps_asg (pe_ix (k_ix (K := K) rfl hu) (pe_dfZ D_law_menu (hr.mono (by decide))) (pe_df D_law_draw (hr.mono (by decide)) (fun σ => passAt (takes_of rfl rfl rfl rfl) σ) (pa_cons (pv 0) (pa_cons (pv 1) (pa_cons pe_int pa_nil)))) (fun _ _ => rfl)) (k_tup (K := K) (n := 3) rfl (by rfl) (pgs_cons (pg_name (i := 5) sc_law_grown.nd rfl (Or.inl rfl)) (pgs_cons (pg_name (i := 6) sc_law_grown.nd rfl (Or.inl rfl)) (pgs_cons (pg_name (i := 7) sc_law_grown.nd rfl (Or.inl rfl)) pgs_nil)))))
      (pss_one (ps_if (pt_cmpR (k_ne (K := K) rfl hu) (pv 7) (pe_tup pa_nil) (nomark _))
      (pss_one (ps_asg (pv 7) (pg_sub (pe_ix (k_ix (K := K) rfl hu) (pv 3) (pv 5) (fun _ _ => rfl)) (pv 6) (set_any hu))))
      (pss_one (ps_if (pt_cmpR (k_in (K := K) rfl hu) (pv 6) (pe_ix (k_ix (K := K) rfl hu) (pv 3) (pv 5) (fun _ _ => rfl)) (by rfl))
      (pss_one (ps_expr (pe_dpop1 (pe_ix (k_ix (K := K) rfl hu) (pv 3) (pv 5) (fun _ _ => rfl)) (pv 6) ⟨rfl, rfl, rfl, rfl⟩)))
      pss_nil))))))
      (pss_one (ps_ret (pe_df D_law_copy (hr.mono (by decide)) (fun σ => passAt (takes_of rfl rfl rfl rfl) σ) (pa_cons (pv 3) pa_nil)))))), ?_⟩
   obtain ⟨N, j, a, r, p0, h, rfl, R, hp0, ho, y, ve, hq⟩ := h
   have jH : H j ≠ none := fun c => by
     obtain ⟨_, e, _⟩ := R.ex
     rw [e] at c
     cases c
   have aH : H a ≠ none := fun c => by
     rw [R.at_] at c
     cases c
   have nba : ∀ b, H b = none → b ≠ a := fun b e c => aH (by rw [← c]; exact e)
   walk_at "g"
   refine ⟨N, r, h, rfl, ho, y.wf, fun q hq => Nat.le_trans (y.sz q hq) (by decide), by rw [y.len]; decide, fun q H1 s1 o1 => ?_⟩
   have R1 := R.same s1
   walk_at "g"
   refine ⟨j, a, p0, 5, rfl, R1, by omega, by decide, fun v p1 v0 v1 u0 u1 => ?_⟩
   obtain ⟨k1, rfl⟩ : ∃ k : Nat, v = (k : Int) := ⟨v.toNat, by omega⟩
   have k1' := Kp.upd (H := H1) (a := a) (o := .lst [.int p1])
   have R2 := R1.set (p' := p1) (by have := R1.p0; omega)
   have o2 := o1.kp k1' R1.at_ nba
   have kH : Kp a H (upd H1 a (.lst [.int p1])) := (Kp.of s1).trans k1'
   generalize upd H1 a (.lst [.int p1]) = H2 at R2 o2 kH
   walk_at "g"
   refine ⟨_, rfl, by omega, by omega, ?_⟩
   rw [show (k1 : Int).toNat = k1 by omega]
   refine for_rng (lo := 0) (n := k1) (fun i σ Hx => ∃ (v5 v6 v7 v8 : Option V) (g : Hs) (p : Int), σ = [some (.ref j), some (.ref a), some (.ref r), some (.ref q), v5, v6, v7, v8] ∧ Kp a H Hx ∧ Rnd Hx j a p ∧ p0 ≤ p ∧ p ≤ p0 + 1 + i ∧ Own K (fun b => H b = none) Hx q g ∧ YF g ∧ All VE g) ?_ ?_ ?_
   · exact ⟨none, none, none, none, _, p1, rfl, kH, R2, by omega, by omega, o2, y.cp, ve.cp⟩
   · rintro i σ Hx hi ⟨v5, v6, v7, v8, g, p, rfl, kx, Rx, pl, ph, ox, yg, vg⟩
     walk_at "g"
     refine ⟨rfl, fun m xs H3 s3 em tm => ?_⟩
     have kx := kx.trans (Kp.of s3)
     have Rx := Rx.same s3
     have ox := ox.mono s3
     walk_at "g"
     refine ⟨j, a, p, 18, rfl, Rx, by omega, by decide, fun v p2 v0 v1 u0 u1 => ?_⟩
     obtain ⟨k2, rfl⟩ : ∃ k : Nat, v = (k : Int) := ⟨v.toNat, by omega⟩
     have k2' := Kp.upd (H := H3) (a := a) (o := .lst [.int p2])
     have ma : m ≠ a := fun c => by
       have z := Rx.at_
       rw [← c, em] at z
       have l := tm.length
       cases z
       rw [show menuT.length = 18 by kernel_rfl] at l
       exact absurd (show 1 = 18 from l) (by decide)
     have em : (upd H3 a (.lst [.int p2])) m = some (.lst xs) := by
       rw [upd_ne ma]
       exact em
     have tm := tm.kp (N' := ff) k2' Rx.at_ fun _ z => z.elim
     have kx := kx.trans k2'
     have ox := ox.kp k2' Rx.at_ nba
     have Rx := Rx.set (p' := p2) (by have := Rx.p0; omega)
     generalize upd H3 a (.lst [.int p2]) = H4 at em tm kx ox Rx
     have hlen : k2 < menuT.length := by
       have : menuT.length = 18 := by kernel_rfl
       omega
     obtain ⟨x, hx, tx⟩ := tm.get' (List.getElem?_eq_getElem hlen)
     obtain ⟨k, n, e, ed, mk, mn, nd, dp, alt⟩ := menu_ok _ (List.getElem_mem hlen)
     rw [ed] at tx
     obtain ⟨b, ws, rfl, hws, tws⟩ := tx.tupAt
     obtain ⟨u, rfl, tu⟩ : ∃ u, ws = [.str k, .str n, u] ∧ T K H4 ff u e := by
       cases tws with
       | cons h1 r => cases r with
         | cons h2 r => cases r with
           | cons h3 r => cases r with
             | nil => exact ⟨_, by rw [h1.strAt, h2.strAt], h3⟩
     refine q_ixL (.inl (.inl em)) (atI_nat hx) ?_
     refine q_gtup hws rfl ?_
     walk_at "g"
     intro t ht
     have s5 := same_new (o := .tup []) ht
     have et : (upd H4 t (.tup [])) t = some (.tup []) := upd_same
     have tu := tu.mono s5
     have kx := kx.trans (Kp.of s5)
     have Rx := Rx.same s5
     have ox := ox.mono s5
     generalize upd H4 t (.tup []) = H5 at et tu kx Rx ox
     refine q_neT (P := ff) tu (.tup (.inl (.inl et)) .nil) nd rfl dp ?_
     obtain ⟨tab, elk⟩ := lk_mem_nms (show k ∈ nms g by rw [yg.nm]; exact mk)
     obtain ⟨kvs, q1, es, z1, z2, z3, z4, zq, _, _, back⟩ := ox.at elk
     have hsz : es.length < sizeLine := by
       have : tab.length ≤ 4 := yg.sz _ (lk_mem elk)
       rw [z4.length]
       unfold tK
       rw [List.length_map]
       exact len_small (by omega)
     have qa : q1 ≠ a := nba _ zq
     have qj : q1 ≠ j := fun c => jH (by rw [← c]; exact zq)
     have wt := yg.wf.tab _ (lk_mem elk)
     rcases alt with rfl | ⟨ne, ok, v3⟩
     · rw [show eqb (.tup []) (.tup []) = true from rfl]
       walk_at "g"
       refine q_ixK (.inr k) (.inl z1) z2 ?_
       refine q_inD (.inr n) (.inl z3) ?_
       cases e2 : lk tab n with
       | some d =>
         obtain ⟨vd, g1, g2⟩ := z4.ent e2
         rw [g1]
         walk_at "g"
         refine q_dpop1 ?_
         walk_at "g"
         refine q_ixK (.inr k) (.inl z1) z2 ?_
         refine ⟨q1, rfl, .inl ⟨es, .inl z3⟩, ?_⟩
         walk_at "g"
         refine ⟨es, .inr n, vd, z3, rfl, g1, ?_⟩
         have o3 := back (dropK es (.inr n)) (del tab n) (by
           rw [← del_tK wt.1]
           exact z4.del _)
         walk_at "g"
         exact ⟨_, _, _, _, _, p2, rfl, kx.new zq, Rx.upd z3 qj qa, by omega, by omega, o3, yg.del elk, VEput vg fun x m => vg _ (lk_mem elk) x (mem_del m)⟩
       | none =>
         rw [z4.nent e2]
         walk_at "g"
         exact ⟨_, _, _, _, _, p2, rfl, kx, Rx, by omega, by omega, ox, yg, vg⟩
     · rw [ne]
       walk_at "g"
       refine q_ixK (.inr k) (.inl z1) z2 ?_
       walk_at "g"
       refine q_setD (.inr n) z3 hsz ?_
       have o3 := back (putK es (.inr n) u) (put tab n e) (by
         rw [← put_tK wt.1]
         exact z4.put tu)
       exact ⟨_, _, _, _, _, p2, rfl, kx.new zq, Rx.upd z3 qj qa, by omega, by omega, o3, yg.add elk ok mn, VEput vg fun x m => (mem_put m).elim (vg _ (lk_mem elk) x) fun e => by rw [e]; exact v3⟩
   · rintro σ Hx ⟨v5, v6, v7, v8, g, p, rfl, kx, Rx, pl, ph, ox, yg, vg⟩
     walk_at "g"
     refine ⟨_, q, g, rfl, ox.T, yg.wf, fun q hq => Nat.le_trans (yg.sz q hq) (by decide), by rw [yg.len]; decide, fun q2 H5 s5 o5 => ?_⟩
     exact hq q2 H5 p _ (kx.trans (Kp.of s5)) (Rx.same s5) pl (by omega) (o5.imp fun b e => kx.fresh Rx.at_ e) yg.cp vg.cp
  case len =>
   obtain ⟨N, j, a, r, p0, h, rfl, _⟩ := h
   rfl

/-! ### the law -/
theorem nod_wd (r : Option Er) : nod (wdT r) = true := by
  cases r with
  | none => rfl
  | some e => cases e <;> rfl
theorem dep_wd (r : Option Er) : dep (wdT r) ≤ 60 := by
  cases r with
  | none => exact (by decide : (0 : Nat) ≤ 60)
  | some e => cases e <;> exact (by decide : (1 : Nat) ≤ 60)
-- law: 0 script, 1 jar, 2 at, 3 base, 4 one, 5 two, 6 before, 7 yard, 8 due, 9 met, 10 told, 11 words, 12 good, 13 key
theorem sc_law : FnScope ["script", "jar", "at", "base", "one", "two", "before", "yard", "due", "met", "told", "words", "good", "key"] ["script"] (defScope s_law) := ⟨rfl, rfl, rfl, by decide +kernel, rfl, by decide +kernel, by decide +kernel⟩
theorem d_law (B : Bt mg) (F : TopF K mg "law" s_law ["script"]) (D_law_words : Df P w K mg base "_law_words" ["yard"] 10 (spEW K)) (D_merge_yards : Df P w K mg base "merge_yards" ["base", "one", "two"] 11 (spMY K)) (D_law_merge : Df P w K mg base "_law_merge" ["base", "one", "two"] 2 (spLM K)) (D_error_words : Df P w K mg base "error_words" ["yard"] 10 (spEW K)) (D_law_grown : Df P w K mg base "_law_grown" ["jar", "at", "base"] 3 (spGw K)) (D_law_yard : Df P w K mg base "_law_yard" ["jar", "at"] 2 (spYd K)) (D_law_jar : Df P w K mg base "_law_jar" ["script"] 1 (spJar K)) : ∃ fa, mg "law" = some (.ref fa) ∧ TopOk P w K mg base fa (spLaw K) := by
  refine top_ok (k := 12) F sc_law ⟨rfl, by decide, by decide⟩ (fun f cdv A s H vs Q E hg hr h => ?body)
  case body =>
   have hu := hr.units
   have hgd : (A.deeper (envOfC "law" (defScope s_law) s.heap.objs.size f cdv)).guards = some [] := hg
   refine ⟨_, (pss_cons (ps_set (i := 1) sc_law.nd rfl (Or.inl rfl) (pe_df D_law_jar (hr.mono (by decide)) (fun σ => passAt (takes_of rfl rfl rfl rfl) σ) (pa_cons (pv 0) pa_nil)))
      (pss_cons (ps_set (i := 2) sc_law.nd rfl (Or.inl rfl) (pe_lst (pa_cons pe_int pa_nil)))
      (pss_cons (ps_set (i := 3) sc_law.nd rfl (Or.inl rfl) (pe_df D_law_yard (hr.mono (by decide)) (fun σ => passAt (takes_of rfl rfl rfl rfl) σ) (pa_cons (pv 1) (pa_cons (pv 2) pa_nil))))
      (pss_cons (ps_set (i := 4) sc_law.nd rfl (Or.inl rfl) (pe_df D_law_grown (hr.mono (by decide)) (fun σ => passAt (takes_of rfl rfl rfl rfl) σ) (pa_cons (pv 1) (pa_cons (pv 2) (pa_cons (pv 3) pa_nil)))))
      (pss_cons (ps_set (i := 5) sc_law.nd rfl (Or.inl rfl) (pe_df D_law_grown (hr.mono (by decide)) (fun σ => passAt (takes_of rfl rfl rfl rfl) σ) (pa_cons (pv 1) (pa_cons (pv 2) (pa_cons (pv 3) pa_nil)))))
      (pss_cons (ps_if (PW.pt (pw_or (pt_cmpR op_notN (pe_df D_law_words (hr.mono (by decide)) (fun σ => passAt (takes_of rfl rfl rfl rfl) σ) (pa_cons (pv 3) pa_nil)) pe_non (nomark _)) (pw_or1 (pt_cmpR op_notN (pe_df D_error_words (hr.mono (by decide)) (fun σ => passAt (takes_of rfl rfl rfl rfl) σ) (pa_cons (pv 3) pa_nil)) pe_non (nomark _)))))
      (pss_one (ps_ret pe_bl))
      pss_nil)
      (pss_cons (ps_set (i := 6) sc_law.nd rfl (Or.inl rfl) (pe_callB (k_repr (K := K) rfl hgd hu) (by rfl) B.b_repr (by decide +kernel) (pa_cons (pe_tup (pa_cons (pv 3) (pa_cons (pv 4) (pa_cons (pv 5) pa_nil)))) pa_nil)))
      (pss_cons (ps_lockU (ps_for (passes_of rfl) rfl (k_walk (K := K) rfl (pe_lst (pa_cons (pv 4) (pa_cons (pv 5) pa_nil)))) (pg_name (i := 7) sc_law.nd rfl (Or.inl rfl))
      (pss_one (ps_if (pt_cmpR (k_ne (K := K) rfl hu) (pe_df D_error_words (hr.mono (by decide)) (fun σ => passAt (takes_of rfl rfl rfl rfl) σ) (pa_cons (pv 7) pa_nil)) (pe_df D_law_words (hr.mono (by decide)) (fun σ => passAt (takes_of rfl rfl rfl rfl) σ) (pa_cons (pv 7) pa_nil)) (nomark _))
      (pss_one (ps_ret pe_bl))
      pss_nil))))
      (pss_cons (ps_asg (pe_df D_law_merge (hr.mono (by decide)) (fun σ => passAt (takes_of rfl rfl rfl rfl) σ) (pa_cons (pv 3) (pa_cons (pv 4) (pa_cons (pv 5) pa_nil)))) (k_tup (K := K) (n := 2) rfl (by rfl) (pgs_cons (pg_name (i := 8) sc_law.nd rfl (Or.inl rfl)) (pgs_cons (pg_name (i := 9) sc_law.nd rfl (Or.inl rfl)) pgs_nil))))
      (pss_cons (ps_set (i := 10) sc_law.nd rfl (Or.inl rfl) (pe_df D_merge_yards (hr.mono (by decide)) (fun σ => passAt (takes_of rfl rfl rfl rfl) σ) (pa_cons (pv 3) (pa_cons (pv 4) (pa_cons (pv 5) pa_nil)))))
      (pss_cons (ps_if (PW.pt (pw_or (pt_not (k_tr (K := K) rfl (pe_callB (k_isi (K := K) rfl) (by rfl) B.b_isinstance (by decide +kernel) (pa_cons (pv 10) (pa_cons (pe_bltn (v := .ty "tuple") (by rfl) B.b_tuple (by decide +kernel) rfl) pa_nil))))) (pw_or1 (pt_cmpR (k_ne (K := K) rfl hu) (pe_callB (k_len (K := K) rfl) (by rfl) B.b_len (by decide +kernel) (pa_cons (pv 10) pa_nil)) pe_int (nomark _)))))
      (pss_one (ps_ret pe_bl))
      pss_nil)
      (pss_cons (ps_set (i := 11) sc_law.nd rfl (Or.inl rfl) (pe_df D_law_words (hr.mono (by decide)) (fun σ => passAt (takes_of rfl rfl rfl rfl) σ) (pa_cons (pv 8) pa_nil)))
      (pss_cons (ps_if (k_tr (K := K) rfl (pv 9))
      (pss_one (ps_set (i := 12) sc_law.nd rfl (Or.inl rfl) (pe_and (pe_cmpR (k_eqW (K := K) rfl hu) (pv 10) (pe_tup (pa_cons pe_str (pa_cons (pv 9) pa_nil))) (nomark _)) (pe_one (pe_callB (k_isi (K := K) rfl) (by rfl) B.b_isinstance (by decide +kernel) (pa_cons (pe_ix (k_ix (K := K) rfl hu) (pv 10) pe_int (fun _ _ => rfl)) (pa_cons (pe_bltn (v := .ty "list") (by rfl) B.b_list (by decide +kernel) rfl) pa_nil)))))))
      (pss_one (ps_if (pt_cmpR op_notN (pv 11) pe_non (nomark _))
      (pss_one (ps_set (i := 12) sc_law.nd rfl (Or.inl rfl) (pe_cmpR (k_eqW (K := K) rfl hu) (pv 10) (pe_tup (pa_cons pe_str (pa_cons (pv 11) pa_nil))) (nomark _))))
      (pss_cons (ps_set (i := 12) sc_law.nd rfl (Or.inl rfl) (pe_and (pe_cmpR (k_eqW (K := K) rfl hu) (pv 10) (pe_tup (pa_cons pe_str (pa_cons (pv 8) pa_nil))) (nomark _)) (pe_one (pe_cmpR (k_eqW (K := K) rfl hu) (pe_callTy (k_list (K := K) rfl rfl) (by rfl) B.b_list (by decide +kernel) (pa_cons (pe_ix (k_ix (K := K) rfl hu) (pv 10) pe_int (fun _ _ => rfl)) pa_nil)) (pe_callTy (k_list (K := K) rfl rfl) (by rfl) B.b_list (by decide +kernel) (pa_cons (pv 3) pa_nil)) (nomark _)))))
      (pss_one (ps_lockU (ps_for (passes_of rfl) rfl (k_walk (K := K) rfl (pv 3)) (pg_name (i := 13) sc_law.nd rfl (Or.inl rfl))
      (pss_one (ps_set (i := 12) sc_law.nd rfl (Or.inl rfl) (pe_and (pv 12) (pe_one (pe_cmpR (k_eqW (K := K) rfl hu) (pe_callTy (k_list (K := K) rfl rfl) (by rfl) B.b_list (by decide +kernel) (pa_cons (pe_ix (k_ix (K := K) rfl hu) (pe_ix (k_ix (K := K) rfl hu) (pv 10) pe_int (fun _ _ => rfl)) (pv 13) (fun _ _ => rfl)) pa_nil)) (pe_callB (k_sort (K := K) rfl rfl) (by rfl) B.b_sorted (by decide +kernel) (pa_cons (pe_ix (k_ix (K := K) rfl hu) (pv 8) (pv 13) (fun _ _ => rfl)) pa_nil)) (nomark _)))))))))))))
      (pss_one (ps_ret (pe_and (pv 12) (pe_one (pe_cmpR (k_eqW (K := K) rfl hu) (pe_callB (k_repr (K := K) rfl hgd hu) (by rfl) B.b_repr (by decide +kernel) (pa_cons (pe_tup (pa_cons (pv 3) (pa_cons (pv 4) (pa_cons (pv 5) pa_nil)))) pa_nil)) (pv 6) (nomark _))))))))))))))))))), ?_⟩
   obtain ⟨a0, ns, rfl, hns, hlen, hq⟩ := h
   walk_at "g"
   refine ⟨a0, ns, rfl, hns, hlen, fun j H1 ms s1 hj0 hj ml mb => ?_⟩
   walk_at "g"
   intro a ha
   have hja : j ≠ a := ne_of_none hj ha
   have s2 := same_new (o := .lst [.int 0]) ha
   have R0 : Rnd (upd H1 a (.lst [.int 0])) j a 0 := ⟨⟨ms, s2 _ _ hj, ml, mb⟩, upd_same, hja, Int.le_refl _⟩
   generalize upd H1 a (.lst [.int 0]) = H2 at R0
   clear s1 s2
   have nb : ∀ {Hx : Hp} {p : Int}, Rnd Hx j a p → ∀ z, Hx z = none → z ≠ a := fun R z e => (R.ja e).2
   walk_at "g"
   refine ⟨j, a, 0, rfl, R0, by decide, fun r n dg m H3 p3 k3 R3 p30 p31 o3 hn hm => ?_⟩
   have yb := YFs dg hn hm
   have vb := VE_yBs dg hn hm
   have cb := chk_yBs dg hn hm
   generalize yBs n dg m = b at o3 yb vb cb
   walk_at "g"
   refine ⟨_, j, a, r, p3, b, rfl, R3, Int.le_trans (show p3 + 20 ≤ 600 by omega) (by decide), o3.T, yb, vb, fun r1 H4 p4 o k4 R4 p40 p41 o4 yo vo => ?_⟩
   have ob4 := (o3.live).kp k4 R3.at_ fun z e => nb R0 z e.1
   walk_at "g"
   refine ⟨_, j, a, r, p4, b, rfl, R4, Int.le_trans (show p4 + 20 ≤ 600 by omega) (by decide), ob4.T, yb, vb, fun r2 H5 p5 t k5 R5 p50 p51 o5 yt vt => ?_⟩
   have ob5 := (ob4.live).kp k5 R4.at_ fun z e => nb R0 z e.1.1
   have oo5 := (o4.live).kp k5 R4.at_ fun z e => nb R3 z e.1
   have tb0 : T K H5 (fun z => H5 z ≠ none) (.ref r) (.dic (hK b)) := (ob5.live.imp fun z e => e.2).T
   have to0 : T K H5 (fun z => H5 z ≠ none) (.ref r1) (.dic (hK o)) := (oo5.live.imp fun z e => e.2).T
   have tt0 : T K H5 (fun z => H5 z ≠ none) (.ref r2) (.dic (hK t)) := (o5.live.imp fun z e => e.2).T
   clear ob4 ob5 oo5 o3 o4 o5
   generalize H5 = G at tb0 to0 tt0
   have NX : ∀ {Hx : Hp} {rx : Addr} {g : Hs}, Same G Hx → T K G (fun z => G z ≠ none) (.ref rx) (.dic (hK g)) → T K Hx (fun z => G z ≠ none) (.ref rx) (.dic (hK g)) := fun {Hx rx g} s t => t.mono s
   walk_at "g"
   refine ⟨_, r, b, rfl, tb0, yb.yg, fun v1 G1 s1 w1 => ?_⟩
   rw [cb] at w1
   cases w1.nonAt
   walk_at "g"
   refine ⟨rfl, false, by rw [decide_eq_true rfl]; rfl, ?_⟩
   walk_at "g"
   refine ⟨_, r, b, rfl, NX s1 tb0, yb.yg, fun v2 G2 s2 w2 => ?_⟩
   rw [cb] at w2
   cases w2.nonAt
   have s12 := s1.trans s2
   walk_at "g"
   refine ⟨rfl, false, by rw [decide_eq_true rfl]; rfl, ?_⟩
   walk_at "g"
   have vB : Vw (4080 + 1 + (4080 + 1 + (4080 + 1 + 0))) 6 true (.tup [.dic (hK b), .dic (hK o), .dic (hK t)]) := Vw.tup (.cons (yb.vw vb) (.cons (yo.vw vo) (.cons (yt.vw vt) .nil)))
   obtain ⟨before, hbef⟩ : ∃ x, x = (py (.tup [.dic (hK b), .dic (hK o), .dic (hK t)])).shown := ⟨_, rfl⟩
   have rep : ∀ {Hx : Hp} {p : Addr} {Q5 : VK}, Same G Hx → Hx p = none → Q5 (.str before) (upd Hx p (.tup [.ref r, .ref r1, .ref r2])) →
       rReprT K [.ref p] (upd Hx p (.tup [.ref r, .ref r1, .ref r2])) Q5 := fun {Hx p Q5} s0 hp k => by
     have s := s0.trans (same_new (o := .tup [.ref r, .ref r1, .ref r2]) hp)
     refine q_reprN (T.tup st_new (.cons (NX s tb0) (.cons (NX s to0) (.cons (NX s tt0) .nil)))) vB (by decide) (by decide) ?_
     rw [← hbef]
     exact k
   intro p0 hp0
   walk_at "g"
   refine rep s12 hp0 ?_
   have sA := s12.trans (same_new (o := .tup [.ref r, .ref r1, .ref r2]) hp0)
   generalize upd G2 p0 (.tup [.ref r, .ref r1, .ref r2]) = GA at sA
   clear hp0 s12 s1 s2 w1 w2
   walk_at "g"
   -- for yard in [one, two]
   refine .inl ?_
   walk_at "g"
   refine q_items ?_
   walk_at "g"
   intro pz hpz
   have sB := sA.trans (same_new (o := .lst [.ref r1, .ref r2]) hpz)
   have hpz9 : (upd GA pz (.lst [.ref r1, .ref r2])) pz = some (.lst (([(r1, o), (r2, t)] : List (Addr × Hs)).map fun z => V.ref z.1)) := upd_same
   refine q_itemsE (xs := ([(r1, o), (r2, t)] : List (Addr × Hs)).map fun z => V.ref z.1) sq_new ?_
   generalize upd GA pz (.lst [.ref r1, .ref r2]) = GB at sB hpz9
   refine for_items (xs := ([(r1, o), (r2, t)] : List (Addr × Hs)).map fun z => V.ref z.1) (fun i σ Hi => ∃ (v7 : Option V), σ = [some (.ref a0), some (.ref j), some (.ref a), some (.ref r), some (.ref r1), some (.ref r2), some (.str before), v7, none, none, none, none, none, none] ∧ Same GB Hi) ?_ ?_ ?_ ?_
   · exact ⟨none, rfl, Same.refl'⟩
   · rintro i σ Hi _ ⟨v7, rfl, si⟩
     exact .inl (.inl (si _ _ hpz9))
   · rintro i x σ Hi hx ⟨v7, rfl, si⟩
     obtain ⟨z, hz, rfl⟩ := map_at hx
     have zz : T K G (fun z => G z ≠ none) (.ref z.1) (.dic (hK z.2)) ∧ YF z.2 := by
       rcases List.mem_cons.mp (mem_at hz) with e | mz
       · rw [e]
         exact ⟨to0, yo⟩
       · rw [List.mem_singleton.mp mz]
         exact ⟨tt0, yt⟩
     obtain ⟨tz, yz⟩ := zz
     have s9 := sB.trans si
     walk_at "g"
     refine ⟨_, z.1, z.2, rfl, NX s9 tz, yz.yg, fun v1 I1 s1 w1 => ?_⟩
     have s91 := s9.trans s1
     walk_at "g"
     refine ⟨_, z.1, z.2, rfl, NX s91 tz, yz.yg, fun v2 I2 s2 w2 => ?_⟩
     refine q_neT (w1.mono s2) w2 (nod_wd _) (nod_wd _) (dep_wd _) ?_
     rw [eqb_refl (nod_wd _)]
     walk_at "g"
     exact ⟨_, rfl, (si.trans s1).trans s2⟩
   · rintro σ Hi ⟨v7, rfl, si⟩
     have sC := sB.trans si
     clear si hpz9
     walk_at "g"
     refine ⟨_, r, r1, r2, b, o, t, rfl, NX sC tb0, NX sC to0, NX sC tt0, yb.mok, yo.mok, yt.mok, by rw [yb.len]; decide, by rw [yo.nm, yb.nm], by rw [yt.nm, yb.nm], fun p2 rd ld ys GD sd hp2 od hld tld => ?_⟩
     refine q_gtup hp2 rfl ?_
     walk_at "g"
     have sD := sC.trans sd
     have ym := yb.merge yo yt
     have td := (od.live.imp (N' := fun z => GD z ≠ none) fun z e => e.2).T
     have fr : ∀ z, Hi z = none → G z = none := fun z e => sC.free e
     refine ⟨_, r, r1, r2, b, o, t, rfl, NX sD tb0, NX sD to0, NX sD tt0, yb, yo, yt, fun hc pt lt' yt' GE se hpt hlt tlt => ?_, fun hc e he pt v GE se hpt tv => ?_, fun hc he pt rt GE se hpt ot => ?_⟩
     · walk_at "g"
       refine q_isiT (.inl (.inl hpt)) ?_
       walk_at "g"
       refine q_lenT (.inl (.inl hpt)) ?_
       refine q_neI ?_
       rw [show (!decide ((([V.str "conflict", V.ref lt'] : List V).length : Int) = 2)) = false from rfl]
       walk_at "g"
       refine ⟨_, rd, mHs5 b o t, rfl, td.mono se, ym.yg, fun vw GF sf _ => ?_⟩
       have sF := (sD.trans se).trans sf
       have hld2 := (se.trans sf) _ _ hld
       have tld2 := tld.mono (se.trans sf)
       have hpt2 := sf _ _ hpt
       have hlt2 := sf _ _ hlt
       have tlt2 := tlt.mono sf
       walk_at "g"
       refine q_trL (.inl (.inl hld2)) ?_
       have ne : (!ys.isEmpty) = true := by
         have l := tld.length
         rw [List.length_map, (srtP_perm _).length_eq] at l
         cases ys with
         | nil => exact absurd (List.length_eq_zero_iff.mp l.symm) hc
         | cons _ _ => rfl
       rw [ne, if_pos rfl]
       walk_at "g"
       intro p5 hp5
       have s5 := same_new (o := .tup [.str "conflict", .ref ld]) hp5
       have e5 : (upd GF p5 (.tup [.str "conflict", .ref ld])) p5 = some (.tup [.str "conflict", .ref ld]) := upd_same
       have sG := sF.trans s5
       have hld2 := s5 _ _ hld2
       have tld2 := tld2.mono s5
       have hpt2 := s5 _ _ hpt2
       have hlt2 := s5 _ _ hlt2
       have tlt2 := tlt2.mono s5
       generalize upd GF p5 (.tup [.str "conflict", .ref ld]) = GG at e5 sG hld2 tld2 hpt2 hlt2 tlt2
       have tC : ∀ {lx pz : Addr} {yx : List V}, GG pz = some (.tup [.str "conflict", .ref lx]) → GG lx = some (.lst yx) → Ts K GG ff yx ((srtP (mCs5 b o t)).map pr) → T K GG (fun _ => True) (.ref pz) (.tup [.str "conflict", .lst ((srtP (mCs5 b o t)).map pr)]) := fun {lx pz yx} e1 e2 t => .tup (.inl (.inl e1)) (.cons (.str _) (.cons (.lst trivial (.inl (.inl e2)) (t.imp fun _ z => z.elim)) .nil))
       have nt : nod (.tup [.str "conflict", .lst ((srtP (mCs5 b o t)).map pr)]) = true := by
         show (true && (nod (.lst ((srtP (mCs5 b o t)).map pr)) && true)) = true
         rw [nod_prs]
         rfl
       refine .inl (q_eqT (P := fun _ => True) (tC hpt2 hlt2 tlt2) (tC e5 hld2 tld2) nt nt ?_ ?_)
       · have z : deps ((srtP (mCs5 b o t)).map pr) ≤ 1 := deps_all fun d hd => by
           obtain ⟨p, _, rfl⟩ := List.mem_map.mp hd
           exact (show 1 ≤ 1 by decide)
         simp only [dep, deps]
         omega
       rw [eqb_refl nt]
       walk_at "g"
       refine q_ixT (.inl (.inl hpt2)) (atI_nat (j := 1) rfl) ?_
       walk_at "g"
       refine q_isiL (.inl (.inl hlt2)) ?_
       walk_at "g"
       intro p6 hp6
       walk_at "g"
       refine rep sG hp6 ?_
       walk_at "g"
       refine .inl (q_eqS ?_)
       rw [decide_eq_true rfl]
       exact hq _
     · walk_at "g"
       refine q_isiT (.inl (.inl hpt)) ?_
       walk_at "g"
       refine q_lenT (.inl (.inl hpt)) ?_
       refine q_neI ?_
       rw [show (!decide ((([V.str "unsound", v] : List V).length : Int) = 2)) = false from rfl]
       walk_at "g"
       refine ⟨_, rd, mHs5 b o t, rfl, td.mono se, ym.yg, fun vw GF sf tw => ?_⟩
       have sF := (sD.trans se).trans sf
       rw [he] at tw
       have tw : T K GF ff vw e.tr := tw
       have hld2 := (se.trans sf) _ _ hld
       have hpt2 := sf _ _ hpt
       have tv2 := tv.mono sf
       have ys0 : ys = [] := by
         rw [hc] at tld
         cases tld
         rfl
       walk_at "g"
       refine q_trL (.inl (.inl hld2)) ?_
       rw [ys0, if_neg (show ¬ (!([] : List V).isEmpty) = true by decide)]
       walk_at "g"
       obtain ⟨q, rfl⟩ : ∃ q, vw = .ref q := by
         cases e <;> exact (T.tupAt tw).elim fun a h => h.elim fun _ h => ⟨a, h.1⟩
       refine ⟨rfl, true, by rw [decide_eq_false (fun c => nomatch c)]; rfl, ?_⟩
       walk_at "g"
       intro p5 hp5
       have s5 := same_new (o := .tup [.str "unsound", .ref q]) hp5
       have e5 : (upd GF p5 (.tup [.str "unsound", .ref q])) p5 = some (.tup [.str "unsound", .ref q]) := upd_same
       have sG := sF.trans s5
       have hpt2 := s5 _ _ hpt2
       have tv2 := tv2.mono s5
       have tw2 := tw.mono s5
       generalize upd GF p5 (.tup [.str "unsound", .ref q]) = GG at e5 sG hpt2 tv2 tw2
       have nt : nod (.tup [.str "unsound", e.tr]) = true := by
         cases e <;> rfl
       refine .inl (q_eqT (P := ff) (.tup (.inl (.inl hpt2)) (.cons (.str _) (.cons tv2 .nil))) (.tup (.inl (.inl e5)) (.cons (.str _) (.cons tw2 .nil))) nt nt ?_ ?_)
       · cases e <;> exact (by decide : (2 : Nat) ≤ 60)
       rw [eqb_refl nt]
       walk_at "g"
       intro p6 hp6
       walk_at "g"
       refine rep sG hp6 ?_
       walk_at "g"
       refine .inl (q_eqS ?_)
       rw [decide_eq_true rfl]
       exact hq _
     · walk_at "g"
       refine q_isiT (.inl (.inl hpt)) ?_
       walk_at "g"
       refine q_lenT (.inl (.inl hpt)) ?_
       refine q_neI ?_
       rw [show (!decide ((([V.str "yard", V.ref rt] : List V).length : Int) = 2)) = false from rfl]
       walk_at "g"
       refine ⟨_, rd, mHs5 b o t, rfl, td.mono se, ym.yg, fun vw GF sf tw => ?_⟩
       have sF := (sD.trans se).trans sf
       rw [he] at tw
       cases tw.nonAt
       have hld2 := (se.trans sf) _ _ hld
       have hpt2 := sf _ _ hpt
       have ot2 := ot.mono sf
       have ys0 : ys = [] := by
         rw [hc] at tld
         cases tld
         rfl
       walk_at "g"
       refine q_trL (.inl (.inl hld2)) ?_
       rw [ys0, if_neg (show ¬ (!([] : List V).isEmpty) = true by decide)]
       walk_at "g"
       refine ⟨rfl, false, by rw [decide_eq_true rfl]; rfl, ?_⟩
       walk_at "g"
       intro p5 hp5
       have s5 := same_new (o := .tup [.str "yard", .ref rd]) hp5
       have e5 : (upd GF p5 (.tup [.str "yard", .ref rd])) p5 = some (.tup [.str "yard", .ref rd]) := upd_same
       have sG := sF.trans s5
       have hpt2 := s5 _ _ hpt2
       have ot2 := ot2.mono s5
       have td2 := td.mono ((se.trans sf).trans s5)
       generalize upd GF p5 (.tup [.str "yard", .ref rd]) = GG at e5 sG hpt2 ot2 td2
       refine .inr ⟨pt, p5, rt, rd, .str "yard", .str "yard", _, _, .str "yard", _, _, ff, ff, rfl, rfl, .inl (.inl hpt2), .inl (.inl e5), ot2.T, td2, fun z n1 n2 => n2 n1, ym.wf, ym.wf, ym.sml, rfl, .str _, .str _, rfl, by decide, ?_⟩
       walk_at "g"
       refine q_ixT (.inl (.inl hpt2)) (atI_nat (j := 1) rfl) ?_
       walk_at "g"
       obtain ⟨rt', kvt, et, _, hrt, tkt⟩ := ot2.T.dicAt
       cases et
       obtain ⟨a', kvs, ea, _, hra0, tka0⟩ := tb0.dicAt
       cases ea
       obtain ⟨rd', kd, ed, _, hrd, tkd⟩ := td2.dicAt
       cases ed
       have hra := Sm.rd sG hra0
       have tka := tka0.mono sG
       have et : kvt.map (·.1) = (nms b).map Sum.inr := by rw [tkt.keys, keys_hK, nms_mHs5]
       have eb : kvs.map (·.1) = (nms b).map Sum.inr := by rw [tka.keys, keys_hK]
       refine q_listK hrt fun q1 hq1 => ?_
       rw [keysV et]
       have s6 := same_new (o := .lst ((nms b).map V.str)) hq1
       have e6 : SqL K (upd GG q1 (.lst ((nms b).map V.str))) q1 ((nms b).map V.str) := sq_new
       generalize upd GG q1 (.lst ((nms b).map V.str)) = GH at s6 e6
       walk_at "g"
       refine q_listK (Sm.rd s6 hra) fun q2 hq2 => ?_
       rw [keysV eb]
       have s7 := same_new (o := .lst ((nms b).map V.str)) hq2
       refine .inl (q_eqSs (Sm.sqL s7 e6) sq_new ?_)
       have s67 := s6.trans s7
       generalize upd GH q2 (.lst ((nms b).map V.str)) = GI at s67
       rw [decide_eq_true rfl]
       have sI := sG.trans s67
       have hra := Sm.rd s67 hra
       have tkA := tka.mono s67
       have hrd := Sm.rd s67 hrd
       have hrt := Sm.rd s67 hrt
       have tkD := tkd.mono s67
       have tkT := tkt.mono s67
       have hpt3 : SqT K GI pt [.str "yard", .ref rt] := .inl (.inl (s67 _ _ hpt2))
       walk_at "g"
       refine q_lockS hra fun Hl od un D' lkd hD' => ?_
       walk_at "g"
       refine q_keys ?_
       walk_at "g"
       refine q_keysE lkd.at_ ?_
       refine for_keysS (kvs := kvs) (fun i σ Hi => ∃ (v7 v13 : Option V), σ = [some (.ref a0), some (.ref j), some (.ref a), some (.ref r), some (.ref r1), some (.ref r2), some (.str before), v7, some (.ref rd), some (.ref ld), some (.ref pt), some .non, some (.bl true), v13] ∧ Lk1 GI r kvs od Hi) ?_ ?_ ?_ ?_
       · exact ⟨_, none, rfl, lkd.l1⟩
       · rintro i σ Hi _ ⟨v7, v13, rfl, l1⟩
         exact l1.at_
       · rintro i k v σ Hi hkv ⟨v7, v13, rfl, li⟩
         obtain ⟨d0, g1, g2⟩ := Tk.at tkA hkv
         obtain ⟨n, t0, hn, rfl, rfl⟩ := hK_at g1
         have hnD : n ∈ nms (mHs5 b o t) := by rw [nms_mHs5]; exact mem_nms (mem_at hn)
         obtain ⟨tD, eD⟩ := lk_mem_nms hnD
         have hasc : srt (nms tD) = nms tD := srt_of_asc (by
           obtain ⟨k', _, e'⟩ := List.mem_map.mp (lk_mem eD)
           cases e'
           exact List.Pairwise.sublist (nms_fm _ _) asc5)
         have lD : tD.length ≤ 4 := ym.sz _ (lk_mem eD)
         obtain ⟨qd, ed2, z1, _, z2, z3⟩ := T.tab tkD eD
         obtain ⟨qt, et2, y1, _, y2, y3⟩ := T.tab tkT eD
         have rs := li.rs hra
         walk_at "g"
         refine q_ixT (rs.sqT hpt3) (atI_nat (j := 1) rfl) ?_
         walk_at "g"
         refine q_ixK (.inr n) (rs.dk hrt) y1 ?_
         walk_at "g"
         refine q_listK (rs.dk y2) fun q3 hq3 => ?_
         rw [keysV (show et2.map (·.1) = (nms tD).map Sum.inr by rw [y3.keys, keys_tK])]
         have l2 := li.same (same_new (o := .lst ((nms tD).map V.str)) hq3)
         have e8 : SqL K (upd Hi q3 (.lst ((nms tD).map V.str))) q3 ((nms tD).map V.str) := sq_new
         generalize upd Hi q3 (.lst ((nms tD).map V.str)) = Hj at l2 e8
         have rs2 := l2.rs hra
         walk_at "g"
         refine q_ixK (.inr n) (rs2.dk hrd) z1 ?_
         walk_at "g"
         refine q_sortD (ks := nms tD) (rs2.dk z2) (by rw [z3.keys, keys_tK]) (by rw [nms_len]; omega) fun q4 hq4 => ?_
         have s9 := same_new (o := .lst ((srt (nms tD)).map V.str)) hq4
         refine .inl (q_eqSs (Sm.sqL s9 e8) sq_new ?_)
         rw [hasc, decide_eq_true rfl]
         walk_at "g"
         exact ⟨_, _, rfl, l2.same (by rw [hasc] at s9; exact s9)⟩
       · rintro σ Hi ⟨v7, v13, rfl, li⟩
         refine hD'.nx _ _ li.at_ ?_
         have sO := li.out lkd Same.refl'
         have sJ := sI.trans sO
         generalize un Hi = Hw at sJ
         walk_at "g"
         intro p6 hp6
         walk_at "g"
         refine rep sJ hp6 ?_
         walk_at "g"
         refine .inl (q_eqS ?_)
         rw [decide_eq_true rfl]
         exact hq _

end
end K82
open PySem PySem.W PyProof.Rows
set_option maxRecDepth 100000 in
set_option maxHeartbeats 0 in
theorem PySem.Challenge.cw_trundleyard_k82_yard_merges_holds : PySem.Challenge.rw_trundleyard_k82_yard_merges.Holds := by
  w_on; o_law; k_head; (case hw => w_witness2)
  k_fill
  refine TU.top_walk (l := PySem.Challenge.rw_trundleyard_k82_yard_merges) rfl rfl (fun w h Y => PySem.W.kIn_of Y) ?F
  case F =>
    intro w mg fa h KX G hmg base KB GB
    have z_len : mg "len" = none := PySem.W.mg_none_of KX G (by k_is)
    have z_abs : mg "abs" = none := PySem.W.mg_none_of KX G (by k_is)
    have z_repr : mg "repr" = none := PySem.W.mg_none_of KX G (by k_is)
    have z_isinstance : mg "isinstance" = none := PySem.W.mg_none_of KX G (by k_is)
    have z_sorted : mg "sorted" = none := PySem.W.mg_none_of KX G (by k_is)
    have z_all : mg "all" = none := PySem.W.mg_none_of KX G (by k_is)
    have z_any : mg "any" = none := PySem.W.mg_none_of KX G (by k_is)
    have z_sum : mg "sum" = none := PySem.W.mg_none_of KX G (by k_is)
    have z_max : mg "max" = none := PySem.W.mg_none_of KX G (by k_is)
    have z_min : mg "min" = none := PySem.W.mg_none_of KX G (by k_is)
    have z_range : mg "range" = none := PySem.W.mg_none_of KX G (by k_is)
    have z_enumerate : mg "enumerate" = none := PySem.W.mg_none_of KX G (by k_is)
    have z_zip : mg "zip" = none := PySem.W.mg_none_of KX G (by k_is)
    have z_reversed : mg "reversed" = none := PySem.W.mg_none_of KX G (by k_is)
    have z_int : mg "int" = none := PySem.W.mg_none_of KX G (by k_is)
    have z_bool : mg "bool" = none := PySem.W.mg_none_of KX G (by k_is)
    have z_str : mg "str" = none := PySem.W.mg_none_of KX G (by k_is)
    have z_list : mg "list" = none := PySem.W.mg_none_of KX G (by k_is)
    have z_dict : mg "dict" = none := PySem.W.mg_none_of KX G (by k_is)
    have z_tuple : mg "tuple" = none := PySem.W.mg_none_of KX G (by k_is)
    have z_set : mg "set" = none := PySem.W.mg_none_of KX G (by k_is)
    have B : TU.Bt mg := ⟨z_len, z_abs, z_repr, z_isinstance, z_sorted, z_all, z_any, z_sum, z_max, z_min, z_range, z_enumerate, z_zip, z_reversed, z_int, z_bool, z_str, z_list, z_dict, z_tuple, z_set⟩
    have G_DIGITS : ∃ t, mg "DIGITS" = some (.str "0123456789" t) := by
      refine' TU.glob_str KX G ?zgDIGITSa
      (case zgDIGITSa => k_is)
    have G_LETTERS : ∃ t, mg "LETTERS" = some (.str "abcdefghijklmnopqrstuvwxyz" t) := by
      refine' TU.glob_str KX G ?zgLETTERSa
      (case zgLETTERSa => k_is)
    obtain ⟨A_PLURAL, G_PLURAL, W_PLURAL⟩ : ∃ A, mg "PLURAL" = some (.ref A) ∧ TU.GD (L2.KOf KX) w A K82.gt_PLURAL := by
      unfold L2.KOf
      refine' TU.glob_dict (ks := K82.gt_PLURAL.map (·.1)) KX G ?zgPLURALa ?zgPLURALl ?zgPLURALm
      (case zgPLURALa => k_is); (case zgPLURALl => kernel_rfl); (case zgPLURALm => kernel_rfl)
    obtain ⟨A_HEADINGS_program, G_HEADINGS_program, W_HEADINGS_program⟩ : ∃ A, mg "HEADINGS_program" = some (.ref A) ∧ ∀ H P, TU.T (L2.KOf KX) H P (.ref A) K82.gt_HEADINGS_program := by
      unfold L2.KOf
      refine' TU.glob_tree (n := 20) KX G ?zgHEADINGS_programa ?zgHEADINGS_programl
      (case zgHEADINGS_programa => k_is); (case zgHEADINGS_programl => kernel_rfl)
    obtain ⟨A_REGISTERS, G_REGISTERS, W_REGISTERS⟩ : ∃ A, mg "REGISTERS" = some (.ref A) ∧ ∀ H P, TU.T (L2.KOf KX) H P (.ref A) K82.gt_REGISTERS := by
      unfold L2.KOf
      refine' TU.glob_tree (n := 20) KX G ?zgREGISTERSa ?zgREGISTERSl
      (case zgREGISTERSa => k_is); (case zgREGISTERSl => kernel_rfl)
    obtain ⟨A_RANGES, G_RANGES, W_RANGES⟩ : ∃ A, mg "RANGES" = some (.ref A) ∧ TU.GD (L2.KOf KX) w A K82.gt_RANGES := by
      unfold L2.KOf
      refine' TU.glob_dict (ks := K82.gt_RANGES.map (·.1)) KX G ?zgRANGESa ?zgRANGESl ?zgRANGESm
      (case zgRANGESa => k_is); (case zgRANGESl => kernel_rfl); (case zgRANGESm => kernel_rfl)
    obtain ⟨A_PARTS, G_PARTS, W_PARTS⟩ : ∃ A, mg "PARTS" = some (.ref A) ∧ TU.GD (L2.KOf KX) w A K82.gt_PARTS := by
      unfold L2.KOf
      refine' TU.glob_dict (ks := K82.gt_PARTS.map (·.1)) KX G ?zgPARTSa ?zgPARTSl ?zgPARTSm
      (case zgPARTSa => k_is); (case zgPARTSl => kernel_rfl); (case zgPARTSm => kernel_rfl)
    have G_MOST_EITHER : ∃ t, mg "MOST_EITHER" = some (.int 4 t) := by
      refine' TU.glob_int KX G ?zgMOST_EITHERa
      (case zgMOST_EITHERa => k_is)
    have G_MOST_DEPTH : ∃ t, mg "MOST_DEPTH" = some (.int 4 t) := by
      refine' TU.glob_int KX G ?zgMOST_DEPTHa
      (case zgMOST_DEPTHa => k_is)
    have G_MOST_STATEMENTS : ∃ t, mg "MOST_STATEMENTS" = some (.int 40 t) := by
      refine' TU.glob_int KX G ?zgMOST_STATEMENTSa
      (case zgMOST_STATEMENTSa => k_is)
    obtain ⟨A_NAMED, G_NAMED, W_NAMED⟩ : ∃ A, mg "NAMED" = some (.ref A) ∧ ∀ H P, TU.T (L2.KOf KX) H P (.ref A) K82.gt_NAMED := by
      unfold L2.KOf
      refine' TU.glob_tree (n := 20) KX G ?zgNAMEDa ?zgNAMEDl
      (case zgNAMEDa => k_is); (case zgNAMEDl => kernel_rfl)
    obtain ⟨A_HEADINGS_yard, G_HEADINGS_yard, W_HEADINGS_yard⟩ : ∃ A, mg "HEADINGS_yard" = some (.ref A) ∧ ∀ H P, TU.T (L2.KOf KX) H P (.ref A) K82.gt_HEADINGS_yard := by
      unfold L2.KOf
      refine' TU.glob_tree (n := 20) KX G ?zgHEADINGS_yarda ?zgHEADINGS_yardl
      (case zgHEADINGS_yarda => k_is); (case zgHEADINGS_yardl => kernel_rfl)
    obtain ⟨A_SPOT_RANGES, G_SPOT_RANGES, W_SPOT_RANGES⟩ : ∃ A, mg "SPOT_RANGES" = some (.ref A) ∧ ∀ H P, TU.T (L2.KOf KX) H P (.ref A) K82.gt_SPOT_RANGES := by
      unfold L2.KOf
      refine' TU.glob_tree (n := 20) KX G ?zgSPOT_RANGESa ?zgSPOT_RANGESl
      (case zgSPOT_RANGESa => k_is); (case zgSPOT_RANGESl => kernel_rfl)
    obtain ⟨A_KIND_RANGES, G_KIND_RANGES, W_KIND_RANGES⟩ : ∃ A, mg "KIND_RANGES" = some (.ref A) ∧ ∀ H P, TU.T (L2.KOf KX) H P (.ref A) K82.gt_KIND_RANGES := by
      unfold L2.KOf
      refine' TU.glob_tree (n := 20) KX G ?zgKIND_RANGESa ?zgKIND_RANGESl
      (case zgKIND_RANGESa => k_is); (case zgKIND_RANGESl => kernel_rfl)
    have G_MOST_WORDS : ∃ t, mg "MOST_WORDS" = some (.int 8 t) := by
      refine' TU.glob_int KX G ?zgMOST_WORDSa
      (case zgMOST_WORDSa => k_is)
    obtain ⟨A_TABLES, G_TABLES, W_TABLES⟩ : ∃ A, mg "TABLES" = some (.ref A) ∧ ∀ H P, TU.T (L2.KOf KX) H P (.ref A) K82.gt_TABLES := by
      unfold L2.KOf
      refine' TU.glob_tree (n := 20) KX G ?zgTABLESa ?zgTABLESl
      (case zgTABLESa => k_is); (case zgTABLESl => kernel_rfl)
    obtain ⟨A_MOST, G_MOST, W_MOST⟩ : ∃ A, mg "MOST" = some (.ref A) ∧ TU.GD (L2.KOf KX) w A K82.gt_MOST := by
      unfold L2.KOf
      refine' TU.glob_dict (ks := K82.gt_MOST.map (·.1)) KX G ?zgMOSTa ?zgMOSTl ?zgMOSTm
      (case zgMOSTa => k_is); (case zgMOSTl => kernel_rfl); (case zgMOSTm => kernel_rfl)
    obtain ⟨C_Unknown, C_Misfit, C_BadName, C_TooMany, X_Unknown, X_Misfit, X_BadName, X_TooMany, Z_BadName_TooMany, Z_Misfit_TooMany, Z_Misfit_BadName, Z_Unknown_TooMany, Z_Unknown_BadName, Z_Unknown_Misfit⟩ : ∃ C_Unknown C_Misfit C_BadName C_TooMany : Addr, TU.Xc PySem.Challenge.rw_trundleyard_k82_yard_merges.prog w (L2.KOf KX) mg base "Unknown" ["what", "name"] C_Unknown ∧ TU.Xc PySem.Challenge.rw_trundleyard_k82_yard_merges.prog w (L2.KOf KX) mg base "Misfit" ["what", "name"] C_Misfit ∧ TU.Xc PySem.Challenge.rw_trundleyard_k82_yard_merges.prog w (L2.KOf KX) mg base "BadName" ["name"] C_BadName ∧ TU.Xc PySem.Challenge.rw_trundleyard_k82_yard_merges.prog w (L2.KOf KX) mg base "TooMany" ["what", "limit"] C_TooMany ∧ PySem.W.exmOne (L2.KOf KX) (.ref C_BadName) (.ref C_TooMany) = some false ∧ PySem.W.exmOne (L2.KOf KX) (.ref C_Misfit) (.ref C_TooMany) = some false ∧ PySem.W.exmOne (L2.KOf KX) (.ref C_Misfit) (.ref C_BadName) = some false ∧ PySem.W.exmOne (L2.KOf KX) (.ref C_Unknown) (.ref C_TooMany) = some false ∧ PySem.W.exmOne (L2.KOf KX) (.ref C_Unknown) (.ref C_BadName) = some false ∧ PySem.W.exmOne (L2.KOf KX) (.ref C_Unknown) (.ref C_Misfit) = some false := by
      unfold L2.KOf
      refine' ⟨_, _, _, _, TU.xc_mk2 (qual := "Unknown.__init__") (st := K82.s_Unknown___init) KX G ?zxUnknownaC ?zxUnknownxL ?zxUnknownxb ?zxUnknownsa ?zxUnknownga ?zxUnknowngg ?zxUnknownn1 ?zxUnknownn2 ?zxUnknowna1 ?zxUnknownt1 ?zxUnknownl1 ?zxUnknownc1 ?zxUnknownk1 ?zxUnknownkC ?zxUnknowneC ?zxUnknowntC ?zxUnknownhC ?zxUnknowniC ?zxUnknownsC ⟨rfl, rfl, rfl, by decide +kernel, rfl, by decide +kernel, by decide +kernel⟩ rfl (by decide +kernel) (by decide +kernel) (by decide +kernel) (by decide +kernel) (.inl rfl) (.inl rfl) (.inl rfl) (fun _ _ _ _ _ _ us hl => match us, hl with | [_, _, _], _ => rfl), TU.xc_mk2 (qual := "Misfit.__init__") (st := K82.s_Misfit___init) KX G ?zxMisfitaC ?zxMisfitxL ?zxMisfitxb ?zxMisfitsa ?zxMisfitga ?zxMisfitgg ?zxMisfitn1 ?zxMisfitn2 ?zxMisfita1 ?zxMisfitt1 ?zxMisfitl1 ?zxMisfitc1 ?zxMisfitk1 ?zxMisfitkC ?zxMisfiteC ?zxMisfittC ?zxMisfithC ?zxMisfitiC ?zxMisfitsC ⟨rfl, rfl, rfl, by decide +kernel, rfl, by decide +kernel, by decide +kernel⟩ rfl (by decide +kernel) (by decide +kernel) (by decide +kernel) (by decide +kernel) (.inl rfl) (.inl rfl) (.inl rfl) (fun _ _ _ _ _ _ us hl => match us, hl with | [_, _, _], _ => rfl), TU.xc_mk1 (qual := "BadName.__init__") (st := K82.s_BadName___init) KX G ?zxBadNameaC ?zxBadNamexL ?zxBadNamexb ?zxBadNamesa ?zxBadNamega ?zxBadNamegg ?zxBadNamen1 ?zxBadNamea1 ?zxBadNamet1 ?zxBadNamel1 ?zxBadNamec1 ?zxBadNamek1 ?zxBadNamekC ?zxBadNameeC ?zxBadNametC ?zxBadNamehC ?zxBadNameiC ?zxBadNamesC ⟨rfl, rfl, rfl, by decide +kernel, rfl, by decide +kernel, by decide +kernel⟩ rfl (by decide +kernel) (by decide +kernel) (.inl rfl) (.inl rfl) (fun _ _ _ _ _ _ us hl => match us, hl with | [_, _], _ => rfl), TU.xc_mk2 (qual := "TooMany.__init__") (st := K82.s_TooMany___init) KX G ?zxTooManyaC ?zxTooManyxL ?zxTooManyxb ?zxTooManysa ?zxTooManyga ?zxTooManygg ?zxTooManyn1 ?zxTooManyn2 ?zxTooManya1 ?zxTooManyt1 ?zxTooManyl1 ?zxTooManyc1 ?zxTooManyk1 ?zxTooManykC ?zxTooManyeC ?zxTooManytC ?zxTooManyhC ?zxTooManyiC ?zxTooManysC ⟨rfl, rfl, rfl, by decide +kernel, rfl, by decide +kernel, by decide +kernel⟩ rfl (by decide +kernel) (by decide +kernel) (by decide +kernel) (by decide +kernel) (.inl rfl) (.inl rfl) (.inl rfl) (fun _ _ _ _ _ _ us hl => match us, hl with | [_, _, _], _ => rfl), TU.exm_no ?zzBadNameTooManya ?zzBadNameTooManyb ?zzBadNameTooManyc ?zzBadNameTooManyd, TU.exm_no ?zzMisfitTooManya ?zzMisfitTooManyb ?zzMisfitTooManyc ?zzMisfitTooManyd, TU.exm_no ?zzMisfitBadNamea ?zzMisfitBadNameb ?zzMisfitBadNamec ?zzMisfitBadNamed, TU.exm_no ?zzUnknownTooManya ?zzUnknownTooManyb ?zzUnknownTooManyc ?zzUnknownTooManyd, TU.exm_no ?zzUnknownBadNamea ?zzUnknownBadNameb ?zzUnknownBadNamec ?zzUnknownBadNamed, TU.exm_no ?zzUnknownMisfita ?zzUnknownMisfitb ?zzUnknownMisfitc ?zzUnknownMisfitd⟩
      (case zxUnknownaC => first | k_is | rfl | decide +kernel)
      (case zxUnknownxL => first | k_is | rfl | decide +kernel)
      (case zxUnknownxb => first | k_is | rfl | decide +kernel)
      (case zxUnknownsa => first | k_is | rfl | decide +kernel)
      (case zxUnknownga => first | k_is | rfl | decide +kernel)
      (case zxUnknowngg => first | k_is | rfl | decide +kernel)
      (case zxUnknownn1 => first | k_is | rfl | decide +kernel)
      (case zxUnknownn2 => first | k_is | rfl | decide +kernel)
      (case zxUnknowna1 => first | k_is | rfl | decide +kernel)
      (case zxUnknownt1 => first | k_is | rfl | decide +kernel)
      (case zxUnknownl1 => first | k_is | rfl | decide +kernel)
      (case zxUnknownc1 => first | k_is | rfl | decide +kernel)
      (case zxUnknownk1 => first | k_is | rfl | decide +kernel)
      (case zxUnknownkC => first | k_is | rfl | decide +kernel)
      (case zxUnknowneC => first | k_is | rfl | decide +kernel)
      (case zxUnknowntC => first | k_is | rfl | decide +kernel)
      (case zxUnknownhC => first | k_is | rfl | decide +kernel)
      (case zxUnknowniC => first | k_is | rfl | decide +kernel)
      (case zxUnknownsC => first | k_is | rfl | decide +kernel)
      (case zxMisfitaC => first | k_is | rfl | decide +kernel)
      (case zxMisfitxL => first | k_is | rfl | decide +kernel)
      (case zxMisfitxb => first | k_is | rfl | decide +kernel)
      (case zxMisfitsa => first | k_is | rfl | decide +kernel)
      (case zxMisfitga => first | k_is | rfl | decide +kernel)
      (case zxMisfitgg => first | k_is | rfl | decide +kernel)
      (case zxMisfitn1 => first | k_is | rfl | decide +kernel)
      (case zxMisfitn2 => first | k_is | rfl | decide +kernel)
      (case zxMisfita1 => first | k_is | rfl | decide +kernel)
      (case zxMisfitt1 => first | k_is | rfl | decide +kernel)
      (case zxMisfitl1 => first | k_is | rfl | decide +kernel)
      (case zxMisfitc1 => first | k_is | rfl | decide +kernel)
      (case zxMisfitk1 => first | k_is | rfl | decide +kernel)
      (case zxMisfitkC => first | k_is | rfl | decide +kernel)
      (case zxMisfiteC => first | k_is | rfl | decide +kernel)
      (case zxMisfittC => first | k_is | rfl | decide +kernel)
      (case zxMisfithC => first | k_is | rfl | decide +kernel)
      (case zxMisfitiC => first | k_is | rfl | decide +kernel)
      (case zxMisfitsC => first | k_is | rfl | decide +kernel)
      (case zxBadNameaC => first | k_is | rfl | decide +kernel)
      (case zxBadNamexL => first | k_is | rfl | decide +kernel)
      (case zxBadNamexb => first | k_is | rfl | decide +kernel)
      (case zxBadNamesa => first | k_is | rfl | decide +kernel)
      (case zxBadNamega => first | k_is | rfl | decide +kernel)
      (case zxBadNamegg => first | k_is | rfl | decide +kernel)
      (case zxBadNamen1 => first | k_is | rfl | decide +kernel)
      (case zxBadNamea1 => first | k_is | rfl | decide +kernel)
      (case zxBadNamet1 => first | k_is | rfl | decide +kernel)
      (case zxBadNamel1 => first | k_is | rfl | decide +kernel)
      (case zxBadNamec1 => first | k_is | rfl | decide +kernel)
      (case zxBadNamek1 => first | k_is | rfl | decide +kernel)
      (case zxBadNamekC => first | k_is | rfl | decide +kernel)
      (case zxBadNameeC => first | k_is | rfl | decide +kernel)
      (case zxBadNametC => first | k_is | rfl | decide +kernel)
      (case zxBadNamehC => first | k_is | rfl | decide +kernel)
      (case zxBadNameiC => first | k_is | rfl | decide +kernel)
      (case zxBadNamesC => first | k_is | rfl | decide +kernel)
      (case zxTooManyaC => first | k_is | rfl | decide +kernel)
      (case zxTooManyxL => first | k_is | rfl | decide +kernel)
      (case zxTooManyxb => first | k_is | rfl | decide +kernel)
      (case zxTooManysa => first | k_is | rfl | decide +kernel)
      (case zxTooManyga => first | k_is | rfl | decide +kernel)
      (case zxTooManygg => first | k_is | rfl | decide +kernel)
      (case zxTooManyn1 => first | k_is | rfl | decide +kernel)
      (case zxTooManyn2 => first | k_is | rfl | decide +kernel)
      (case zxTooManya1 => first | k_is | rfl | decide +kernel)
      (case zxTooManyt1 => first | k_is | rfl | decide +kernel)
      (case zxTooManyl1 => first | k_is | rfl | decide +kernel)
      (case zxTooManyc1 => first | k_is | rfl | decide +kernel)
      (case zxTooManyk1 => first | k_is | rfl | decide +kernel)
      (case zxTooManykC => first | k_is | rfl | decide +kernel)
      (case zxTooManyeC => first | k_is | rfl | decide +kernel)
      (case zxTooManytC => first | k_is | rfl | decide +kernel)
      (case zxTooManyhC => first | k_is | rfl | decide +kernel)
      (case zxTooManyiC => first | k_is | rfl | decide +kernel)
      (case zxTooManysC => first | k_is | rfl | decide +kernel)
      (case zzBadNameTooManya => k_is)
      (case zzBadNameTooManyb => k_is)
      (case zzBadNameTooManyc => k_is)
      (case zzBadNameTooManyd => k_is)
      (case zzMisfitTooManya => k_is)
      (case zzMisfitTooManyb => k_is)
      (case zzMisfitTooManyc => k_is)
      (case zzMisfitTooManyd => k_is)
      (case zzMisfitBadNamea => k_is)
      (case zzMisfitBadNameb => k_is)
      (case zzMisfitBadNamec => k_is)
      (case zzMisfitBadNamed => k_is)
      (case zzUnknownTooManya => k_is)
      (case zzUnknownTooManyb => k_is)
      (case zzUnknownTooManyc => k_is)
      (case zzUnknownTooManyd => k_is)
      (case zzUnknownBadNamea => k_is)
      (case zzUnknownBadNameb => k_is)
      (case zzUnknownBadNamec => k_is)
      (case zzUnknownBadNamed => k_is)
      (case zzUnknownMisfita => k_is)
      (case zzUnknownMisfitb => k_is)
      (case zzUnknownMisfitc => k_is)
      (case zzUnknownMisfitd => k_is)
    have F_check_key : TU.TopF (L2.KOf KX) mg "check_key" K82.s_check_key ["house", "key"] := by
      unfold L2.KOf
      refine' TU.top_mk KX G ?zqcheck_keya ?zqcheck_keyl ?zqcheck_keyc ?zqcheck_keyk (fun _ _ _ _ _ _ us hl => match us, hl with | [_, _], _ => rfl)
      (case zqcheck_keya => k_is); (case zqcheck_keyl => k_is); (case zqcheck_keyc => k_is); (case zqcheck_keyk => k_is)
    have F_entry_in : TU.TopF (L2.KOf KX) mg "entry_in" K82.s_entry_in ["house", "key", "name"] := by
      unfold L2.KOf
      refine' TU.top_mk KX G ?zqentry_ina ?zqentry_inl ?zqentry_inc ?zqentry_ink (fun _ _ _ _ _ _ us hl => match us, hl with | [_, _, _], _ => rfl)
      (case zqentry_ina => k_is); (case zqentry_inl => k_is); (case zqentry_inc => k_is); (case zqentry_ink => k_is)
    have F_same_keys : TU.TopF (L2.KOf KX) mg "same_keys" K82.s_same_keys ["house", "other"] := by
      unfold L2.KOf
      refine' TU.top_mk KX G ?zqsame_keysa ?zqsame_keysl ?zqsame_keysc ?zqsame_keysk (fun _ _ _ _ _ _ us hl => match us, hl with | [_, _], _ => rfl)
      (case zqsame_keysa => k_is); (case zqsame_keysl => k_is); (case zqsame_keysc => k_is); (case zqsame_keysk => k_is)
    have F_check_keys : TU.TopF (L2.KOf KX) mg "check_keys" K82.s_check_keys ["base", "houses"] := by
      unfold L2.KOf
      refine' TU.top_mk KX G ?zqcheck_keysa ?zqcheck_keysl ?zqcheck_keysc ?zqcheck_keysk (fun _ _ _ _ _ _ us hl => match us, hl with | [_, _], _ => rfl)
      (case zqcheck_keysa => k_is); (case zqcheck_keysl => k_is); (case zqcheck_keysc => k_is); (case zqcheck_keysk => k_is)
    have F_names_of : TU.TopF (L2.KOf KX) mg "names_of" K82.s_names_of ["houses", "key"] := by
      unfold L2.KOf
      refine' TU.top_mk KX G ?zqnames_ofa ?zqnames_ofl ?zqnames_ofc ?zqnames_ofk (fun _ _ _ _ _ _ us hl => match us, hl with | [_, _], _ => rfl)
      (case zqnames_ofa => k_is); (case zqnames_ofl => k_is); (case zqnames_ofc => k_is); (case zqnames_ofk => k_is)
    have F_settled : TU.TopF (L2.KOf KX) mg "settled" K82.s_settled ["base", "one", "two"] := by
      unfold L2.KOf
      refine' TU.top_mk KX G ?zqsettleda ?zqsettledl ?zqsettledc ?zqsettledk (fun _ _ _ _ _ _ us hl => match us, hl with | [_, _, _], _ => rfl)
      (case zqsettleda => k_is); (case zqsettledl => k_is); (case zqsettledc => k_is); (case zqsettledk => k_is)
    have F_merge : TU.TopF (L2.KOf KX) mg "merge" K82.s_merge ["base", "one", "two"] := by
      unfold L2.KOf
      refine' TU.top_mk KX G ?zqmergea ?zqmergel ?zqmergec ?zqmergek (fun _ _ _ _ _ _ us hl => match us, hl with | [_, _, _], _ => rfl)
      (case zqmergea => k_is); (case zqmergel => k_is); (case zqmergec => k_is); (case zqmergek => k_is)
    have F_law_jar : TU.TopF (L2.KOf KX) mg "_law_jar" K82.s_law_jar ["script"] := by
      unfold L2.KOf
      refine' TU.top_mk KX G ?zqlaw_jara ?zqlaw_jarl ?zqlaw_jarc ?zqlaw_jark (fun _ _ _ _ _ _ us hl => match us, hl with | [_], _ => rfl)
      (case zqlaw_jara => k_is); (case zqlaw_jarl => k_is); (case zqlaw_jarc => k_is); (case zqlaw_jark => k_is)
    have F_law_draw : TU.TopF (L2.KOf KX) mg "_law_draw" K82.s_law_draw ["jar", "at", "many"] := by
      unfold L2.KOf
      refine' TU.top_mk KX G ?zqlaw_drawa ?zqlaw_drawl ?zqlaw_drawc ?zqlaw_drawk (fun _ _ _ _ _ _ us hl => match us, hl with | [_, _, _], _ => rfl)
      (case zqlaw_drawa => k_is); (case zqlaw_drawl => k_is); (case zqlaw_drawc => k_is); (case zqlaw_drawk => k_is)
    have F_law_copy : TU.TopF (L2.KOf KX) mg "_law_copy" K82.s_law_copy ["house"] := by
      unfold L2.KOf
      refine' TU.top_mk KX G ?zqlaw_copya ?zqlaw_copyl ?zqlaw_copyc ?zqlaw_copyk (fun _ _ _ _ _ _ us hl => match us, hl with | [_], _ => rfl)
      (case zqlaw_copya => k_is); (case zqlaw_copyl => k_is); (case zqlaw_copyc => k_is); (case zqlaw_copyk => k_is)
    have F_is_name : TU.TopF (L2.KOf KX) mg "is_name" K82.s_is_name ["value"] := by
      unfold L2.KOf
      refine' TU.top_mk KX G ?zqis_namea ?zqis_namel ?zqis_namec ?zqis_namek (fun _ _ _ _ _ _ us hl => match us, hl with | [_], _ => rfl)
      (case zqis_namea => k_is); (case zqis_namel => k_is); (case zqis_namec => k_is); (case zqis_namek => k_is)
    have F_check_name : TU.TopF (L2.KOf KX) mg "check_name" K82.s_check_name ["value"] := by
      unfold L2.KOf
      refine' TU.top_mk KX G ?zqcheck_namea ?zqcheck_namel ?zqcheck_namec ?zqcheck_namek (fun _ _ _ _ _ _ us hl => match us, hl with | [_], _ => rfl)
      (case zqcheck_namea => k_is); (case zqcheck_namel => k_is); (case zqcheck_namec => k_is); (case zqcheck_namek => k_is)
    have F_need : TU.TopF (L2.KOf KX) mg "need" K82.s_need ["yard", "what", "name"] := by
      unfold L2.KOf
      refine' TU.top_mk KX G ?zqneeda ?zqneedl ?zqneedc ?zqneedk (fun _ _ _ _ _ _ us hl => match us, hl with | [_, _, _], _ => rfl)
      (case zqneeda => k_is); (case zqneedl => k_is); (case zqneedc => k_is); (case zqneedk => k_is)
    have F_check_ranges : TU.TopF (L2.KOf KX) mg "check_ranges" K82.s_check_ranges ["what", "name", "entry", "ranges"] := by
      unfold L2.KOf
      refine' TU.top_mk KX G ?zqcheck_rangesa ?zqcheck_rangesl ?zqcheck_rangesc ?zqcheck_rangesk (fun _ _ _ _ _ _ us hl => match us, hl with | [_, _, _, _], _ => rfl)
      (case zqcheck_rangesa => k_is); (case zqcheck_rangesl => k_is); (case zqcheck_rangesc => k_is); (case zqcheck_rangesk => k_is)
    have F_blocks_of : TU.TopF (L2.KOf KX) mg "blocks_of" K82.s_blocks_of ["statement"] := by
      unfold L2.KOf
      refine' TU.top_mk KX G ?zqblocks_ofa ?zqblocks_ofl ?zqblocks_ofc ?zqblocks_ofk (fun _ _ _ _ _ _ us hl => match us, hl with | [_], _ => rfl)
      (case zqblocks_ofa => k_is); (case zqblocks_ofl => k_is); (case zqblocks_ofc => k_is); (case zqblocks_ofk => k_is)
    have F_all_statements : TU.TopF (L2.KOf KX) mg "all_statements" K82.s_all_statements ["program", "most"] := by
      unfold L2.KOf
      refine' TU.top_mk KX G ?zqall_statementsa ?zqall_statementsl ?zqall_statementsc ?zqall_statementsk (fun _ _ _ _ _ _ us hl => match us, hl with | [_, _], _ => rfl)
      (case zqall_statementsa => k_is); (case zqall_statementsl => k_is); (case zqall_statementsc => k_is); (case zqall_statementsk => k_is)
    have F_rows_within : TU.TopF (L2.KOf KX) mg "rows_within" K82.s_rows_within ["statement"] := by
      unfold L2.KOf
      refine' TU.top_mk KX G ?zqrows_withina ?zqrows_withinl ?zqrows_withinc ?zqrows_withink (fun _ _ _ _ _ _ us hl => match us, hl with | [_], _ => rfl)
      (case zqrows_withina => k_is); (case zqrows_withinl => k_is); (case zqrows_withinc => k_is); (case zqrows_withink => k_is)
    have F_numbered : TU.TopF (L2.KOf KX) mg "numbered" K82.s_numbered ["program"] := by
      unfold L2.KOf
      refine' TU.top_mk KX G ?zqnumbereda ?zqnumberedl ?zqnumberedc ?zqnumberedk (fun _ _ _ _ _ _ us hl => match us, hl with | [_], _ => rfl)
      (case zqnumbereda => k_is); (case zqnumberedl => k_is); (case zqnumberedc => k_is); (case zqnumberedk => k_is)
    have F_count_either : TU.TopF (L2.KOf KX) mg "count_either" K82.s_count_either ["program"] := by
      unfold L2.KOf
      refine' TU.top_mk KX G ?zqcount_eithera ?zqcount_eitherl ?zqcount_eitherc ?zqcount_eitherk (fun _ _ _ _ _ _ us hl => match us, hl with | [_], _ => rfl)
      (case zqcount_eithera => k_is); (case zqcount_eitherl => k_is); (case zqcount_eitherc => k_is); (case zqcount_eitherk => k_is)
    have F_greatest_depth : TU.TopF (L2.KOf KX) mg "greatest_depth" K82.s_greatest_depth ["program"] := by
      unfold L2.KOf
      refine' TU.top_mk KX G ?zqgreatest_deptha ?zqgreatest_depthl ?zqgreatest_depthc ?zqgreatest_depthk (fun _ _ _ _ _ _ us hl => match us, hl with | [_], _ => rfl)
      (case zqgreatest_deptha => k_is); (case zqgreatest_depthl => k_is); (case zqgreatest_depthc => k_is); (case zqgreatest_depthk => k_is)
    have F_check_items : TU.TopF (L2.KOf KX) mg "check_items" K82.s_check_items ["parts", "statement", "what"] := by
      unfold L2.KOf
      refine' TU.top_mk KX G ?zqcheck_itemsa ?zqcheck_itemsl ?zqcheck_itemsc ?zqcheck_itemsk (fun _ _ _ _ _ _ us hl => match us, hl with | [_, _, _], _ => rfl)
      (case zqcheck_itemsa => k_is); (case zqcheck_itemsl => k_is); (case zqcheck_itemsc => k_is); (case zqcheck_itemsk => k_is)
    have F_check_statement : TU.TopF (L2.KOf KX) mg "check_statement" K82.s_check_statement ["statement"] := by
      unfold L2.KOf
      refine' TU.top_mk KX G ?zqcheck_statementa ?zqcheck_statementl ?zqcheck_statementc ?zqcheck_statementk (fun _ _ _ _ _ _ us hl => match us, hl with | [_], _ => rfl)
      (case zqcheck_statementa => k_is); (case zqcheck_statementl => k_is); (case zqcheck_statementc => k_is); (case zqcheck_statementk => k_is)
    have F_check_program : TU.TopF (L2.KOf KX) mg "check_program" K82.s_check_program ["program"] := by
      unfold L2.KOf
      refine' TU.top_mk KX G ?zqcheck_programa ?zqcheck_programl ?zqcheck_programc ?zqcheck_programk (fun _ _ _ _ _ _ us hl => match us, hl with | [_], _ => rfl)
      (case zqcheck_programa => k_is); (case zqcheck_programl => k_is); (case zqcheck_programc => k_is); (case zqcheck_programk => k_is)
    have F_named_items : TU.TopF (L2.KOf KX) mg "named_items" K82.s_named_items ["parts", "items"] := by
      unfold L2.KOf
      refine' TU.top_mk KX G ?zqnamed_itemsa ?zqnamed_itemsl ?zqnamed_itemsc ?zqnamed_itemsk (fun _ _ _ _ _ _ us hl => match us, hl with | [_, _], _ => rfl)
      (case zqnamed_itemsa => k_is); (case zqnamed_itemsl => k_is); (case zqnamed_itemsc => k_is); (case zqnamed_itemsk => k_is)
    have F_names_in : TU.TopF (L2.KOf KX) mg "names_in" K82.s_names_in ["program"] := by
      unfold L2.KOf
      refine' TU.top_mk KX G ?zqnames_ina ?zqnames_inl ?zqnames_inc ?zqnames_ink (fun _ _ _ _ _ _ us hl => match us, hl with | [_], _ => rfl)
      (case zqnames_ina => k_is); (case zqnames_inl => k_is); (case zqnames_inc => k_is); (case zqnames_ink => k_is)
    have F_check_one_program : TU.TopF (L2.KOf KX) mg "check_one_program" K82.s_check_one_program ["yard", "name"] := by
      unfold L2.KOf
      refine' TU.top_mk KX G ?zqcheck_one_programa ?zqcheck_one_programl ?zqcheck_one_programc ?zqcheck_one_programk (fun _ _ _ _ _ _ us hl => match us, hl with | [_, _], _ => rfl)
      (case zqcheck_one_programa => k_is); (case zqcheck_one_programl => k_is); (case zqcheck_one_programc => k_is); (case zqcheck_one_programk => k_is)
    have F_check_lane : TU.TopF (L2.KOf KX) mg "check_lane" K82.s_check_lane ["yard", "name"] := by
      unfold L2.KOf
      refine' TU.top_mk KX G ?zqcheck_lanea ?zqcheck_lanel ?zqcheck_lanec ?zqcheck_lanek (fun _ _ _ _ _ _ us hl => match us, hl with | [_, _], _ => rfl)
      (case zqcheck_lanea => k_is); (case zqcheck_lanel => k_is); (case zqcheck_lanec => k_is); (case zqcheck_lanek => k_is)
    have F_check_machine : TU.TopF (L2.KOf KX) mg "check_machine" K82.s_check_machine ["yard", "name"] := by
      unfold L2.KOf
      refine' TU.top_mk KX G ?zqcheck_machinea ?zqcheck_machinel ?zqcheck_machinec ?zqcheck_machinek (fun _ _ _ _ _ _ us hl => match us, hl with | [_, _], _ => rfl)
      (case zqcheck_machinea => k_is); (case zqcheck_machinel => k_is); (case zqcheck_machinec => k_is); (case zqcheck_machinek => k_is)
    have F_check_parcel : TU.TopF (L2.KOf KX) mg "check_parcel" K82.s_check_parcel ["yard", "name"] := by
      unfold L2.KOf
      refine' TU.top_mk KX G ?zqcheck_parcela ?zqcheck_parcell ?zqcheck_parcelc ?zqcheck_parcelk (fun _ _ _ _ _ _ us hl => match us, hl with | [_, _], _ => rfl)
      (case zqcheck_parcela => k_is); (case zqcheck_parcell => k_is); (case zqcheck_parcelc => k_is); (case zqcheck_parcelk => k_is)
    have F_check_entry : TU.TopF (L2.KOf KX) mg "check_entry" K82.s_check_entry ["yard", "key", "name"] := by
      unfold L2.KOf
      refine' TU.top_mk KX G ?zqcheck_entrya ?zqcheck_entryl ?zqcheck_entryc ?zqcheck_entryk (fun _ _ _ _ _ _ us hl => match us, hl with | [_, _, _], _ => rfl)
      (case zqcheck_entrya => k_is); (case zqcheck_entryl => k_is); (case zqcheck_entryc => k_is); (case zqcheck_entryk => k_is)
    have F_check_places : TU.TopF (L2.KOf KX) mg "check_places" K82.s_check_places ["yard"] := by
      unfold L2.KOf
      refine' TU.top_mk KX G ?zqcheck_placesa ?zqcheck_placesl ?zqcheck_placesc ?zqcheck_placesk (fun _ _ _ _ _ _ us hl => match us, hl with | [_], _ => rfl)
      (case zqcheck_placesa => k_is); (case zqcheck_placesl => k_is); (case zqcheck_placesc => k_is); (case zqcheck_placesk => k_is)
    have F_message_words : TU.TopF (L2.KOf KX) mg "message_words" K82.s_message_words ["yard"] := by
      unfold L2.KOf
      refine' TU.top_mk KX G ?zqmessage_wordsa ?zqmessage_wordsl ?zqmessage_wordsc ?zqmessage_wordsk (fun _ _ _ _ _ _ us hl => match us, hl with | [_], _ => rfl)
      (case zqmessage_wordsa => k_is); (case zqmessage_wordsl => k_is); (case zqmessage_wordsc => k_is); (case zqmessage_wordsk => k_is)
    have F_check_yard : TU.TopF (L2.KOf KX) mg "check_yard" K82.s_check_yard ["yard"] := by
      unfold L2.KOf
      refine' TU.top_mk KX G ?zqcheck_yarda ?zqcheck_yardl ?zqcheck_yardc ?zqcheck_yardk (fun _ _ _ _ _ _ us hl => match us, hl with | [_], _ => rfl)
      (case zqcheck_yarda => k_is); (case zqcheck_yardl => k_is); (case zqcheck_yardc => k_is); (case zqcheck_yardk => k_is)
    have F_error_words : TU.TopF (L2.KOf KX) mg "error_words" K82.s_error_words ["yard"] := by
      unfold L2.KOf
      refine' TU.top_mk KX G ?zqerror_wordsa ?zqerror_wordsl ?zqerror_wordsc ?zqerror_wordsk (fun _ _ _ _ _ _ us hl => match us, hl with | [_], _ => rfl)
      (case zqerror_wordsa => k_is); (case zqerror_wordsl => k_is); (case zqerror_wordsc => k_is); (case zqerror_wordsk => k_is)
    have F_law_words : TU.TopF (L2.KOf KX) mg "_law_words" K82.s_law_words ["yard"] := by
      unfold L2.KOf
      refine' TU.top_mk KX G ?zqlaw_wordsa ?zqlaw_wordsl ?zqlaw_wordsc ?zqlaw_wordsk (fun _ _ _ _ _ _ us hl => match us, hl with | [_], _ => rfl)
      (case zqlaw_wordsa => k_is); (case zqlaw_wordsl => k_is); (case zqlaw_wordsc => k_is); (case zqlaw_wordsk => k_is)
    have F_law_entry_at : TU.TopF (L2.KOf KX) mg "_law_entry_at" K82.s_law_entry_at ["house", "key", "name"] := by
      unfold L2.KOf
      refine' TU.top_mk KX G ?zqlaw_entry_ata ?zqlaw_entry_atl ?zqlaw_entry_atc ?zqlaw_entry_atk (fun _ _ _ _ _ _ us hl => match us, hl with | [_, _, _], _ => rfl)
      (case zqlaw_entry_ata => k_is); (case zqlaw_entry_atl => k_is); (case zqlaw_entry_atc => k_is); (case zqlaw_entry_atk => k_is)
    have F_law_merge : TU.TopF (L2.KOf KX) mg "_law_merge" K82.s_law_merge ["base", "one", "two"] := by
      unfold L2.KOf
      refine' TU.top_mk KX G ?zqlaw_mergea ?zqlaw_mergel ?zqlaw_mergec ?zqlaw_mergek (fun _ _ _ _ _ _ us hl => match us, hl with | [_, _, _], _ => rfl)
      (case zqlaw_mergea => k_is); (case zqlaw_mergel => k_is); (case zqlaw_mergec => k_is); (case zqlaw_mergek => k_is)
    have F_merge_yards : TU.TopF (L2.KOf KX) mg "merge_yards" K82.s_merge_yards ["base", "one", "two"] := by
      unfold L2.KOf
      refine' TU.top_mk KX G ?zqmerge_yardsa ?zqmerge_yardsl ?zqmerge_yardsc ?zqmerge_yardsk (fun _ _ _ _ _ _ us hl => match us, hl with | [_, _, _], _ => rfl)
      (case zqmerge_yardsa => k_is); (case zqmerge_yardsl => k_is); (case zqmerge_yardsc => k_is); (case zqmerge_yardsk => k_is)
    have F_law_menu : TU.TopF (L2.KOf KX) mg "_law_menu" K82.s_law_menu [] := by
      unfold L2.KOf
      refine' TU.top_mk KX G ?zqlaw_menua ?zqlaw_menul ?zqlaw_menuc ?zqlaw_menuk (fun _ _ _ _ _ _ us hl => match us, hl with | [], _ => rfl)
      (case zqlaw_menua => k_is); (case zqlaw_menul => k_is); (case zqlaw_menuc => k_is); (case zqlaw_menuk => k_is)
    have F_law_yard : TU.TopF (L2.KOf KX) mg "_law_yard" K82.s_law_yard ["jar", "at"] := by
      unfold L2.KOf
      refine' TU.top_mk KX G ?zqlaw_yarda ?zqlaw_yardl ?zqlaw_yardc ?zqlaw_yardk (fun _ _ _ _ _ _ us hl => match us, hl with | [_, _], _ => rfl)
      (case zqlaw_yarda => k_is); (case zqlaw_yardl => k_is); (case zqlaw_yardc => k_is); (case zqlaw_yardk => k_is)
    have F_law_grown : TU.TopF (L2.KOf KX) mg "_law_grown" K82.s_law_grown ["jar", "at", "base"] := by
      unfold L2.KOf
      refine' TU.top_mk KX G ?zqlaw_growna ?zqlaw_grownl ?zqlaw_grownc ?zqlaw_grownk (fun _ _ _ _ _ _ us hl => match us, hl with | [_, _, _], _ => rfl)
      (case zqlaw_growna => k_is); (case zqlaw_grownl => k_is); (case zqlaw_grownc => k_is); (case zqlaw_grownk => k_is)
    have F_law : TU.TopF (L2.KOf KX) mg "law" K82.s_law ["script"] := by
      unfold L2.KOf
      refine' TU.top_mk KX G ?zqlawa ?zqlawl ?zqlawc ?zqlawk (fun _ _ _ _ _ _ us hl => match us, hl with | [_], _ => rfl)
      (case zqlawa => k_is); (case zqlawl => k_is); (case zqlawc => k_is); (case zqlawk => k_is)
    have D_check_key := K82.d_check_key (P := PySem.Challenge.rw_trundleyard_k82_yard_merges.prog) (w := w) (base := base) B F_check_key X_Unknown
    have D_entry_in := K82.d_entry_in (P := PySem.Challenge.rw_trundleyard_k82_yard_merges.prog) (w := w) (base := base) B F_entry_in D_check_key
    have D_same_keys := K82.d_same_keys (P := PySem.Challenge.rw_trundleyard_k82_yard_merges.prog) (w := w) (base := base) B F_same_keys 
    have D_check_keys := K82.d_check_keys (P := PySem.Challenge.rw_trundleyard_k82_yard_merges.prog) (w := w) (base := base) B F_check_keys X_Misfit D_same_keys
    have D_names_of := K82.d_names_of (P := PySem.Challenge.rw_trundleyard_k82_yard_merges.prog) (w := w) (base := base) B F_names_of 
    have D_settled := K82.d_settled (P := PySem.Challenge.rw_trundleyard_k82_yard_merges.prog) (w := w) (base := base) B F_settled 
    have D_merge := K82.d_merge (P := PySem.Challenge.rw_trundleyard_k82_yard_merges.prog) (w := w) (base := base) B F_merge D_names_of D_settled D_entry_in D_check_keys
    have D_law_jar := K82.d_law_jar (P := PySem.Challenge.rw_trundleyard_k82_yard_merges.prog) (w := w) (base := base) B F_law_jar 
    have D_law_draw := K82.d_law_draw (P := PySem.Challenge.rw_trundleyard_k82_yard_merges.prog) (w := w) (base := base) B F_law_draw 
    have D_law_copy := K82.d_law_copy (P := PySem.Challenge.rw_trundleyard_k82_yard_merges.prog) (w := w) (base := base) B F_law_copy 
    have D_is_name := K82.d_is_name (P := PySem.Challenge.rw_trundleyard_k82_yard_merges.prog) (w := w) (base := base) B F_is_name G_DIGITS G_LETTERS
    have D_check_name := K82.d_check_name (P := PySem.Challenge.rw_trundleyard_k82_yard_merges.prog) (w := w) (base := base) (C_BadName := C_BadName) (C_Misfit := C_Misfit) (C_TooMany := C_TooMany) (C_Unknown := C_Unknown) B F_check_name X_BadName D_is_name
    have D_need := K82.d_need (P := PySem.Challenge.rw_trundleyard_k82_yard_merges.prog) (w := w) (base := base) (C_BadName := C_BadName) (C_Misfit := C_Misfit) (C_TooMany := C_TooMany) (C_Unknown := C_Unknown) B F_need G_PLURAL W_PLURAL X_Unknown
    have D_check_ranges := K82.d_check_ranges (P := PySem.Challenge.rw_trundleyard_k82_yard_merges.prog) (w := w) (base := base) (C_BadName := C_BadName) (C_Misfit := C_Misfit) (C_TooMany := C_TooMany) (C_Unknown := C_Unknown) B F_check_ranges X_Misfit
    have D_blocks_of := K82.d_blocks_of (P := PySem.Challenge.rw_trundleyard_k82_yard_merges.prog) (w := w) (base := base) B F_blocks_of 
    have D_all_statements := K82.d_all_statements (P := PySem.Challenge.rw_trundleyard_k82_yard_merges.prog) (w := w) (base := base) B F_all_statements D_blocks_of
    have D_rows_within := K82.d_rows_within (P := PySem.Challenge.rw_trundleyard_k82_yard_merges.prog) (w := w) (base := base) B F_rows_within 
    have D_numbered := K82.d_numbered (P := PySem.Challenge.rw_trundleyard_k82_yard_merges.prog) (w := w) (base := base) B F_numbered D_rows_within
    have D_count_either := K82.d_count_either (P := PySem.Challenge.rw_trundleyard_k82_yard_merges.prog) (w := w) (base := base) B F_count_either D_all_statements
    have D_greatest_depth := K82.d_greatest_depth (P := PySem.Challenge.rw_trundleyard_k82_yard_merges.prog) (w := w) (base := base) B F_greatest_depth D_all_statements
    have D_check_items := K82.d_check_items (P := PySem.Challenge.rw_trundleyard_k82_yard_merges.prog) (w := w) (base := base) (C_BadName := C_BadName) (C_Misfit := C_Misfit) (C_TooMany := C_TooMany) (C_Unknown := C_Unknown) B F_check_items G_HEADINGS_program W_HEADINGS_program G_REGISTERS W_REGISTERS G_RANGES W_RANGES X_Misfit D_check_name
    have D_check_statement := K82.d_check_statement (P := PySem.Challenge.rw_trundleyard_k82_yard_merges.prog) (w := w) (base := base) B F_check_statement G_PARTS W_PARTS D_check_items
    have D_check_program := K82.d_check_program (P := PySem.Challenge.rw_trundleyard_k82_yard_merges.prog) (w := w) (base := base) B F_check_program G_MOST_EITHER G_MOST_DEPTH G_MOST_STATEMENTS X_Misfit X_TooMany D_numbered D_check_statement D_count_either D_greatest_depth D_all_statements
    have D_named_items := K82.d_named_items (P := PySem.Challenge.rw_trundleyard_k82_yard_merges.prog) (w := w) (base := base) B F_named_items G_NAMED W_NAMED
    have D_names_in := K82.d_names_in (P := PySem.Challenge.rw_trundleyard_k82_yard_merges.prog) (w := w) (base := base) B F_names_in G_PARTS W_PARTS D_all_statements D_named_items
    have D_check_one_program := K82.d_check_one_program (P := PySem.Challenge.rw_trundleyard_k82_yard_merges.prog) (w := w) (base := base) (C_BadName := C_BadName) (C_Misfit := C_Misfit) (C_TooMany := C_TooMany) (C_Unknown := C_Unknown) B F_check_one_program D_names_in D_need D_check_program
    have D_check_lane := K82.d_check_lane (P := PySem.Challenge.rw_trundleyard_k82_yard_merges.prog) (w := w) (base := base) (C_BadName := C_BadName) (C_Misfit := C_Misfit) (C_TooMany := C_TooMany) (C_Unknown := C_Unknown) B F_check_lane G_HEADINGS_yard W_HEADINGS_yard X_Misfit D_need D_check_ranges
    have D_check_machine := K82.d_check_machine (P := PySem.Challenge.rw_trundleyard_k82_yard_merges.prog) (w := w) (base := base) (C_BadName := C_BadName) (C_Misfit := C_Misfit) (C_TooMany := C_TooMany) (C_Unknown := C_Unknown) B F_check_machine G_HEADINGS_yard W_HEADINGS_yard X_Misfit D_need
    have D_check_parcel := K82.d_check_parcel (P := PySem.Challenge.rw_trundleyard_k82_yard_merges.prog) (w := w) (base := base) (C_BadName := C_BadName) (C_Misfit := C_Misfit) (C_TooMany := C_TooMany) (C_Unknown := C_Unknown) B F_check_parcel D_need D_check_ranges
    have D_check_entry := K82.d_check_entry (P := PySem.Challenge.rw_trundleyard_k82_yard_merges.prog) (w := w) (base := base) (C_BadName := C_BadName) (C_Misfit := C_Misfit) (C_TooMany := C_TooMany) (C_Unknown := C_Unknown) B F_check_entry G_SPOT_RANGES W_SPOT_RANGES G_KIND_RANGES W_KIND_RANGES D_check_ranges D_check_lane D_check_machine D_check_parcel D_check_one_program D_check_name
    have D_check_places := K82.d_check_places (P := PySem.Challenge.rw_trundleyard_k82_yard_merges.prog) (w := w) (base := base) (C_BadName := C_BadName) (C_Misfit := C_Misfit) (C_TooMany := C_TooMany) (C_Unknown := C_Unknown) B F_check_places X_Misfit
    have D_message_words := K82.d_message_words (P := PySem.Challenge.rw_trundleyard_k82_yard_merges.prog) (w := w) (base := base) B F_message_words D_names_in
    have D_check_yard := K82.d_check_yard (P := PySem.Challenge.rw_trundleyard_k82_yard_merges.prog) (w := w) (base := base) (C_BadName := C_BadName) (C_Misfit := C_Misfit) (C_TooMany := C_TooMany) (C_Unknown := C_Unknown) B F_check_yard G_MOST_WORDS G_TABLES W_TABLES G_MOST W_MOST X_TooMany D_message_words D_check_places D_check_entry
    have D_error_words := K82.d_error_words (P := PySem.Challenge.rw_trundleyard_k82_yard_merges.prog) (w := w) (base := base) (C_BadName := C_BadName) (C_Misfit := C_Misfit) (C_TooMany := C_TooMany) (C_Unknown := C_Unknown) B F_error_words X_TooMany X_BadName X_Misfit X_Unknown Z_BadName_TooMany Z_Misfit_TooMany Z_Misfit_BadName Z_Unknown_TooMany Z_Unknown_BadName Z_Unknown_Misfit D_check_yard
    have D_law_words := K82.d_law_words (P := PySem.Challenge.rw_trundleyard_k82_yard_merges.prog) (w := w) (base := base) (C_BadName := C_BadName) (C_Misfit := C_Misfit) (C_TooMany := C_TooMany) (C_Unknown := C_Unknown) B F_law_words X_TooMany X_BadName X_Misfit X_Unknown Z_BadName_TooMany Z_Misfit_TooMany Z_Misfit_BadName Z_Unknown_TooMany Z_Unknown_BadName Z_Unknown_Misfit D_check_yard
    have D_law_entry_at := K82.d_law_entry_at (P := PySem.Challenge.rw_trundleyard_k82_yard_merges.prog) (w := w) (base := base) B F_law_entry_at 
    have D_law_merge := K82.d_law_merge (P := PySem.Challenge.rw_trundleyard_k82_yard_merges.prog) (w := w) (base := base) B F_law_merge D_law_entry_at
    have D_merge_yards := K82.d_merge_yards (P := PySem.Challenge.rw_trundleyard_k82_yard_merges.prog) (w := w) (base := base) B F_merge_yards D_error_words D_merge
    have D_law_menu := K82.d_law_menu (P := PySem.Challenge.rw_trundleyard_k82_yard_merges.prog) (w := w) (base := base) B F_law_menu 
    have D_law_yard := K82.d_law_yard (P := PySem.Challenge.rw_trundleyard_k82_yard_merges.prog) (w := w) (base := base) B F_law_yard D_law_draw
    have D_law_grown := K82.d_law_grown (P := PySem.Challenge.rw_trundleyard_k82_yard_merges.prog) (w := w) (base := base) B F_law_grown D_law_copy D_law_draw D_law_menu
    obtain ⟨fb, hb, ok⟩ := K82.d_law (P := PySem.Challenge.rw_trundleyard_k82_yard_merges.prog) (w := w) (base := base) B F_law D_law_words D_merge_yards D_law_merge D_error_words D_law_grown D_law_yard D_law_jar
    have e := hmg.symm.trans hb
    cases e
    exact ok
#print axioms PySem.Challenge.cw_trundleyard_k82_yard_merges_holds

