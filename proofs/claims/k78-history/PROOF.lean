import PyProof.Rows.All
import Wide.All
import OpenK.AllK
import Wide.FinOn
import HandS.ForMost
import HandS.ForExc
import HandS.DeepEq
import HandS.DictComp
import HandS.Small
import HandS.IsInst
import HandS.ExcInit
import HandS.RaiseMore
import HandS.Flow
import HandS.Style
import PyProof.ReprRoads
import KE.DataEq
import HandS.RaiseOp
import HandS.Walk
import HandS.SortInts
import HandS.ExcField
import HandS.ExcIs
import PyProof.ReprBulk
import KE.KSortTupAny
import HandS.SortRule
import KE.KEqNest
import PyProof.NeKinds
import HandS.Set
import HandS.SetFor
import HandS.Strs
import HandS.CallSlots
import HandS.TupSets
import HandS.SetBool
import HandS.Exc
import KE.KDictSum
import HandS.Conv
import HandS.ExcCtx
import HandS.HotCalls
import HandS.ExcInitHot
import HandS.Iter
import KE.KDictList
import HandS.More
import HandS.ExcOwn
import HandS.TryOnly
import HandS.SuiteRaise
import PySem.Challenge.RW_trundleyard_k78_history
set_option Elab.async false
set_option linter.all false
set_option maxRecDepth 100000
namespace TU
open PySem PySem.Spec PyProof.Rows L2

/-- data as trees -/
inductive Tr where
  | non | bl (b : Bool) | int (i : Int) | str (x : Str)
  | lst (xs : List Tr) | tup (xs : List Tr) | dic (kvs : List (Key × Tr))

-- v reads as the tree d in H; the addresses of its lists and dicts satisfy P
mutual
inductive T (K : PySem.W.Frag) (H : Hp) (P : Addr → Prop) : V → Tr → Prop
  | non : T K H P .non .non
  | bl (b : Bool) : T K H P (.bl b) (.bl b)
  | int (i : Int) : T K H P (.int i) (.int i)
  | str (x : Str) : T K H P (.str x) (.str x)
  | lst {a : Addr} {xs : List V} {ds : List Tr} : P a → SqL K H a xs → Ts K H P xs ds → T K H P (.ref a) (.lst ds)
  | tup {a : Addr} {xs : List V} {ds : List Tr} : SqT K H a xs → Ts K H P xs ds → T K H P (.ref a) (.tup ds)
  | dic {a : Addr} {kvs : List (Key × V)} {es : List (Key × Tr)} : P a → Rd H a (.dK kvs) → Tk K H P kvs es → T K H P (.ref a) (.dic es)
inductive Ts (K : PySem.W.Frag) (H : Hp) (P : Addr → Prop) : List V → List Tr → Prop
  | nil : Ts K H P [] []
  | cons {v : V} {vs : List V} {d : Tr} {ds : List Tr} : T K H P v d → Ts K H P vs ds → Ts K H P (v :: vs) (d :: ds)
inductive Tk (K : PySem.W.Frag) (H : Hp) (P : Addr → Prop) : List (Key × V) → List (Key × Tr) → Prop
  | nil : Tk K H P [] []
  | cons {k : Key} {v : V} {vs : List (Key × V)} {d : Tr} {ds : List (Key × Tr)} : T K H P v d → Tk K H P vs ds → Tk K H P ((k, v) :: vs) ((k, d) :: ds)
end

/-- what W does not hold is kept -/
def Keeps (W : Addr → Prop) (H H' : Hp) : Prop := ∀ a o, ¬ W a → H a = some o → H' a = some o
theorem Keeps.of_same {W : Addr → Prop} {H H' : Hp} (s : Same H H') : Keeps W H H' := fun a o _ e => s a o e
theorem Keeps.same {H H' : Hp} (s : Keeps (fun _ => False) H H') : Same H H' := fun a o e => s a o (fun z => z) e

section
variable {K : PySem.W.Frag} {H H' : Hp} {P P' W : Addr → Prop}
theorem sqT_keep (k : Keeps W H H') (nt : ∀ a xs, W a → ¬ Rd H a (.tup xs)) {a : Addr} {xs : List V} (h : SqT K H a xs) : SqT K H' a xs := by
  rcases h with h | h
  · have nw : ¬ W a := fun z => nt a xs z h
    rcases h with h | ⟨o, h⟩
    · exact .inl (.inl (k a _ nw h))
    · exact .inl (.inr ⟨o, k a _ nw h⟩)
  · exact .inr h
theorem sqL_keep (k : Keeps W H H') {a : Addr} {xs : List V} (nw : ¬ W a) (h : SqL K H a xs) : SqL K H' a xs := by
  rcases h with h | h
  · rcases h with h | ⟨o, h⟩
    · exact .inl (.inl (k a _ nw h))
    · exact .inl (.inr ⟨o, k a _ nw h⟩)
  · exact .inr h
theorem rd_keep (k : Keeps W H H') {a : Addr} {u : HO} (nw : ¬ W a) (h : Rd H a u) : Rd H' a u := by
  rcases h with h | ⟨o, h⟩
  · exact .inl (k a _ nw h)
  · exact .inr ⟨o, k a _ nw h⟩
mutual
theorem T.keep (k : Keeps W H H') (nt : ∀ a xs, W a → ¬ Rd H a (.tup xs)) (hp : ∀ a, P a → P' a ∧ ¬ W a) : ∀ {v : V} {d : Tr}, T K H P v d → T K H' P' v d
  | _, _, .non => .non
  | _, _, .bl b => .bl b
  | _, _, .int i => .int i
  | _, _, .str x => .str x
  | _, _, .lst p h t => .lst (hp _ p).1 (sqL_keep k (hp _ p).2 h) (Ts.keep k nt hp t)
  | _, _, .tup h t => .tup (sqT_keep k nt h) (Ts.keep k nt hp t)
  | _, _, .dic p h t => .dic (hp _ p).1 (rd_keep k (hp _ p).2 h) (Tk.keep k nt hp t)
theorem Ts.keep (k : Keeps W H H') (nt : ∀ a xs, W a → ¬ Rd H a (.tup xs)) (hp : ∀ a, P a → P' a ∧ ¬ W a) : ∀ {v : List V} {d : List Tr}, Ts K H P v d → Ts K H' P' v d
  | _, _, .nil => .nil
  | _, _, .cons h t => .cons (T.keep k nt hp h) (Ts.keep k nt hp t)
theorem Tk.keep (k : Keeps W H H') (nt : ∀ a xs, W a → ¬ Rd H a (.tup xs)) (hp : ∀ a, P a → P' a ∧ ¬ W a) : ∀ {v : List (Key × V)} {d : List (Key × Tr)}, Tk K H P v d → Tk K H' P' v d
  | _, _, .nil => .nil
  | _, _, .cons h t => .cons (T.keep k nt hp h) (Tk.keep k nt hp t)
end
theorem T.mono (s : Same H H') {v : V} {d : Tr} (h : T K H P v d) : T K H' P v d := h.keep (W := fun _ => False) (.of_same s) (fun _ _ z => z.elim) fun _ p => ⟨p, fun z => z⟩
theorem Ts.mono (s : Same H H') {v : List V} {d : List Tr} (h : Ts K H P v d) : Ts K H' P v d := h.keep (W := fun _ => False) (.of_same s) (fun _ _ z => z.elim) fun _ p => ⟨p, fun z => z⟩
theorem Tk.mono (s : Same H H') {v : List (Key × V)} {d : List (Key × Tr)} (h : Tk K H P v d) : Tk K H' P v d := h.keep (W := fun _ => False) (.of_same s) (fun _ _ z => z.elim) fun _ p => ⟨p, fun z => z⟩
theorem T.imp (hp : ∀ a, P a → P' a) {v : V} {d : Tr} (h : T K H P v d) : T K H P' v d := h.keep (W := fun _ => False) (.of_same (Same.refl H)) (fun _ _ z => z.elim) fun a p => ⟨hp a p, fun z => z⟩
theorem Ts.imp (hp : ∀ a, P a → P' a) {v : List V} {d : List Tr} (h : Ts K H P v d) : Ts K H P' v d := h.keep (W := fun _ => False) (.of_same (Same.refl H)) (fun _ _ z => z.elim) fun a p => ⟨hp a p, fun z => z⟩
theorem Tk.imp (hp : ∀ a, P a → P' a) {v : List (Key × V)} {d : List (Key × Tr)} (h : Tk K H P v d) : Tk K H P' v d := h.keep (W := fun _ => False) (.of_same (Same.refl H)) (fun _ _ z => z.elim) fun a p => ⟨hp a p, fun z => z⟩
/-- an object that is no tuple is changed -/
theorem nt_of {p : Addr} {o : HO} (h : H p = some o) (n : ∀ xs, o ≠ .tup xs) (n2 : ∀ u v, o ≠ .frz u v) : ∀ a xs, a = p → ¬ Rd H a (.tup xs) := by
  rintro a xs rfl (e | ⟨u, e⟩)
  · rw [h] at e
    exact n xs (Option.some.inj e)
  · rw [h] at e
    exact n2 _ _ (Option.some.inj e)
theorem keeps_upd {p : Addr} {o : HO} : Keeps (fun a => a = p) H (upd H p o) := fun a u n e => by
  rw [upd_ne n]
  exact e
theorem T.upd {p : Addr} {o o' : HO} (e : H p = some o) (n : ∀ xs, o ≠ .tup xs) (n2 : ∀ u v, o ≠ .frz u v) (hp : ∀ a, P a → a ≠ p) {v : V} {d : Tr} (h : T K H P v d) : T K (upd H p o') P v d :=
  h.keep keeps_upd (nt_of e n n2) fun a q => ⟨q, hp a q⟩
theorem Ts.upd {p : Addr} {o o' : HO} (e : H p = some o) (n : ∀ xs, o ≠ .tup xs) (n2 : ∀ u v, o ≠ .frz u v) (hp : ∀ a, P a → a ≠ p) {v : List V} {d : List Tr} (h : Ts K H P v d) : Ts K (upd H p o') P v d :=
  h.keep keeps_upd (nt_of e n n2) fun a q => ⟨q, hp a q⟩
theorem Tk.upd {p : Addr} {o o' : HO} (e : H p = some o) (n : ∀ xs, o ≠ .tup xs) (n2 : ∀ u v, o ≠ .frz u v) (hp : ∀ a, P a → a ≠ p) {v : List (Key × V)} {d : List (Key × Tr)} (h : Tk K H P v d) : Tk K (upd H p o') P v d :=
  h.keep keeps_upd (nt_of e n n2) fun a q => ⟨q, hp a q⟩
theorem same_new {p : Addr} {o : HO} (h : H p = none) : Same H (upd H p o) := fun b u e => by
  rw [upd_ne (ne_of_none e h)]
  exact e
theorem Ts.length : ∀ {v : List V} {d : List Tr}, Ts K H P v d → v.length = d.length
  | _, _, .nil => rfl
  | _, _, .cons _ t => congrArg Nat.succ (Ts.length t)
theorem Tk.length : ∀ {v : List (Key × V)} {d : List (Key × Tr)}, Tk K H P v d → v.length = d.length
  | _, _, .nil => rfl
  | _, _, .cons _ t => congrArg Nat.succ (Tk.length t)
theorem Tk.keys : ∀ {v : List (Key × V)} {d : List (Key × Tr)}, Tk K H P v d → v.map (·.1) = d.map (·.1)
  | _, _, .nil => rfl
  | _, _, .cons _ t => by
    rw [List.map_cons, List.map_cons, Tk.keys t]
theorem Ts.get : ∀ {vs : List V} {ds : List Tr} {i : Nat} {v : V}, Ts K H P vs ds → vs[i]? = some v → ∃ d, ds[i]? = some d ∧ T K H P v d
  | _, _, _, _, .nil, e => by simp at e
  | _, _, 0, _, .cons h _, e => by
    simp at e
    subst e
    exact ⟨_, rfl, h⟩
  | _, _, i + 1, v, .cons _ t, e => by
    obtain ⟨d, h1, h2⟩ := Ts.get (i := i) (v := v) t (by simpa using e)
    exact ⟨d, by simpa using h1, h2⟩
theorem Ts.get' : ∀ {vs : List V} {ds : List Tr} {i : Nat} {d : Tr}, Ts K H P vs ds → ds[i]? = some d → ∃ v, vs[i]? = some v ∧ T K H P v d
  | _, _, _, _, .nil, e => by simp at e
  | _, _, 0, _, .cons h _, e => by
    simp at e
    subst e
    exact ⟨_, rfl, h⟩
  | _, _, i + 1, d, .cons _ t, e => by
    obtain ⟨v, h1, h2⟩ := Ts.get' (i := i) (d := d) t (by simpa using e)
    exact ⟨v, by simpa using h1, h2⟩
theorem Ts.append : ∀ {v u : List V} {d e : List Tr}, Ts K H P v d → Ts K H P u e → Ts K H P (v ++ u) (d ++ e)
  | _, _, _, _, .nil, h => h
  | _, _, _, _, .cons h t, h' => .cons h (Ts.append t h')
theorem Ts.one {v : V} {d : Tr} (h : T K H P v d) : Ts K H P [v] [d] := .cons h .nil
theorem Tk.append : ∀ {v u : List (Key × V)} {d e : List (Key × Tr)}, Tk K H P v d → Tk K H P u e → Tk K H P (v ++ u) (d ++ e)
  | _, _, _, _, .nil, h => h
  | _, _, _, _, .cons h t, h' => .cons h (Tk.append t h')

/-! ### dicts as lists of pairs -/
def getD (kvs : List (Key × Tr)) (k : Key) : Option Tr := (kvs.find? fun kv => decide (kv.1 = k)).map (·.2)
def putD (kvs : List (Key × Tr)) (k : Key) (v : Tr) : List (Key × Tr) :=
  if (kvs.any fun kv => decide (kv.1 = k)) = true then kvs.map (fun kv => if kv.1 = k then (kv.1, v) else kv) else kvs ++ [(k, v)]
def delD (kvs : List (Key × Tr)) (k : Key) : List (Key × Tr) := kvs.filter fun kv => decide (kv.1 ≠ k)
theorem getD_cons (p : Key × Tr) (r : List (Key × Tr)) (k : Key) : getD (p :: r) k = if p.1 = k then some p.2 else getD r k := by
  by_cases e : p.1 = k
  · simp [getD, List.find?_cons, e]
  · simp [getD, List.find?_cons, e]
theorem Tk.get : ∀ {kvs : List (Key × V)} {es : List (Key × Tr)} (k : Key), Tk K H P kvs es → (valV kvs k = none ∧ getD es k = none) ∨ ∃ v d, valV kvs k = some v ∧ getD es k = some d ∧ T K H P v d
  | _, _, k, .nil => .inl ⟨rfl, rfl⟩
  | _, _, k, .cons (k := k0) h t => by
    by_cases e : k0 = k
    · refine .inr ⟨_, _, valV_pos e, ?_, h⟩
      rw [getD_cons, if_pos e]
    · rw [valV_neg (p := (k0, _)) e, getD_cons, if_neg e]
      exact Tk.get k t
theorem Tk.gets {kvs : List (Key × V)} {es : List (Key × Tr)} {k : Key} {d : Tr} (h : Tk K H P kvs es) (e : getD es k = some d) : ∃ v, valV kvs k = some v ∧ T K H P v d := by
  rcases h.get k with ⟨_, z⟩ | ⟨v, d', h1, h2, h3⟩
  · rw [z] at e
    cases e
  · rw [h2] at e
    cases e
    exact ⟨v, h1, h3⟩
theorem Tk.getn {kvs : List (Key × V)} {es : List (Key × Tr)} {k : Key} (h : Tk K H P kvs es) (e : getD es k = none) : valV kvs k = none := by
  rcases h.get k with ⟨z, _⟩ | ⟨v, d', h1, h2, h3⟩
  · exact z
  · rw [h2] at e
    cases e
theorem Tk.isSome {kvs : List (Key × V)} {es : List (Key × Tr)} {k : Key} (h : Tk K H P kvs es) : (valV kvs k).isSome = (getD es k).isSome := by
  rcases h.get k with ⟨z, z'⟩ | ⟨v, d', h1, h2, h3⟩
  · rw [z, z'] <;> rfl
  · rw [h1, h2] <;> rfl
theorem Tk.anyk : ∀ {kvs : List (Key × V)} {es : List (Key × Tr)} (k : Key), Tk K H P kvs es → (kvs.any fun kv => decide (kv.1 = k)) = (es.any fun kv => decide (kv.1 = k))
  | _, _, _, .nil => rfl
  | _, _, k, .cons _ t => by
    rw [List.any_cons, List.any_cons, Tk.anyk k t]
theorem Tk.mapput {k : Key} {v : V} {d : Tr} (hv : T K H P v d) : ∀ {kvs : List (Key × V)} {es : List (Key × Tr)}, Tk K H P kvs es → Tk K H P (kvs.map (fun kv => if kv.1 = k then (kv.1, v) else kv)) (es.map (fun kv => if kv.1 = k then (kv.1, d) else kv))
  | _, _, .nil => .nil
  | _, _, .cons (k := k0) h t => by
    rw [List.map_cons, List.map_cons]
    by_cases e : k0 = k
    · simp only [if_pos e]
      exact .cons hv (Tk.mapput hv t)
    · simp only [if_neg e]
      exact .cons h (Tk.mapput hv t)
theorem Tk.put {k : Key} {v : V} {d : Tr} {kvs : List (Key × V)} {es : List (Key × Tr)} (h : Tk K H P kvs es) (hv : T K H P v d) : Tk K H P (putK kvs k v) (putD es k d) := by
  unfold putK putD
  rw [h.anyk k]
  by_cases e : (es.any fun kv => decide (kv.1 = k)) = true
  · rw [if_pos e, if_pos e]
    exact h.mapput hv
  · rw [if_neg e, if_neg e]
    exact h.append (.cons hv .nil)
theorem Tk.del (k : Key) : ∀ {kvs : List (Key × V)} {es : List (Key × Tr)}, Tk K H P kvs es → Tk K H P (dropK kvs k) (delD es k)
  | _, _, .nil => .nil
  | _, _, .cons (k := k0) h t => by
    unfold dropK delD
    rw [List.filter_cons, List.filter_cons]
    by_cases e : k0 ≠ k
    · rw [if_pos (by simpa using e), if_pos (by simpa using e)]
      exact .cons h (Tk.del k t)
    · rw [if_neg (by simpa using e), if_neg (by simpa using e)]
      exact Tk.del k t
end
end TU

set_option Elab.async false
set_option linter.all false
set_option maxRecDepth 100000
namespace TU
open PySem PySem.Spec PyProof.Rows L2

/-! ### to the library's data -/
mutual
def py : Tr → PyData
  | .non => .none
  | .bl b => .bool b
  | .int i => .int i
  | .str x => .str x
  | .lst xs => .list (pys xs)
  | .tup xs => .tuple (pys xs)
  | .dic kvs => .dict (pyk kvs)
def pys : List Tr → List PyData
  | [] => []
  | x :: xs => py x :: pys xs
def pyk : List (Key × Tr) → List (PyData × PyData)
  | [] => []
  | p :: xs => ((match p.1 with | .inl i => .int i | .inr s => .str s), py p.2) :: pyk xs
end
mutual
/-- no dict within -/
def nod : Tr → Bool
  | .lst xs => nods xs
  | .tup xs => nods xs
  | .dic _ => false
  | _ => true
def nods : List Tr → Bool
  | [] => true
  | x :: xs => nod x && nods xs
end
mutual
/-- no list within -/
def nol : Tr → Bool
  | .lst _ => false
  | .tup xs => nols xs
  | .dic kvs => nolk kvs
  | _ => true
def nols : List Tr → Bool
  | [] => true
  | x :: xs => nol x && nols xs
def nolk : List (Key × Tr) → Bool
  | [] => true
  | p :: xs => nol p.2 && nolk xs
end
mutual
def dep : Tr → Nat
  | .lst xs => deps xs + 1
  | .tup xs => deps xs + 1
  | .dic kvs => depk kvs + 1
  | _ => 0
def deps : List Tr → Nat
  | [] => 0
  | x :: xs => max (dep x) (deps xs)
def depk : List (Key × Tr) → Nat
  | [] => 0
  | p :: xs => max (dep p.2) (depk xs)
end
mutual
theorem plain_py : ∀ d : Tr, nod d = true → (py d).plain = true
  | .non, _ => rfl
  | .bl _, _ => rfl
  | .int _, _ => rfl
  | .str _, _ => rfl
  | .lst xs, h => by
    have h' : nods xs = true := by simpa [nod] using h
    simp only [py, PyData.plain]
    exact plain_pys xs h'
  | .tup xs, h => by
    have h' : nods xs = true := by simpa [nod] using h
    simp only [py, PyData.plain]
    exact plain_pys xs h'
  | .dic _, h => by simp [nod] at h
theorem plain_pys : ∀ ds : List Tr, nods ds = true → PyData.plainAll (pys ds) = true
  | [], _ => rfl
  | x :: xs, h => by
    have h' : nod x = true ∧ nods xs = true := by simpa [nods] using h
    simp only [pys, PyData.plainAll, plain_py x h'.1, plain_pys xs h'.2, Bool.and_self]
end
mutual
theorem depth_py : ∀ d : Tr, (py d).depth = dep d
  | .non => rfl
  | .bl _ => rfl
  | .int _ => rfl
  | .str _ => rfl
  | .lst xs => by simp only [py, PyData.depth, dep, depth_pys xs]
  | .tup xs => by simp only [py, PyData.depth, dep, depth_pys xs]
  | .dic kvs => by simp only [py, PyData.depth, dep, depth_pyk kvs]
theorem depth_pys : ∀ ds : List Tr, PyData.depthAll (pys ds) = deps ds
  | [] => rfl
  | x :: xs => by simp only [pys, PyData.depthAll, deps, depth_py x, depth_pys xs]
theorem depth_pyk : ∀ ds : List (Key × Tr), PyData.depthKv (pyk ds) = depk ds
  | [] => rfl
  | (k, x) :: xs => by
    cases k <;> simp [pyk, PyData.depthKv, depk, depth_py x, depth_pyk xs, PyData.depth]
end

section
variable {X : Cx} {pins : List (Addr × Obj)} {σ : L2.St} {H : Hp} {s : Shared} {P : Addr → Prop}
theorem reads_keys {prog : Program} {w : World} {h : Heap} {es : List DictEntry} {kvs : List (Key × Value)} (r : Pairs (mixKind prog w) es kvs) : ∀ {ds : List (Key × Tr)}, kvs.map (·.1) = ds.map (·.1) →
    ReadsAll h (es.map (·.key)) ((pyk ds).map (·.1)) [] := by
  induction r with
  | nil =>
    intro ds hk
    cases ds with
    | nil => exact .nil
    | cons q ds => exact nomatch hk
  | @cons e p es kvs h1 h2 t ih =>
    intro ds hk
    cases ds with
    | nil => exact nomatch hk
    | cons q ds =>
      obtain ⟨k, d⟩ := q
      have hk' : p.1 = k ∧ kvs.map (·.1) = ds.map (·.1) := by simpa using hk
      have r1 : keyIs k e.key = true := by rw [← hk'.1]; exact h1
      have ih' := ih hk'.2
      simp only [List.map_cons, pyk]
      rcases keyIs_shape r1 with ⟨i, t, rfl, e2⟩ | ⟨x, t, rfl, e2⟩
      · rw [e2]
        exact ReadsAll.cons (as := []) (bs := []) (Reads.int i t) ih'
      · rw [e2]
        exact ReadsAll.cons (as := []) (bs := []) (Reads.str x t) ih'
theorem vals_of_pairs {prog : Program} {w : World} {es : List DictEntry} {kvs : List (Key × Value)} (r : Pairs (mixKind prog w) es kvs) : es.map (·.val) = kvs.map (·.2) := by
  induction r with
  | nil => rfl
  | cons h1 h2 t ih => rw [List.map_cons, List.map_cons, h2, ih]
theorem pyk_snd : ∀ ds : List (Key × Tr), (pyk ds).map (·.2) = pys (ds.map (·.2))
  | [] => rfl
  | p :: ds => by simp only [pyk, List.map_cons, pys, pyk_snd ds]
mutual
/-- a tree is read as the library's data; where no list lies within, sys.modules is none of its objects -/
theorem T.reads (I : Inv X pins σ H s) : ∀ (d : Tr) (v : V) (u : Value), T X.K H P v d → RelV v u → ∃ as, Reads s.heap u (py d) as ∧ (nol d = true → sysModules ∉ as)
  | .non, _, _, h, r => by
    cases h
    cases r
    exact ⟨_, Reads.none, fun _ h => nomatch h⟩
  | .bl b, _, _, h, r => by
    cases h
    cases r
    exact ⟨_, Reads.bool b, fun _ h => nomatch h⟩
  | .int i, _, _, h, r => by
    cases h
    obtain ⟨t, rfl⟩ := r
    exact ⟨_, Reads.int i t, fun _ h => nomatch h⟩
  | .str x, _, _, h, r => by
    cases h
    obtain ⟨t, rfl⟩ := r
    exact ⟨_, Reads.str x t, fun _ h => nomatch h⟩
  | .lst ds, _, _, h, r => by
    cases h with
    | lst p hs ha =>
      cases r
      obtain ⟨its, rv, ⟨o, n, ho, hc, _, hd⟩, _⟩ := I.list hs
      obtain ⟨as, hr, _⟩ := Ts.reads I ds _ its ha rv
      exact ⟨_, Reads.list ho hc hd hr, fun q => by simp [nol] at q⟩
  | .tup ds, _, _, h, r => by
    cases h with
    | tup hs ha =>
      cases r
      obtain ⟨its, rv, ⟨o, ho, hc, n, hd⟩, _⟩ := I.tuple hs
      obtain ⟨as, hr, hn⟩ := Ts.reads I ds _ its ha rv
      exact ⟨_, Reads.tuple ho hc hd hr, fun q => hn (by simpa [nol] using q)⟩
  | .dic ds, _, _, h, r => by
    cases h with
    | @dic a kvs _ p hs ha =>
      cases r
      obtain ⟨z, hd, vs, rel, o, es, ep, ho, hx, hdat, hk, hp, nd⟩ := dk_rd I.hok hs
      have hkeys : vs.map (·.1) = ds.map (·.1) := rel.keys.symm.trans ha.keys
      obtain ⟨bs, hr, hn⟩ := Tk.reads I ds kvs vs ha rel
      have e2 : es.toList.map (·.val) = vs.map (·.2) := vals_of_pairs hp
      rw [← e2, ← pyk_snd] at hr
      refine ⟨_, Reads.dict ho hx.1 hdat (reads_keys hp hkeys) hr, fun q => ?_⟩
      have q' : nolk ds = true := by simpa [nol] using q
      have hd' : a ≠ sysModules := by simpa using hd
      simp only [List.cons_append, List.nil_append, List.mem_cons, not_or]
      exact ⟨fun z => hd' z.symm, hn q'⟩
theorem Ts.reads (I : Inv X pins σ H s) : ∀ (ds : List Tr) (vs : List V) (us : List Value), Ts X.K H P vs ds → Vals vs us → ∃ as, ReadsAll s.heap us (pys ds) as ∧ (nols ds = true → sysModules ∉ as)
  | [], _, _, h, r => by
    cases h
    cases r
    exact ⟨_, ReadsAll.nil, fun _ h => nomatch h⟩
  | d :: ds, _, _, h, r => by
    cases h with
    | cons h1 h2 =>
      cases r with
      | cons r1 r2 =>
        obtain ⟨as, q1, n1⟩ := T.reads I d _ _ h1 r1
        obtain ⟨bs, q2, n2⟩ := Ts.reads I ds _ _ h2 r2
        refine ⟨_, ReadsAll.cons q1 q2, fun q => ?_⟩
        have q' : nol d = true ∧ nols ds = true := by simpa [nols] using q
        rw [List.mem_append, not_or]
        exact ⟨n1 q'.1, n2 q'.2⟩
theorem Tk.reads (I : Inv X pins σ H s) : ∀ (ds : List (Key × Tr)) (kvs : List (Key × V)) (vs : List (Key × Value)), Tk X.K H P kvs ds → KV kvs vs → ∃ as, ReadsAll s.heap (vs.map (·.2)) (pys (ds.map (·.2))) as ∧ (nolk ds = true → sysModules ∉ as)
  | [], _, _, h, r => by
    cases h
    cases r
    exact ⟨_, ReadsAll.nil, fun _ h => nomatch h⟩
  | d :: ds, _, _, h, r => by
    cases h with
    | cons h1 h2 =>
      cases r with
      | cons r1 r2 =>
        obtain ⟨as, q1, n1⟩ := T.reads I _ _ _ h1 r1.2
        obtain ⟨bs, q2, n2⟩ := Tk.reads I ds _ _ h2 r2
        refine ⟨_, ReadsAll.cons q1 q2, fun q => ?_⟩
        simp only [nolk, Bool.and_eq_true] at q
        rw [List.mem_append, not_or]
        exact ⟨n1 q.1, n2 q.2⟩
end
end

/-! ### operators of any kind -/
section
variable {X : Cx}
/-- a + b -/
def rAddU (K : PySem.W.Frag) : R2 := fun x y H Q => (∃ i j, x = .int i ∧ y = .int j ∧ Q (.int (i + j)) H) ∨ (∃ i j, x = .str i ∧ y = .str j ∧ i.length + j.length ≤ sizeLine ∧ Q (.str (i ++ j)) H) ∨ rCat x y H Q ∨ rCatT K x y H Q
theorem op_addU : OpR X (binaryOp .Add) (rAddU X.K) := op_add.or (op_add_str.or (op_cat.or op_catT))
theorem q_addI {K : PySem.W.Frag} {i j : Int} {H : Hp} {Q : VK} (q : Q (.int (i + j)) H) : rAddU K (.int i) (.int j) H Q := .inl ⟨i, j, rfl, rfl, q⟩
theorem q_addS {K : PySem.W.Frag} {i j : Str} {H : Hp} {Q : VK} (z : i.length + j.length ≤ sizeLine) (q : Q (.str (i ++ j)) H) : rAddU K (.str i) (.str j) H Q := .inr (.inl ⟨i, j, rfl, rfl, z, q⟩)
theorem q_addL {K : PySem.W.Frag} {a b : Addr} {xs ys : List V} {H : Hp} {Q : VK} (ha : H a = some (.lst xs)) (hb : H b = some (.lst ys)) (z : xs.length + ys.length ≤ sizeLine) (q : ∀ p, H p = none → Q (.ref p) (upd H p (.lst (xs ++ ys)))) :
    rAddU K (.ref a) (.ref b) H Q := .inr (.inr (.inl ⟨a, b, xs, ys, rfl, rfl, ha, hb, z, q⟩))
theorem q_addT {K : PySem.W.Frag} {a b : Addr} {xs ys : List V} {H : Hp} {Q : VK} (ha : SqT K H a xs) (hb : SqT K H b ys) (n1 : xs ≠ []) (n2 : ys ≠ []) (z : xs.length + ys.length ≤ sizeLine) (q : ∀ p, H p = none → Q (.ref p) (upd H p (.tup (xs ++ ys)))) :
    rAddU K (.ref a) (.ref b) H Q := .inr (.inr (.inr ⟨a, b, xs, ys, rfl, rfl, ha, hb, n1, z, fun e => absurd e n2, fun _ => q⟩))

/-- what == tells of two trees without dicts -/
def eqb (d e : Tr) : Bool := PyData.eqv (py d) (py e)
theorem eqb_refl {d : Tr} (h : nod d = true) : eqb d d = true := SeqAt.eqv_refl_plain _ (plain_py d h)
/-- a dict == another one: the values without dicts -/
def eqk (ks ls : List (Key × Tr)) : Bool := ks.length == ls.length && ks.all fun p => match getD ls p.1 with | some u => eqb p.2 u | none => false

/-- a == b: trees without dicts -/
def rEqT (K : PySem.W.Frag) (n : Nat) : R2 := fun x y H Q => ∃ P d e, T K H P x d ∧ T K H P y e ∧ nod d = true ∧ nod e = true ∧ dep d ≤ n ∧ Q (.bl (eqb d e)) H
def rNeT (K : PySem.W.Frag) (n : Nat) : R2 := fun x y H Q => ∃ P d e, T K H P x d ∧ T K H P y e ∧ nod d = true ∧ nod e = true ∧ dep d ≤ n ∧ Q (.bl (!eqb d e)) H
theorem op_eqT {n : Nat} (hu : X.A.units + n < cLine) : OpR X (compareOp .Eq) (rEqT X.K n) := by
  intro pins s σ H x y v u Q I rx ry h
  obtain ⟨P, d, e, hd, he, nd, ne, hn, q⟩ := h
  obtain ⟨as, r1, _⟩ := T.reads I d x v hd rx
  obtain ⟨bs, r2, _⟩ := T.reads I e y u he ry
  refine SeqAt.eq_plain r1 r2 (plain_py d nd) (plain_py e ne) ?_ ⟨.bl _, H, I, rfl, q⟩
  rw [depth_py, depth_py]
  have := Nat.min_le_left (dep d) (dep e)
  omega
theorem op_neT {n : Nat} (hu : X.A.units + n < cLine) : OpR X (compareOp .NotEq) (rNeT X.K n) := by
  intro pins s σ H x y v u Q I rx ry h
  obtain ⟨P, d, e, hd, he, nd, ne, hn, q⟩ := h
  obtain ⟨as, r1, _⟩ := T.reads I d x v hd rx
  obtain ⟨bs, r2, _⟩ := T.reads I e y u he ry
  refine SeqAt.ne_plain r1 r2 (plain_py d nd) (plain_py e ne) ?_ ⟨.bl _, H, I, rfl, q⟩
  rw [depth_py, depth_py]
  have := Nat.min_le_left (dep d) (dep e)
  omega

/-- the values that are met when two dicts are compared -/
theorem hits_of {pins : List (Addr × Obj)} {σ : L2.St} {H : Hp} {s : Shared} {P P' : Addr → Prop} {A : Around} {n : Nat} (I : Inv X pins σ H s) (hu : A.units + n < cLine) {ls : List (Key × Tr)} {vl : List (Key × V)} {vb : List (Key × Value)} (hl : Tk X.K H P' vl ls) (rb : KV vl vb) (nl : ∀ p ∈ ls, nod p.2 = true) :
    ∀ {ks : List (Key × Tr)} {vk : List (Key × V)} {va : List (Key × Value)}, Tk X.K H P vk ks → KV vk va → (∀ p ∈ ks, nod p.2 = true ∧ dep p.2 ≤ n) →
      ∃ b, PySem.W.KeqHits A s vb va b ∧ (b = ks.all fun p => match getD ls p.1 with | some u => eqb p.2 u | none => false)
  | [], _, _, h, r, _ => by
    cases h
    cases r
    exact ⟨true, .nil, rfl⟩
  | (k, d) :: ks, _, _, h, r, hn => by
    cases h with
    | @cons _ v vk _ _ h1 h2 =>
      cases r with
      | @cons _ q _ _ r1 r2 =>
        obtain ⟨e1, e2⟩ := r1
        obtain ⟨key, w'⟩ := q
        have e1' : k = key := e1
        subst e1'
        obtain ⟨b, hb, eb⟩ := hits_of I hu hl rb nl h2 r2 fun p hp => hn p (List.mem_cons_of_mem _ hp)
        have rr := rb.val k
        rcases hl.get k with ⟨z1, z2⟩ | ⟨u, e, z1, z2, z3⟩
        · rw [z1] at rr
          have e3 : valueAt vb k = none := by
            cases q : valueAt vb k with
            | none => rfl
            | some y =>
              rw [q] at rr
              exact (show False from rr).elim
          refine ⟨false, .miss e3, ?_⟩
          rw [List.all_cons]
          simp only [z2, Bool.false_and]
        · rw [z1] at rr
          obtain ⟨y, hy, ry⟩ := rr.some_of
          obtain ⟨as, q1, _⟩ := T.reads I d v w' h1 e2
          obtain ⟨bs, q2, _⟩ := T.reads I e u y z3 ry
          have ne : nod e = true := by
            have hm : ∃ p ∈ ls, p.1 = k ∧ p.2 = e := by
              unfold getD at z2
              cases q : ls.find? fun kv => decide (kv.1 = k) with
              | none =>
                rw [q] at z2
                cases z2
              | some p =>
                rw [q] at z2
                exact ⟨p, List.mem_of_find?_eq_some q, by simpa using List.find?_some q, Option.some.inj z2⟩
            obtain ⟨p, hp, _, hp2⟩ := hm
            rw [← hp2]
            exact nl p hp
          have hd := hn (k, d) List.mem_cons_self
          have EA : SeqAt.EqAt A s w' y (eqb d e) := SeqAt.eqAt_plain _ _ A s w' y _ _ q1 q2 (plain_py d hd.1) (plain_py e ne) (by
            rw [depth_py, depth_py]
            have h3 : dep d ≤ n := hd.2
            have := Nat.min_le_left (dep d) (dep e)
            omega)
          refine ⟨eqb d e && b, .hit hy EA hb, ?_⟩
          rw [List.all_cons]
          simp only [z2, eb]
def rEqK (neg : Bool) (K : PySem.W.Frag) (n : Nat) : R2 := fun x y H Q => ∃ P a b vk vl ks ls, x = .ref a ∧ y = .ref b ∧ Rd H a (.dK vk) ∧ Rd H b (.dK vl) ∧ Tk K H P vk ks ∧ Tk K H P vl ls ∧ (∀ p ∈ ks, nod p.2 = true ∧ dep p.2 ≤ n) ∧ (∀ p ∈ ls, nod p.2 = true) ∧ Q (.bl (if neg then !eqk ks ls else eqk ks ls)) H
theorem op_eqK {n : Nat} (hu : X.A.units + 1 + n < cLine) : OpR X (compareOp .Eq) (rEqK false X.K n) := by
  intro pins s σ H x y v u Q I rx ry h
  obtain ⟨P, a, b, vk, vl, ks, ls, rfl, rfl, ha, hb, ta, tb, na, nb, q⟩ := h
  cases (show v = Value.ref a from rx)
  cases (show u = Value.ref b from ry)
  obtain ⟨_, ya, va, ra, da⟩ := dk_rd I.hok ha
  obtain ⟨_, yb, vb, rb, db⟩ := dk_rd I.hok hb
  obtain ⟨r, hits, er⟩ := hits_of I (A := X.A.in1) hu tb rb nb ta ra na
  refine PySem.W.keq_eq (knd := mixKind X.prog X.w) ya yb da db (by omega) (fun _ => hits) ⟨.bl _, H, I, rfl, ?_⟩
  have e1 : va.length = ks.length := by rw [← ra.length, ta.length]
  have e2 : vb.length = ls.length := by rw [← rb.length, tb.length]
  rw [e1, e2, er]
  exact q
theorem op_neK {n : Nat} (hu : X.A.units + 1 + n < cLine) : OpR X (compareOp .NotEq) (rEqK true X.K n) := by
  intro pins s σ H x y v u Q I rx ry h
  obtain ⟨P, a, b, vk, vl, ks, ls, rfl, rfl, ha, hb, ta, tb, na, nb, q⟩ := h
  cases (show v = Value.ref a from rx)
  cases (show u = Value.ref b from ry)
  obtain ⟨_, ya, va, ra, da⟩ := dk_rd I.hok ha
  obtain ⟨_, yb, vb, rb, db⟩ := dk_rd I.hok hb
  obtain ⟨r, hits, er⟩ := hits_of I (A := X.A.in1) hu tb rb nb ta ra na
  refine PySem.W.keq_ne (knd := mixKind X.prog X.w) ya yb da db (by omega) (fun _ => hits) ⟨.bl _, H, I, rfl, ?_⟩
  have e1 : va.length = ks.length := by rw [← ra.length, ta.length]
  have e2 : vb.length = ls.length := by rw [← rb.length, tb.length]
  rw [e1, e2, er]
  exact q
/-- a == b, a != b of anything that is known here -/
def rEqU (K : PySem.W.Frag) : R2 := fun x y H Q => rEq x y H Q ∨ rEqT K 60 x y H Q ∨ rEqK false K 60 x y H Q
def rNeU (K : PySem.W.Frag) : R2 := fun x y H Q => rNe x y H Q ∨ rNeT K 60 x y H Q ∨ rEqK true K 60 x y H Q
theorem op_eqU (hu : X.A.units + 64 < cLine) : OpR X (compareOp .Eq) (rEqU X.K) := op_eq.or ((op_eqT (by omega)).or (op_eqK (by omega)))
theorem op_neU (hu : X.A.units + 64 < cLine) : OpR X (compareOp .NotEq) (rNeU X.K) := op_ne.or ((op_neT (by omega)).or (op_neK (by omega)))

/-- x in c, x not in c -/
def rInU (neg : Bool) (K : PySem.W.Frag) : R2 := fun x y H Q => (∃ a o, y = .ref a ∧ DGet H a x o ∧ Q (.bl (if neg then !o.isSome else o.isSome)) H) ∨
  (∃ P d ds, T K H P x d ∧ (T K H P y (.lst ds) ∨ T K H P y (.tup ds)) ∧ nod d = true ∧ nods ds = true ∧ dep d ≤ 60 ∧ Q (.bl (if neg then !ds.any fun z => eqb z d else ds.any fun z => eqb z d)) H) ∨
  (∃ i j, x = .str i ∧ y = .str j ∧ Q (.bl (if neg then (Builtin.Str.occurrences j i 0 j.length 1).isEmpty else !(Builtin.Str.occurrences j i 0 j.length 1).isEmpty)) H)
theorem any_pys (d : Tr) : ∀ ds : List Tr, ((pys ds).any fun z => PyData.eqv z (py d)) = ds.any fun z => eqb z d
  | [] => rfl
  | x :: xs => by rw [pys, List.any_cons, List.any_cons, any_pys d xs] <;> rfl
theorem op_inU (hu : X.A.units + 64 < cLine) : OpR X (compareOp .In) (rInU false X.K) := by
  intro pins s σ H x y v u Q I rx ry h
  rcases h with ⟨a, o, rfl, g, q⟩ | ⟨P, d, ds, hd, he, nd, ns, hn, q⟩ | ⟨i, j, rfl, rfl, q⟩
  · cases (show u = Value.ref a from ry)
    exact d_in (by omega) I g rx fun s3 I3 => ⟨.bl o.isSome, H, I3, rfl, q⟩
  · obtain ⟨as, r1, _⟩ := T.reads I d x v hd rx
    have hm : X.A.units + 1 + min (PyData.depthAll (pys ds)) (py d).depth < cLine := by
      rw [depth_py, depth_pys]
      have := Nat.min_le_right (deps ds) (dep d)
      omega
    rcases he with he | he
    · obtain ⟨bs, r2, _⟩ := T.reads I _ y u he ry
      exact SeqAt.in_list_data r2 r1 (plain_pys ds ns) (plain_py d nd) hm ⟨.bl _, H, I, rfl, by rw [any_pys]; exact q⟩
    · obtain ⟨bs, r2, _⟩ := T.reads I _ y u he ry
      exact SeqAt.in_tuple_data r2 r1 (plain_pys ds ns) (plain_py d nd) hm ⟨.bl _, H, I, rfl, by rw [any_pys]; exact q⟩
  · exact op_in_str pins s σ H _ _ v u Q I rx ry ⟨i, j, rfl, rfl, q⟩
theorem op_notInU (hu : X.A.units + 64 < cLine) : OpR X (compareOp .NotIn) (rInU true X.K) := by
  intro pins s σ H x y v u Q I rx ry h
  rcases h with ⟨a, o, rfl, g, q⟩ | ⟨P, d, ds, hd, he, nd, ns, hn, q⟩ | ⟨i, j, rfl, rfl, q⟩
  · cases (show u = Value.ref a from ry)
    exact d_notIn (by omega) I g rx fun s3 I3 => ⟨.bl (!o.isSome), H, I3, rfl, q⟩
  · obtain ⟨as, r1, _⟩ := T.reads I d x v hd rx
    have hm : X.A.units + 1 + min (PyData.depthAll (pys ds)) (py d).depth < cLine := by
      rw [depth_py, depth_pys]
      have := Nat.min_le_right (deps ds) (dep d)
      omega
    rcases he with he | he
    · obtain ⟨bs, r2, _⟩ := T.reads I _ y u he ry
      exact SeqAt.notIn_list_data r2 r1 (plain_pys ds ns) (plain_py d nd) hm ⟨.bl _, H, I, rfl, by rw [any_pys]; exact q⟩
    · obtain ⟨bs, r2, _⟩ := T.reads I _ y u he ry
      exact SeqAt.notIn_tuple_data r2 r1 (plain_pys ds ns) (plain_py d nd) hm ⟨.bl _, H, I, rfl, by rw [any_pys]; exact q⟩
  · exact op_notIn_str pins s σ H _ _ v u Q I rx ry ⟨i, j, rfl, rfl, by
      rw [Bool.not_not]
      exact q⟩

/-- c[k] -/
def rDIx : R2 := fun x y H Q => ∃ a v, x = .ref a ∧ DGet H a y (some v) ∧ Q v H
theorem ix_dict (hu : X.A.units + 1 < cLine) : IxR X rDIx := by
  intro value slice pins s σ H x y v u Q I rx ry h hs
  obtain ⟨a, w, rfl, g, q⟩ := h
  cases (show v = Value.ref a from rx)
  exact PyProof.Rows.tail_any (dict_typeIs I g) PySem.F.slot_dict_getitem.lookup (d_getItem hu I g ry fun w' s3 I3 rw' => ⟨w, H, I3, rw', q⟩) hs
def rIxU (K : PySem.W.Frag) : R2 := fun x y H Q => rIxL K x y H Q ∨ rIxT K x y H Q ∨ rIxS x y H Q ∨ rDIx x y H Q
theorem ix_any (hu : X.A.units + 64 < cLine) : IxR X (rIxU X.K) := ix_list.or (ix_tup.or (ix_str.or (ix_dict (by omega))))
/-- c[k] = v -/
def rSetU : TSet := fun o i v H Q => rSetL o i v H Q ∨ rSetD o i v H Q
theorem set_any (hu : X.A.units + 64 < cLine) : PSet X rSetU := by
  intro pins s σ H o i v ov iv u Q I ro ri rv h
  rcases h with h | h
  · exact set_list pins s σ H o i v ov iv u Q I ro ri rv h
  · exact set_dict (by omega) pins s σ H o i v ov iv u Q I ro ri rv h
/-- c[lo:hi] -/
def rSlU (K : PySem.W.Frag) : V → Option Int → Option Int → Hp → VK → Prop := fun x lo hi H Q => rSlL K x lo hi H Q ∨ rSlT K x lo hi H Q ∨ rSlS x lo hi H Q
theorem sl_any : SlR X (rSlU X.K) := sl_list.or (sl_tup.or sl_str)
/-- len(c) -/
def rLenU (K : PySem.W.Frag) : List V → Hp → VK → Prop := fun xs H Q => (∃ p ys, xs = [.ref p] ∧ (SqL K H p ys ∨ SqT K H p ys) ∧ Q (.int ys.length) H) ∨ (∃ z, xs = [.str z] ∧ z.length ≤ sizeLine ∧ Q (.int z.length) H) ∨ ∃ a kvs, xs = [.ref a] ∧ Rd H a (.dK kvs) ∧ Q (.int kvs.length) H
theorem call_lenR : CallR X (.builtin "len") (fun xs H Q => ∃ a kvs, xs = [V.ref a] ∧ Rd H a (.dK kvs) ∧ Q (.int kvs.length) H) := by
  intro pins s σ H xs us Q I r h
  obtain ⟨a, kvs, rfl, hd, q⟩ := h
  obtain ⟨u, rfl, rx⟩ := vals1 r
  cases rx
  exact d_len I hd fun t s' I' => ⟨.int _, H, I', ⟨t, rfl⟩, q⟩
theorem call_lenU : CallR X (.builtin "len") (rLenU X.K) := call_len_seq.or (call_len_str.or call_lenR)
/-- list(c) -/
def rListU (K : PySem.W.Frag) : List V → Hp → VK → Prop := fun xs H Q => (∃ p ys, xs = [.ref p] ∧ (SqL K H p ys ∨ SqT K H p ys) ∧ ∀ l, H l = none → Q (.ref l) (upd H l (.lst ys))) ∨
  (∃ (a : Addr) (kvs : List (Key × V)), xs = [.ref a] ∧ Rd H a (.dK kvs) ∧ ∀ p, H p = none → Q (.ref p) (upd H p (.lst (kvs.map fun kv => kV kv.1))))
theorem call_listU (hc : X.calm = true) : CallR X (.type "list") (rListU X.K) := call_list_of.or (call_listD hc)
/-- repr(c) of a tree -/
def rReprT (K : PySem.W.Frag) : List V → Hp → VK → Prop := fun xs H Q => ∃ P a d, xs = [.ref a] ∧ T K H P (.ref a) d ∧ (py d).showable = true ∧ ((py d).hasDict = true → nol d = true) ∧ dep d ≤ 60 ∧ (py d).shown.length ≤ sizeLine ∧ Q (.str (py d).shown) H
theorem call_reprT (hg : X.A.guards = some []) (hu : X.A.units + 64 < cLine) : CallR X (.builtin "repr") (rReprT X.K) := by
  intro pins s σ H xs us Q I r h
  obtain ⟨P, a, d, rfl, ht, hs, hn, hd, hz, q⟩ := h
  obtain ⟨u, rfl, rx⟩ := vals1 r
  cases (show u = Value.ref a from rx)
  obtain ⟨as, r1, na⟩ := T.reads I d _ _ ht rfl
  exact repr_of_reads' r1 hs (fun z => na (hn z)) hg (by rw [depth_py]; omega) (fun _ _ e => e) (fun h' u tk k => ⟨.str _, H, I.kept (t' := tk) k, ⟨u, rfl⟩, q⟩) hz
end
end TU

set_option Elab.async false
set_option linter.all false
set_option maxRecDepth 100000
namespace TU
open PySem PySem.Spec PyProof.Rows L2

/-! ### one of two rules -/
section
variable {X : Cx}
theorem PEor {e : Expr} {t t' : TE} (h : PE X e t) (h' : PE X e t') : PE X e (fun σ H Q => t σ H Q ∨ t' σ H Q) := ⟨fun pins s σ H Q I q => q.elim (h.run pins s σ H Q I) (h'.run pins s σ H Q I)⟩
theorem PSor {e : Stmt} {t t' : TS} (h : PS X e t) (h' : PS X e t') : PS X e (fun D σ H => t D σ H ∨ t' D σ H) := ⟨fun pins s σ H Q I q => q.elim (h.run pins s σ H Q I) (h'.run pins s σ H Q I)⟩
theorem PIor {tg e : Expr} {t t' : TI} (h : PI X tg e t) (h' : PI X tg e t') : PI X tg e (fun σ H R => t σ H R ∨ t' σ H R) := ⟨fun pins s σ H Q I q => q.elim (h.run pins s σ H Q I) (h'.run pins s σ H Q I)⟩
/-- what a for walks: a list, a tuple, a dict that is locked -/
def iAny (K : PySem.W.Frag) (te : TE) : TI := fun σ H R => iList K te σ H R ∨ iTup K te σ H R ∨ iKeys te σ H R
theorem pi_any {tg e : Expr} {te : TE} (h : PE X e te) : PI X tg e (iAny X.K te) := PIor (pi_list h) (PIor (pi_tup h) (pi_keys h))
/-- .. the dict locked here -/
def tLockU (t : TS) : TS := fun D σ H => t D σ H ∨ tLock t D σ H
theorem ps_lockU {e : Stmt} {t : TS} (h : PS X e t) : PS X e (tLockU t) := PSor h (ps_lock h)
def tLockEU (t : TE) : TE := fun σ H Q => t σ H Q ∨ tLockE t σ H Q
theorem pe_lockU {e : Expr} {t : TE} (h : PE X e t) : PE X e (tLockEU t) := PEor h (pe_lock h)
end

/-! ### a def of the text, called -/
structure Df (P : Program) (w : World) (K : PySem.W.Frag) (mg : Str → Option Value) (base : Heap) (x : Str) (ps : List Str) (k : Nat) (sp : Sp) : Prop where
  ex : ∃ f fd, FnOk P w K mg base (L2.CX P w) k f fd ps sp ∧ mg x = some (.ref f) ∧ PySem.W.keepIn K (.ref f) = true ∧ Binds K fd ps []
structure TopF (K : PySem.W.Frag) (mg : Str → Option Value) (x : Str) (st : Stmt) (ps : List Str) : Prop where
  ex : ∃ f fd, Fun K x x st f fd ∧ mg x = some (.ref f) ∧ Binds K fd ps []
section
variable {P : Program} {w : World} {K : PySem.W.Frag} {mg : Str → Option Value} {base : Heap}
theorem TopF.df {x : Str} {st : Stmt} {N ps : List Str} {k : Nat} {sp : Sp} (F : TopF K mg x st ps) (S : FnScope N ps (defScope st)) (len : ∀ vs H Q E, sp vs H Q E → vs.length = ps.length)
    (hbody : ∀ (f : Addr) (cdv : Value) (A : Around) (outer : List Env) (s : Shared) (H : Hp) (vs : List V) (Q : VK) (E : XK), Room k (A.deeper (envOfC x (defScope st) s.heap.objs.size f cdv)) → sp vs H Q E →
      ∃ t, PSs (cxOf (L2.CX P w) P w K mg base N x (defScope st) f cdv A outer s H E) (defBody st) t ∧ t { nx := fun _ H' => Q .non H', rt := Q } (start N vs) H) : Df P w K mg base x ps (k + 1) sp := by
  obtain ⟨f, fd, F0, hm, hb⟩ := F.ex
  exact ⟨f, fd, F0.okX S len fun cdv A outer s H vs Q E hr h => hbody f cdv A outer s H vs Q E hr h, hm, F0.kp, hb⟩
theorem Df.imp {x : Str} {ps : List Str} {k : Nat} {sp sp' : Sp} (F : Df P w K mg base x ps k sp) (h : ∀ vs H Q E, sp' vs H Q E → sp vs H Q E) : Df P w K mg base x ps k sp' := by
  obtain ⟨f, fd, F0, r⟩ := F.ex
  exact ⟨f, fd, F0.imp h, r⟩
end
section
variable {X : Cx} {k : Nat} {ps : List Str} {sp : Sp} {x : Str} {p pos : Pos} {e : Expr} {es : List Expr} {t : TA} 
/-- its call, where exceptions go on as E says -/
theorem pe_df {E : L2.St → XK} (F : Df X.prog X.w X.K X.mg X.base x ps k sp) (hr : Room k X.A) (hx : ∀ σ, PassesAt (L2.CX X.prog X.w) X σ (E σ)) (ha : PA X (e :: es) t) (hg : Gl X x := by rfl)
    (hdb : (x == ("__debug__" : Str)) = false := by decide) (he : starEach (e :: es) X.env = (false, eval e X.env) :: starEach es X.env := by rfl) (hpl : (backTo pos (starEach es X.env)).any (·.1) = false := by rfl) :
    PE X (.Call (.Name x p) (e :: es) [] pos) (tCallS sp E t) := by
  obtain ⟨f, fd, F0, hm, hk, hb⟩ := F.ex
  exact pe_callS F0 hr hg hm hk hb hx ha hdb he hpl
/-- its call, where nothing is raised -/
theorem pe_df0 (F : Df X.prog X.w X.K X.mg X.base x ps k sp) (hr : Room k X.A) (ha : PA X (e :: es) t) (hg : Gl X x := by rfl)
    (hdb : (x == ("__debug__" : Str)) = false := by decide) (he : starEach (e :: es) X.env = (false, eval e X.env) :: starEach es X.env := by rfl) (hpl : (backTo pos (starEach es X.env)).any (·.1) = false := by rfl) :
    PE X (.Call (.Name x p) (e :: es) [] pos) (tCallS sp (fun _ => E0) t) := by
  obtain ⟨f, fd, F0, hm, hk, hb⟩ := F.ex
  exact pe_callS F0 hr hg hm hk hb (fun _ _ s s' e' H' I h => passL _ _ _ _ _ _ I h) ha hdb he hpl
end

/-! ### readings, step by step -/
section
variable {K : PySem.W.Frag} {σ : L2.St} {H : Hp} {D : Ends} {Q : VK} {te ta tb tk : TE} {t u : TS} {g : TG} {i : Nat} {v : V} {c : TT} {tr : TA}
theorem q_seq (h : t { D with nx := u D } σ H) : tSeq t u D σ H := h
theorem q_asg (h : te σ H fun x H1 => g x σ H1 D.nx) : tAsg te g D σ H := h
theorem q_drop (h : te σ H fun _ H1 => D.nx σ H1) : tDrop te D σ H := h
theorem q_ret (h : te σ H D.rt) : tRet te D σ H := h
theorem q_retN (h : D.rt .non H) : tRetN D σ H := h
theorem q_next (h : D.nx σ H) : tNext D σ H := h
theorem q_if (h : c σ H fun b H1 => if b = true then t D σ H1 else u D σ H1) : tIfS c t u D σ H := h
theorem q_gname {R : L2.St → Hp → Prop} (h : R (σ.set i (some v)) H) : gName i v σ H R := h
theorem q_gsub {to ti : TE} {ts : TSet} {R : L2.St → Hp → Prop} (h : to σ H fun o H1 => ti σ H1 fun i H2 => ts o i v H2 fun H3 => R σ H3) : gSub to ti ts v σ H R := h
theorem q_var (h : σ[i]? = some (some v)) (q : Q v H) : tVar i σ H Q := ⟨v, h, q⟩
theorem q_c (q : Q v H) : tC v σ H Q := q
theorem q_op {r : R2} (h : ta σ H fun x H1 => tb σ H1 fun y H2 => r x y H2 Q) : tOp r ta tb σ H Q := h
theorem q_un {r : V → Hp → VK → Prop} (h : ta σ H fun x H1 => r x H1 Q) : tUn r ta σ H Q := h
theorem q_U {f : Int → V} {a : Int} (q : Q (f a) H) : rU f (.int a) H Q := ⟨a, rfl, q⟩
theorem q_I0 {f : Int → Int → V} {a b : Int} (q : Q (f a b) H) : rI0 f (.int a) (.int b) H Q := ⟨a, b, rfl, rfl, q⟩
theorem q_I {C : Int → Int → Prop} {f : Int → Int → V} {a b : Int} (hc : C a b) (q : Q (f a b) H) : rI C f (.int a) (.int b) H Q := ⟨a, b, rfl, rfl, hc, q⟩
theorem q_test {R : Bool → Hp → Prop} (h : te σ H fun x H' => ∃ k, x = .bl k ∧ R k H') : tTest te σ H R := h
theorem q_tB {R : Bool → Hp → Prop} (h : te σ H fun x H' => ∃ k, x = .bl k ∧ R k H') : tB te σ H R := h
theorem q_bl {b : Bool} {R : Bool → Prop} (h : R b) : ∃ k, V.bl b = V.bl k ∧ R k := ⟨b, rfl, h⟩
theorem q_not {R : Bool → Hp → Prop} (h : c σ H fun b H1 => R (!b) H1) : tNot c σ H R := h
theorem q_and {c' : TT} {R : Bool → Hp → Prop} (h : c σ H fun b H1 => if b = true then c' σ H1 R else R false H1) : tAnd c c' σ H R := h
theorem q_or {c' : TT} {R : Bool → Hp → Prop} (h : c σ H fun b H1 => if b = true then R true H1 else c' σ H1 R) : tOr c c' σ H R := h
theorem q_nil {R : List V → Hp → Prop} (h : R [] H) : tNil σ H R := h
theorem q_cons {R : List V → Hp → Prop} (h : ta σ H fun x H1 => tr σ H1 fun xs H2 => R (x :: xs) H2) : tCons ta tr σ H R := h
theorem q_callS {sp : Sp} {E : L2.St → XK} (h : tr σ H fun vs H1 => sp vs H1 Q (E σ)) : tCallS sp E tr σ H Q := h
theorem q_cb {r : List V → Hp → VK → Prop} (h : tr σ H fun vs H1 => r vs H1 Q) : tCB r tr σ H Q := h
theorem q_tup (h : tr σ H fun xs H1 => xs.length ≤ sizeLine ∧ ∀ p, H1 p = none → Q (.ref p) (upd H1 p (.tup xs))) : tTup tr σ H Q := h
theorem q_lst (h : tr σ H fun xs H1 => xs.length ≤ sizeLine ∧ ∀ p, H1 p = none → Q (.ref p) (upd H1 p (.lst xs))) : tLst tr σ H Q := h
theorem q_ifE (h : c σ H fun b H1 => if b = true then ta σ H1 Q else tb σ H1 Q) : tIf c ta tb σ H Q := h
theorem q_notV (h : ta σ H fun x H1 => ∃ c, x = .bl c ∧ Q (.bl (!c)) H1) : tNotV ta σ H Q := h
theorem q_andV (h : ta σ H fun x H1 => ∃ c, x = .bl c ∧ if c = true then tb σ H1 Q else Q (.bl false) H1) : tAndV ta tb σ H Q := h
theorem q_orV (h : ta σ H fun x H1 => ∃ c, x = .bl c ∧ if c = true then Q (.bl true) H1 else tb σ H1 Q) : tOrV ta tb σ H Q := h
theorem q_dnew (h : ∀ p, H p = none → Q (.ref p) (upd H p (.dK []))) : tDNewK σ H Q := h
theorem q_bm {T : String} {r : V → List V → Hp → VK → Prop} (h : ta σ H fun x H1 => tyV K T x H1 ∧ tr σ H1 fun xs H2 => r x xs H2 Q) : tBM K T r ta tr σ H Q := h
theorem q_size {n : Nat} {R : Prop} (h : n ≤ 1000) (r : R) : n ≤ sizeLine ∧ R := ⟨Nat.le_trans h (by decide), r⟩
/-- tests whose answer is known, or not -/
theorem q_t {A B : Prop} (h : A) : if true = true then A else B := by
  rw [if_pos rfl]
  exact h
theorem q_f {A B : Prop} (h : B) : if false = true then A else B := by
  rw [if_neg Bool.false_ne_true]
  exact h
theorem q_ite {b : Bool} {A B : Prop} (h1 : b = true → A) (h2 : b = false → B) : if b = true then A else B := by
  cases b with
  | true => exact q_t (h1 rfl)
  | false => exact q_f (h2 rfl)
theorem q_dec {p : Prop} [Decidable p] {A B : Prop} (h1 : p → A) (h2 : ¬ p → B) : if decide p = true then A else B := by
  by_cases h : p
  · rw [decide_eq_true h]
    exact q_t (h1 h)
  · rw [decide_eq_false h]
    exact q_f (h2 h)
theorem q_ndec {p : Prop} [Decidable p] {A B : Prop} (h1 : ¬ p → A) (h2 : p → B) : if (!decide p) = true then A else B := by
  by_cases h : p
  · rw [decide_eq_true h]
    exact q_f (h2 h)
  · rw [decide_eq_false h]
    exact q_t (h1 h)
/-! the operators -/
theorem q_eqI {a b : Int} (q : Q (.bl (decide (a = b))) H) : rEqU K (.int a) (.int b) H Q := .inl ⟨rfl, by
  have e : decide (V.int a = V.int b) = decide (a = b) := by simp
  rw [e]
  exact q⟩
theorem q_eqS {a b : Str} (q : Q (.bl (decide (a = b))) H) : rEqU K (.str a) (.str b) H Q := .inl ⟨rfl, by
  have e : decide (V.str a = V.str b) = decide (a = b) := by simp
  rw [e]
  exact q⟩
theorem q_eqB {a b : Bool} (q : Q (.bl (decide (a = b))) H) : rEqU K (.bl a) (.bl b) H Q := .inl ⟨rfl, by
  have e : decide (V.bl a = V.bl b) = decide (a = b) := by simp
  rw [e]
  exact q⟩
theorem q_neI {a b : Int} (q : Q (.bl (!decide (a = b))) H) : rNeU K (.int a) (.int b) H Q := .inl ⟨rfl, by
  have e : decide (V.int a = V.int b) = decide (a = b) := by simp
  rw [e]
  exact q⟩
theorem q_neS {a b : Str} (q : Q (.bl (!decide (a = b))) H) : rNeU K (.str a) (.str b) H Q := .inl ⟨rfl, by
  have e : decide (V.str a = V.str b) = decide (a = b) := by simp
  rw [e]
  exact q⟩
theorem q_eqT {P : Addr → Prop} {x y : V} {d e : Tr} (hd : T K H P x d) (he : T K H P y e) (nd : nod d = true) (ne : nod e = true) (hn : dep d ≤ 60) (q : Q (.bl (eqb d e)) H) : rEqU K x y H Q := .inr (.inl ⟨P, d, e, hd, he, nd, ne, hn, q⟩)
theorem q_neT {P : Addr → Prop} {x y : V} {d e : Tr} (hd : T K H P x d) (he : T K H P y e) (nd : nod d = true) (ne : nod e = true) (hn : dep d ≤ 60) (q : Q (.bl (!eqb d e)) H) : rNeU K x y H Q := .inr (.inl ⟨P, d, e, hd, he, nd, ne, hn, q⟩)
theorem q_eqK {P : Addr → Prop} {a b : Addr} {vk vl : List (Key × V)} {ks ls : List (Key × Tr)} (ha : Rd H a (.dK vk)) (hb : Rd H b (.dK vl)) (ta : Tk K H P vk ks) (tb : Tk K H P vl ls) (na : ∀ p ∈ ks, nod p.2 = true ∧ dep p.2 ≤ 60) (nb : ∀ p ∈ ls, nod p.2 = true)
    (q : Q (.bl (eqk ks ls)) H) : rEqU K (.ref a) (.ref b) H Q := .inr (.inr ⟨P, a, b, vk, vl, ks, ls, rfl, rfl, ha, hb, ta, tb, na, nb, q⟩)
theorem q_neK {P : Addr → Prop} {a b : Addr} {vk vl : List (Key × V)} {ks ls : List (Key × Tr)} (ha : Rd H a (.dK vk)) (hb : Rd H b (.dK vl)) (ta : Tk K H P vk ks) (tb : Tk K H P vl ls) (na : ∀ p ∈ ks, nod p.2 = true ∧ dep p.2 ≤ 60) (nb : ∀ p ∈ ls, nod p.2 = true)
    (q : Q (.bl (!eqk ks ls)) H) : rNeU K (.ref a) (.ref b) H Q := .inr (.inr ⟨P, a, b, vk, vl, ks, ls, rfl, rfl, ha, hb, ta, tb, na, nb, q⟩)
theorem dget_rd {a : Addr} {kvs : List (Key × V)} {k : Key} (e : Rd H a (.dK kvs)) : DGet H a (kV k) (valV kvs k) := .inl ⟨kvs, k, e, rfl, rfl⟩
theorem q_inD {a : Addr} {kvs : List (Key × V)} (k : Key) (e : Rd H a (.dK kvs)) (q : Q (.bl (valV kvs k).isSome) H) : rInU false K (kV k) (.ref a) H Q := .inl ⟨a, _, rfl, dget_rd e, q⟩
theorem q_ninD {a : Addr} {kvs : List (Key × V)} (k : Key) (e : Rd H a (.dK kvs)) (q : Q (.bl (!(valV kvs k).isSome)) H) : rInU true K (kV k) (.ref a) H Q := .inl ⟨a, _, rfl, dget_rd e, q⟩
theorem q_ixL {p : Addr} {xs : List V} {i : Int} (h : SqL K H p xs) (hi : atI xs i = some v) (q : Q v H) : rIxU K (.ref p) (.int i) H Q := .inl ⟨p, xs, i, v, rfl, rfl, h, hi, q⟩
theorem q_ixT {p : Addr} {xs : List V} {i : Int} (h : SqT K H p xs) (hi : atI xs i = some v) (q : Q v H) : rIxU K (.ref p) (.int i) H Q := .inr (.inl ⟨p, xs, i, v, rfl, rfl, h, hi, q⟩)
theorem q_ixK {a : Addr} {kvs : List (Key × V)} (k : Key) (e : Rd H a (.dK kvs)) (hv : valV kvs k = some v) (q : Q v H) : rIxU K (.ref a) (kV k) H Q := .inr (.inr (.inr ⟨a, v, rfl, by
  have g := dget_rd (k := k) e
  rw [hv] at g
  exact g, q⟩))
theorem q_setL {p : Addr} {xs : List V} {i : Int} {j : Nat} {R : Hp → Prop} (h : H p = some (.lst xs)) (hi : ixN xs.length i = some j) (q : R (upd H p (.lst (xs.set j v)))) : rSetU (.ref p) (.int i) v H R := .inl ⟨p, xs, i, j, rfl, rfl, h, hi, q⟩
theorem q_setD {a : Addr} {kvs : List (Key × V)} {R : Hp → Prop} (k : Key) (e : H a = some (.dK kvs)) (hl : kvs.length < sizeLine) (q : R (upd H a (.dK (putK kvs k v)))) : rSetU (.ref a) (kV k) v H R := .inr ⟨a, _, rfl, DPut.k e hl, q⟩
theorem q_lenL {p : Addr} {ys : List V} (h : SqL K H p ys) (q : Q (.int ys.length) H) : rLenU K [.ref p] H Q := .inl ⟨p, ys, rfl, .inl h, q⟩
theorem q_lenT {p : Addr} {ys : List V} (h : SqT K H p ys) (q : Q (.int ys.length) H) : rLenU K [.ref p] H Q := .inl ⟨p, ys, rfl, .inr h, q⟩
theorem q_lenK {p : Addr} {kvs : List (Key × V)} (h : Rd H p (.dK kvs)) (q : Q (.int kvs.length) H) : rLenU K [.ref p] H Q := .inr (.inr ⟨p, kvs, rfl, h, q⟩)
theorem q_listL {p : Addr} {ys : List V} (h : SqL K H p ys) (q : ∀ l, H l = none → Q (.ref l) (upd H l (.lst ys))) : rListU K [.ref p] H Q := .inl ⟨p, ys, rfl, .inl h, q⟩
theorem q_listT {p : Addr} {ys : List V} (h : SqT K H p ys) (q : ∀ l, H l = none → Q (.ref l) (upd H l (.lst ys))) : rListU K [.ref p] H Q := .inl ⟨p, ys, rfl, .inr h, q⟩
theorem q_listK {p : Addr} {kvs : List (Key × V)} (h : Rd H p (.dK kvs)) (q : ∀ l, H l = none → Q (.ref l) (upd H l (.lst (kvs.map fun kv => kV kv.1)))) : rListU K [.ref p] H Q := .inr ⟨p, kvs, rfl, h, q⟩
theorem q_append {l : Addr} {xs : List V} {y : V} (h : H l = some (.lst xs)) (hl : xs.length < sizeLine) (q : Q .non (upd H l (.lst (xs ++ [y])))) : rAppend (.ref l) [y] H Q := ⟨l, xs, y, rfl, rfl, h, hl, q⟩
theorem tyL {p : Addr} {xs : List V} {R : Prop} (h : H p = some (.lst xs)) (r : R) : tyV K "list" (.ref p) H ∧ R := ⟨.inl ⟨rfl, xs, .inl (.inl h)⟩, r⟩
theorem q_sl {r : V → Option Int → Option Int → Hp → VK → Prop} {tl th : TO} (h : te σ H fun x H1 => tl σ H1 fun l H2 => th σ H2 fun u H3 => r x l u H3 Q) : tSl r te tl th σ H Q := h
theorem q_part {R : Option Int → Hp → Prop} (h : te σ H fun x H1 => ∃ i, x = .int i ∧ R (some i) H1) : tPart te σ H R := h
theorem q_nopart {R : Option Int → Hp → Prop} (h : R none H) : tNoPart σ H R := h
theorem q_int {a : Int} {R : Int → Prop} (h : R a) : ∃ i, V.int a = V.int i ∧ R i := ⟨a, rfl, h⟩
theorem q_slL {p : Addr} {xs : List V} {lo hi : Option Int} (h : SqL K H p xs) (q : ∀ l, H l = none → Q (.ref l) (upd H l (.lst (cutV xs lo hi)))) : rSlU K (.ref p) lo hi H Q := .inl ⟨p, xs, rfl, h, q⟩
/-! loops -/
def forB (J : It) (g : TG) (tb : TS) (D : Ends) (σ : L2.St) (H : Hp) : Prop := ∃ W : Nat → Nat → L2.St → Hp → Prop, (∃ m, W 0 m σ H) ∧ ∀ i m σ H, W i m σ H →
      (J.stop i H ∧ D.nx σ H) ∨ (J.go i H ∧ ∃ N : L2.St → Hp → Prop, (∀ σ' H', N σ' H' → ∃ m', m' < m ∧ W (i + 1) m' σ' H') ∧ ∀ x H', J.yld i H x H' → g x σ H' fun σ2 H2 => tb { D with nx := N, ct := N, bk := D.nx } σ2 H2)
theorem q_for {wi : TI} {tb : TS} (h : wi σ H fun J H1 => forB J g tb D σ H1) : tFor wi g tb D σ H := h
theorem q_anyL {R : It → Hp → Prop} {a : Addr} {xs : List V} (h : te σ H fun x H1 => x = .ref a ∧ SqL K H1 a xs ∧ R (Itl K a) H1) (hm : ∀ Q Q' : VK, (∀ x H1, Q x H1 → Q' x H1) → te σ H Q → te σ H Q') : iAny K te σ H R :=
  .inl (hm _ _ (fun x H1 ⟨e, s, r⟩ => ⟨a, e, ⟨xs, s⟩, r⟩) h)
theorem q_iL {R : It → Hp → Prop} (h : te σ H fun x H1 => ∃ a, x = .ref a ∧ (∃ xs, SqL K H1 a xs) ∧ R (Itl K a) H1) : iAny K te σ H R := .inl h
theorem q_iT {R : It → Hp → Prop} (h : te σ H fun x H1 => ∃ a, x = .ref a ∧ (∃ xs, SqT K H1 a xs) ∧ R (Itt K a) H1) : iAny K te σ H R := .inr (.inl h)
theorem q_iK {R : It → Hp → Prop} (h : te σ H fun x H1 => ∃ d o kvs, x = .ref d ∧ H1 d = some (.frz o (.dK kvs)) ∧ R (Itk d o kvs) H1) (hm : ∀ Q Q' : VK, (∀ x H1, Q x H1 → Q' x H1) → te σ H Q → te σ H Q') : iAny K te σ H R :=
  .inr (.inr (hm _ _ (fun x H1 ⟨d, o, kvs, e, s, r⟩ => ⟨d, o, e, .inl ⟨kvs, s, r⟩⟩) h))
theorem for_any {J : It} {n : Nat} {G : Hp → Prop} {Y : Nat → Hp → V → Hp → Prop} {tb : TS} (w : Walk J n G Y) (Pv : Nat → L2.St → Hp → Prop) (h0 : Pv 0 σ H) (hG : ∀ i σ H, i ≤ n → Pv i σ H → G H)
    (hs : ∀ i x σ H H', i < n → Pv i σ H → Y i H x H' → g x σ H' fun σ2 H2 => tb { D with nx := Pv (i + 1), ct := Pv (i + 1), bk := D.nx } σ2 H2) (hd : ∀ σ H, Pv n σ H → D.nx σ H) : forB J g tb D σ H := for_it w Pv h0 hG hs hd
/-- over a list's items, the target in slot j -/
theorem for_lst {a : Addr} {xs : List V} {tb : TS} {j : Nat} (Pv : Nat → L2.St → Hp → Prop) (hx : ∀ i σ H, i ≤ xs.length → Pv i σ H → SqL K H a xs) (h0 : Pv 0 σ H)
    (hs : ∀ i x σ H, xs[i]? = some x → Pv i σ H → tb { D with nx := Pv (i + 1), ct := Pv (i + 1), bk := D.nx } (σ.set j (some x)) H) (hd : ∀ σ H, Pv xs.length σ H → D.nx σ H) (hs0 : SqL K H a xs) :
    ∃ b, V.ref a = V.ref b ∧ (∃ xs, SqL K H b xs) ∧ forB (Itl K b) (gName j) tb D σ H :=
  ⟨a, rfl, ⟨xs, hs0⟩, for_any walk_list Pv h0 hx (fun i x σ H H' _ p y => by
    obtain ⟨e, y⟩ := y
    subst e
    exact hs i x σ _ y p) hd⟩
/-- over a range's ints -/
theorem for_rng {lo : Int} {n : Nat} {tb : TS} {j : Nat} (Pv : Nat → L2.St → Hp → Prop) (h0 : Pv 0 σ H)
    (hs : ∀ (i : Nat) σ H, i < n → Pv i σ H → tb { D with nx := Pv (i + 1), ct := Pv (i + 1), bk := D.nx } (σ.set j (some (.int (lo + i)))) H) (hd : ∀ σ H, Pv n σ H → D.nx σ H) : forB (Itr lo n) (gName j) tb D σ H :=
  for_any walk_range Pv h0 (fun _ _ _ _ _ => trivial) (fun i x σ H H' hi p y => by
    obtain ⟨e, y⟩ := y
    subst e
    rw [y]
    exact hs i σ _ hi p) hd
/-- over a locked dict's keys -/
theorem for_keys {d : Addr} {o : Obj} {kvs : List (Key × V)} {tb : TS} {j : Nat} (Pv : Nat → L2.St → Hp → Prop) (hx : ∀ i σ H, i ≤ kvs.length → Pv i σ H → H d = some (.frz o (.dK kvs))) (h0 : Pv 0 σ H)
    (hs : ∀ i k v σ H, kvs[i]? = some (k, v) → Pv i σ H → tb { D with nx := Pv (i + 1), ct := Pv (i + 1), bk := D.nx } (σ.set j (some (kV k))) H) (hd : ∀ σ H, Pv kvs.length σ H → D.nx σ H) : forB (Itk d o kvs) (gName j) tb D σ H :=
  for_any walk_keys Pv h0 hx (fun i x σ H H' _ p y => by
    obtain ⟨e, k, v, y, z⟩ := y
    subst e
    rw [z]
    exact hs i k v σ _ y p) hd
end
end TU

set_option Elab.async false
set_option linter.all false
set_option maxRecDepth 100000
namespace TU
open PySem PySem.Spec PyProof.Rows L2

/-! ### own errors with fields -/
/-- __init__ of an error's class: the fields are the arguments -/
def spXI (C : Addr) (fs : List Str) : Sp := fun vs H Q _ => ∃ (a : Addr) (us : List V), vs = .ref a :: us ∧ us.length = fs.length ∧ H a = some (exo a C none) ∧
  ∀ (dx : Addr) (H' : Hp), H dx = none → dx ≠ a → (∀ b o, b ≠ a → H b = some o → H' b = some o) → H' a = some (exo a C (some dx)) → H' dx = some (exd dx (fs.zip us).reverse) → Q .non H'
/-- what is known of an error's class -/
structure Xc (P : Program) (w : World) (K : PySem.W.Frag) (mg : Str → Option Value) (base : Heap) (x : Str) (fs : List Str) (C : Addr) : Prop where
  T : OexC K C
  xf : XfC K C
  g : mg x = some (.ref C)
  no : ∀ f ∈ fs, PySem.W.findIn K (.ref C) f = some none
  te : PySem.W.exmOne K (.ref C) (.ref C) = some true
  ini : ∃ fI fd, PySem.W.findIn K (.ref C) "__init__" = some (some (.ref fI)) ∧ PySem.W.typeIn K (.ref fI) = some (.type "function") ∧ FnOk P w K mg base (L2.CX P w) 1 fI fd ("self" :: fs) (spXI C fs) ∧ Binds K fd ("self" :: fs) []
section
variable {P : Program} {w : World} {K : PySem.W.Frag} {mg : Str → Option Value} {base : Heap}
theorem ok_init1 {qual f1 : Str} {st : Stmt} {f C : Addr} {fd : FuncData} {p1 p2 p3 p4 : Pos} (F : Fun K "__init__" qual st f fd) (S : FnScope ["self", f1] ["self", f1] (defScope st)) (hb : defBody st = [.Assign [.Attribute (.Name "self" p1) f1 p2] (.Name f1 p3) p4])
    (T : OexC K C) (n1 : PySem.W.findIn K (.ref C) f1 = some none) (d1 : (f1 == ("__debug__" : Str)) = false) (d2 : (f1 == ("__classdict__" : Str)) = false) (v0 : Vis (defScope st) "self") (v1 : Vis (defScope st) f1) : FnOk P w K mg base (L2.CX P w) 1 f fd ["self", f1] (spXI C [f1]) := by
  refine F.okX S (fun vs H Q E h => ?_) (fun cdv A outer s H vs Q E hr h => ?_)
  · obtain ⟨a, us, rfl, hl, _⟩ := h
    simpa using hl
  · obtain ⟨a, us, rfl, hl, ha, k⟩ := h
    obtain ⟨y, rfl⟩ : ∃ y, us = [y] := List.length_eq_one_iff.mp hl
    rw [hb]
    refine ⟨_, pss_one (ps_ost (pv 0 (hv := v0)) (pv 1 (hv := v1) (hd := d1) (hcd := d2))), ?_⟩
    refine ⟨y, rfl, .ref a, rfl, a, C, rfl, T, n1, .inl ⟨ha, fun dx hn hne => ?_⟩⟩
    exact k dx _ hn hne (fun b o hb e => by rw [upd_ne hb, upd_ne (ne_of_none e hn)]; exact e) upd_same (by rw [upd_ne hne, upd_same]; rfl)
theorem ok_init2 {qual f1 f2 : Str} {st : Stmt} {f C : Addr} {fd : FuncData} {p1 p2 p3 p4 q1 q2 q3 q4 : Pos} (F : Fun K "__init__" qual st f fd) (S : FnScope ["self", f1, f2] ["self", f1, f2] (defScope st))
    (hb : defBody st = [.Assign [.Attribute (.Name "self" p1) f1 p2] (.Name f1 p3) p4, .Assign [.Attribute (.Name "self" q1) f2 q2] (.Name f2 q3) q4])
    (T : OexC K C) (n1 : PySem.W.findIn K (.ref C) f1 = some none) (n2 : PySem.W.findIn K (.ref C) f2 = some none) (d1 : (f1 == ("__debug__" : Str)) = false) (d2 : (f1 == ("__classdict__" : Str)) = false) (e1 : (f2 == ("__debug__" : Str)) = false) (e2 : (f2 == ("__classdict__" : Str)) = false)
    (v0 : Vis (defScope st) "self") (v1 : Vis (defScope st) f1) (v2 : Vis (defScope st) f2) : FnOk P w K mg base (L2.CX P w) 1 f fd ["self", f1, f2] (spXI C [f1, f2]) := by
  refine F.okX S (fun vs H Q E h => ?_) (fun cdv A outer s H vs Q E hr h => ?_)
  · obtain ⟨a, us, rfl, hl, _⟩ := h
    simpa using hl
  · obtain ⟨a, us, rfl, hl, ha, k⟩ := h
    obtain ⟨y, z, rfl⟩ : ∃ y z, us = [y, z] := by
      match us, hl with
      | [y, z], _ => exact ⟨y, z, rfl⟩
    rw [hb]
    refine ⟨_, pss_cons (ps_ost (pv 0 (hv := v0)) (pv 1 (hv := v1) (hd := d1) (hcd := d2))) (pss_one (ps_ost (pv 0 (hv := v0)) (pv 2 (hv := v2) (hd := e1) (hcd := e2)))), ?_⟩
    refine ⟨y, rfl, .ref a, rfl, a, C, rfl, T, n1, .inl ⟨ha, fun dx hn hne => ?_⟩⟩
    refine ⟨z, rfl, .ref a, rfl, a, C, rfl, T, n2, .inr ⟨dx, [(f1, y)], upd_same, by rw [upd_ne hne, upd_same], (by show 1 ≤ 900; decide), ?_⟩⟩
    exact k dx _ hn hne (fun b o hb e => by rw [upd_ne (ne_of_none e hn), upd_ne hb, upd_ne (ne_of_none e hn)]; exact e) (by rw [upd_ne (Ne.symm hne), upd_same]) (by rw [upd_same]; rfl)
end
section
variable {X : Cx} {C : Addr} {x : Str} {fs : List Str} {p pos : Pos} {e : Expr} {es : List Expr} {ta : TA}
/-- x(e, ..) is made, to be raised -/
theorem pmk_xc (T : Xc X.prog X.w X.K X.mg X.base x fs C) (hr : Room 2 X.A) (ha : PA X (e :: es) ta) (hg : Gl X x := by rfl)
    (hdb : (x == ("__debug__" : Str)) = false := by decide) (he : starEach (e :: es) X.env = (false, eval e X.env) :: starEach es X.env := by rfl) (hpl : (backTo pos (starEach es X.env)).any (·.1) = false := by rfl) :
    PMk X (.Call (.Name x p) (e :: es) [] pos) (tMkO C (spXI C fs) [] ta) := by
  obtain ⟨fI, fd, iC, tI, F1, hb⟩ := T.ini
  exact pmk_oex T.T iC tI F1 hr hb .nil (fun _ _ _ _ _ _ I h => passL _ _ _ _ _ _ I h) hg T.g ha hdb he hpl
/-- raise x(e, ..) -/
def tRz (C : Addr) (fs : List Str) (W : WX) (ta : TA) : TS := fun _ σ H => tMkO C (spXI C fs) [] ta σ H fun cls d H' => W cls d σ H'
theorem ps_rz {W : WX} {pos2 : Pos} (hc : X.calm = true) (T : Xc X.prog X.w X.K X.mg X.base x fs C) (hr : Room 2 X.A) (tk : Takes X W) (ha : PA X (e :: es) ta) (hg : Gl X x := by rfl)
    (hdb : (x == ("__debug__" : Str)) = false := by decide) (he : starEach (e :: es) X.env = (false, eval e X.env) :: starEach es X.env := by rfl) (hpl : (backTo pos (starEach es X.env)).any (·.1) = false := by rfl) :
    PS X (.Raise (some (.Call (.Name x p) (e :: es) [] pos)) none pos2) (tRz C fs W ta) := ps_raise hc tk (pmk_xc T hr ha hg hdb he hpl)
def mkB (C : Addr) (fs : List Str) (us : List V) (H1 : Hp) (Q : XK) : Prop := us.length ≤ 1000 ∧ ∀ a, H1 a = none → spXI C fs (.ref a :: (us ++ [])) (upd H1 a (exo a C none)) (fun v H2 => v = .non ∧ ∃ (d : Addr) (fs : List (Str × V)), H2 a = some (exo a C (some d)) ∧ H2 d = some (exd d fs) ∧ H1 d = none ∧ Q (.ref C) (some d) (upd (del H2 a) d (.xd fs))) (fun _ _ _ => False)
theorem q_rz {W : WX} {D : Ends} {σ : L2.St} {H : Hp} (h : ta σ H fun us H1 => mkB C fs us H1 fun cls d H' => W cls d σ H') : tRz C fs W ta D σ H := h
theorem q_mk {us : List V} {H1 : Hp} {Q : XK} (h1 : us.length = fs.length) (k : ∀ d H', Same H1 H' → H1 d = none → H' d = some (.xd (fs.zip us).reverse) → Q (.ref C) (some d) H') (h2 : fs.length ≤ 1000 := by decide) : mkB C fs us H1 Q := by
  refine ⟨by rw [h1]; exact h2, fun a na => ?_⟩
  refine ⟨a, us, by rw [List.append_nil], h1, upd_same, fun dx H' hn hne hk ha hd => ?_⟩
  rw [upd_ne hne] at hn
  refine ⟨rfl, dx, _, ha, hd, hn, ?_⟩
  refine k dx _ (fun b o e => ?_) hn upd_same
  have hba : b ≠ a := ne_of_none e na
  rw [upd_ne (ne_of_none e hn), del_ne hba]
  exact hk b o hba (by rw [upd_ne hba]; exact e)
end
end TU

set_option Elab.async false
set_option linter.all false
set_option maxRecDepth 100000
namespace TU
open PySem PySem.Spec PyProof.Rows L2

section
variable {K : PySem.W.Frag} {σ : L2.St} {H H1 : Hp} {Q : VK} {te tk tv : TE} {g : TG} {tt : TT} {sl : List Nat} {wi : TI} {J : It} {n : Nat} {G : Hp → Prop} {Y : Nat → Hp → V → Hp → Prop} {d : Addr}
/-- the turns of a dict comprehension -/
def dcB (J : It) (g : TG) (tt : TT) (tk tv : TE) (sl : List Nat) (σ : L2.St) (H1 : Hp) (d : Addr) (Q : VK) : Prop := ∃ W : Nat → Nat → Hp → Prop, (∃ m, W 0 m (upd H1 d (.dK []))) ∧ ∀ i m H, W i m H →
  (J.stop i H ∧ Q (.ref d) H) ∨ (J.go i H ∧ ∃ Nx : Hp → Prop, (∀ H', Nx H' → ∃ m', m' < m ∧ W (i + 1) m' H') ∧ ∀ x H', J.yld i H x H' → g x (wipe σ sl) H' fun σ2 H2 => wipe σ2 sl = wipe σ sl ∧ tt σ2 H2 fun b H3 =>
    if b = true then tk σ2 H3 fun y H4 => tv σ2 H4 fun z H5 => ∃ kvs k, y = kV k ∧ H5 d = some (.dK kvs) ∧ kvs.length < sizeLine ∧ Nx (upd H5 d (.dK (putK kvs k z))) else Nx H3)
theorem q_dc (h : wi σ H fun J H1 => ∀ d, H1 d = none → dcB J g tt tk tv sl σ H1 d Q) : tDc wi g tt tk tv sl σ H Q := h
theorem dc_any (w : Walk J n G Y) (Pv : Nat → Hp → Prop) (h0 : Pv 0 (upd H1 d (.dK []))) (hG : ∀ i H, i ≤ n → Pv i H → G H)
    (hs : ∀ i x H H', i < n → Pv i H → Y i H x H' → g x (wipe σ sl) H' fun σ2 H2 => wipe σ2 sl = wipe σ sl ∧ tt σ2 H2 fun b H3 =>
      if b = true then tk σ2 H3 fun y H4 => tv σ2 H4 fun z H5 => ∃ kvs k, y = kV k ∧ H5 d = some (.dK kvs) ∧ kvs.length < sizeLine ∧ Pv (i + 1) (upd H5 d (.dK (putK kvs k z))) else Pv (i + 1) H3) (hd : ∀ H, Pv n H → Q (.ref d) H) : dcB J g tt tk tv sl σ H1 d Q := by
  refine ⟨fun i m H => m + i = n ∧ Pv i H, ⟨n, Nat.add_zero n, h0⟩, fun i m H p => ?_⟩
  obtain ⟨e, p⟩ := p
  have hi : i ≤ n := by omega
  have q := hG i H hi p
  rcases Nat.lt_or_ge i n with lt | ge
  · exact .inr ⟨w.goes i H lt q, Pv (i + 1), fun H' p' => ⟨m - 1, by omega, by omega, p'⟩, fun x H' y => hs i x H H' lt p (w.yields i H x H' lt q y)⟩
  · obtain rfl : i = n := Nat.le_antisymm hi ge
    exact .inl ⟨w.stops H q, hd H p⟩
/-- the turns of a list comprehension -/
def lcB (J : It) (g : TG) (tt : TT) (te : TE) (sl : List Nat) (σ : L2.St) (H1 : Hp) (d : Addr) (Q : VK) : Prop := ∃ W : Nat → Nat → Hp → Prop, (∃ m, W 0 m (upd H1 d (.lst []))) ∧ ∀ i m H, W i m H →
  (J.stop i H ∧ Q (.ref d) H) ∨ (J.go i H ∧ ∃ Nx : Hp → Prop, (∀ H', Nx H' → ∃ m', m' < m ∧ W (i + 1) m' H') ∧ ∀ x H', J.yld i H x H' → g x (wipe σ sl) H' fun σ2 H2 => wipe σ2 sl = wipe σ sl ∧ tt σ2 H2 fun b H3 =>
    if b = true then te σ2 H3 fun y H4 => ∃ acc, H4 d = some (.lst acc) ∧ acc.length < sizeLine ∧ Nx (upd H4 d (.lst (acc ++ [y]))) else Nx H3)
theorem q_lc (h : wi σ H fun J H1 => ∀ d, H1 d = none → lcB J g tt te sl σ H1 d Q) : tLc wi g tt te sl σ H Q := h
theorem lc_any (w : Walk J n G Y) (Pv : Nat → Hp → Prop) (h0 : Pv 0 (upd H1 d (.lst []))) (hG : ∀ i H, i ≤ n → Pv i H → G H)
    (hs : ∀ i x H H', i < n → Pv i H → Y i H x H' → g x (wipe σ sl) H' fun σ2 H2 => wipe σ2 sl = wipe σ sl ∧ tt σ2 H2 fun b H3 =>
      if b = true then te σ2 H3 fun y H4 => ∃ acc, H4 d = some (.lst acc) ∧ acc.length < sizeLine ∧ Pv (i + 1) (upd H4 d (.lst (acc ++ [y]))) else Pv (i + 1) H3) (hd : ∀ H, Pv n H → Q (.ref d) H) : lcB J g tt te sl σ H1 d Q := by
  refine ⟨fun i m H => m + i = n ∧ Pv i H, ⟨n, Nat.add_zero n, h0⟩, fun i m H p => ?_⟩
  obtain ⟨e, p⟩ := p
  have hi : i ≤ n := by omega
  have q := hG i H hi p
  rcases Nat.lt_or_ge i n with lt | ge
  · exact .inr ⟨w.goes i H lt q, Pv (i + 1), fun H' p' => ⟨m - 1, by omega, by omega, p'⟩, fun x H' y => hs i x H H' lt p (w.yields i H x H' lt q y)⟩
  · obtain rfl : i = n := Nat.le_antisymm hi ge
    exact .inl ⟨w.stops H q, hd H p⟩
theorem q_yes {R : Bool → Hp → Prop} (h : R true H) : tYes σ H R := h
end
end TU

set_option Elab.async false
set_option linter.all false
set_option maxRecDepth 100000
namespace TU
open PySem PySem.Spec PyProof.Rows L2

/-- no global hides a built-in -/
structure Bt (mg : Str → Option Value) : Prop where
  b_len : mg "len" = none
  b_abs : mg "abs" = none
  b_repr : mg "repr" = none
  b_isinstance : mg "isinstance" = none
  b_sorted : mg "sorted" = none
  b_all : mg "all" = none
  b_any : mg "any" = none
  b_sum : mg "sum" = none
  b_max : mg "max" = none
  b_min : mg "min" = none
  b_range : mg "range" = none
  b_enumerate : mg "enumerate" = none
  b_zip : mg "zip" = none
  b_reversed : mg "reversed" = none
  b_int : mg "int" = none
  b_bool : mg "bool" = none
  b_str : mg "str" = none
  b_list : mg "list" = none
  b_dict : mg "dict" = none
  b_tuple : mg "tuple" = none
  b_set : mg "set" = none

section
variable {X : Cx} {e : Expr} {te : TE}
/-- a value as a test -/
def tTr (K : PySem.W.Frag) (te : TE) : TT := fun σ H Q => te σ H fun x H' => ∃ k, TruV K x H' k ∧ Q k H'
theorem pt_tr (h : PE X e te) (he : ∀ whole, isTrue e X.env whole = (do let v ← whole; standAt e.pos; holding [v] (truthy v)) := by intro _; rfl) : PT X e (tTr X.K te) := pt_truth h he
theorem q_tr {K : PySem.W.Frag} {σ : L2.St} {H : Hp} {R : Bool → Hp → Prop} (h : te σ H fun x H' => ∃ k, TruV K x H' k ∧ R k H') : tTr K te σ H R := h
theorem q_trB {K : PySem.W.Frag} {H : Hp} {b : Bool} {R : Bool → Prop} (h : R b) : ∃ k, TruV K (.bl b) H k ∧ R k := ⟨b, rfl, h⟩
theorem q_trI {K : PySem.W.Frag} {H : Hp} {i : Int} {R : Bool → Prop} (h : R (i != 0)) : ∃ k, TruV K (.int i) H k ∧ R k := ⟨_, rfl, h⟩
theorem q_trL {K : PySem.W.Frag} {H : Hp} {a : Addr} {xs : List V} {R : Bool → Prop} (hs : SqL K H a xs) (h : R (!xs.isEmpty)) : ∃ k, TruV K (.ref a) H k ∧ R k := ⟨_, .inl ⟨xs, hs, rfl⟩, h⟩
theorem q_trT {K : PySem.W.Frag} {H : Hp} {a : Addr} {xs : List V} {R : Bool → Prop} (hs : SqT K H a xs) (h : R (!xs.isEmpty)) : ∃ k, TruV K (.ref a) H k ∧ R k := ⟨_, .inr (.inl ⟨xs, hs, rfl⟩), h⟩
end

/-! ### texts in order -/
def ltS (a b : Str) : Bool := ltCps a.cps.toList b.cps.toList
theorem ltS_iff {a b : Str} : ltS a b = true ↔ a.cps.toList < b.cps.toList := by
  unfold ltS
  rw [ltCps_eq]
  simp
theorem ltS_tri {a b : Str} (h1 : ltS a b = false) (h2 : ltS b a = false) : a = b := by
  have g1 : ¬ a.cps.toList < b.cps.toList := fun h => by
    rw [← ltS_iff, h1] at h
    cases h
  have g2 : ¬ b.cps.toList < a.cps.toList := fun h => by
    rw [← ltS_iff, h2] at h
    cases h
  have e : a.cps.toList = b.cps.toList := List.le_antisymm (List.not_lt.mp g2) (List.not_lt.mp g1)
  obtain ⟨⟨l⟩⟩ := a
  obtain ⟨⟨m⟩⟩ := b
  simp at e
  rw [e]
theorem ltS_irr (a : Str) : ltS a a = false := by
  cases h : ltS a a with
  | false => rfl
  | true => exact absurd (ltS_iff.mp h) (List.lt_irrefl _)
theorem ltS_trans {a b c : Str} (h1 : ltS a b = true) (h2 : ltS b c = true) : ltS a c = true := ltS_iff.mpr (List.lt_trans (ltS_iff.mp h1) (ltS_iff.mp h2))
theorem ltS_asymm {a b : Str} (h : ltS a b = true) : ltS b a = false := by
  cases q : ltS b a with
  | false => rfl
  | true =>
    have := ltS_trans h q
    rw [ltS_irr] at this
    cases this
def insS (x : Str) : List Str → List Str
  | [] => [x]
  | y :: r => if ltS y x = true then y :: insS x r else x :: y :: r
def srt : List Str → List Str
  | [] => []
  | x :: r => insS x (srt r)
abbrev Asc (l : List Str) : Prop := l.Pairwise (fun a b => ltS b a = false)
theorem insS_perm (x : Str) : ∀ l, (insS x l).Perm (x :: l)
  | [] => .refl _
  | y :: r => by
    unfold insS
    by_cases h : ltS y x = true
    · rw [if_pos h]
      exact ((insS_perm x r).cons y).trans (.swap ..)
    · rw [if_neg h]
theorem srt_perm : ∀ l, (srt l).Perm l
  | [] => .refl _
  | x :: r => (insS_perm x _).trans ((srt_perm r).cons x)
theorem le_trans' {a b c : Str} (h1 : ltS b a = false) (h2 : ltS c b = false) : ltS c a = false := by
  cases q : ltS c a with
  | false => rfl
  | true =>
    cases q1 : ltS a b with
    | true =>
      have := ltS_trans q q1
      rw [h2] at this
      cases this
    | false =>
      have e := ltS_tri h1 q1
      rw [← e, h2] at q
      cases q
theorem insS_asc (x : Str) : ∀ l, Asc l → Asc (insS x l)
  | [], _ => List.pairwise_singleton _ _
  | y :: r, h => by
    unfold insS
    have h1 := List.pairwise_cons.mp h
    by_cases hl : ltS y x = true
    · rw [if_pos hl]
      refine List.pairwise_cons.mpr ⟨fun z hz => ?_, insS_asc x r h1.2⟩
      rcases List.mem_cons.mp ((insS_perm x r).mem_iff.mp hz) with e | hz
      · rw [e]
        exact ltS_asymm hl
      · exact h1.1 z hz
    · rw [if_neg hl]
      have hl' : ltS y x = false := by simpa using hl
      refine List.pairwise_cons.mpr ⟨fun z hz => ?_, h⟩
      rcases List.mem_cons.mp hz with e | hz
      · rw [e]
        exact hl'
      · exact le_trans' hl' (h1.1 z hz)
theorem srt_asc : ∀ l, Asc (srt l)
  | [] => .nil
  | x :: r => insS_asc x _ (srt_asc r)
theorem asc_unique : ∀ {l m : List Str}, l.Perm m → Asc l → Asc m → l = m
  | [], m, p, _, _ => (List.nil_perm.mp p).symm
  | x :: l, [], p, _, _ => absurd p.symm.nil_eq (by simp)
  | x :: l, y :: m, p, h1, h2 => by
    have a1 := List.pairwise_cons.mp h1
    have a2 := List.pairwise_cons.mp h2
    have e : x = y := by
      have m1 : x ∈ y :: m := p.mem_iff.mp List.mem_cons_self
      have m2 : y ∈ x :: l := p.mem_iff.mpr List.mem_cons_self
      rcases List.mem_cons.mp m1 with e | m1
      · exact e
      · rcases List.mem_cons.mp m2 with e | m2
        · exact e.symm
        · exact ltS_tri (a2.1 x m1) (a1.1 y m2)
    subst e
    rw [asc_unique ((List.perm_cons x).mp p) a1.2 a2.2]
theorem rising_asc : ∀ (l : List Str) (p : Str), risingS p l = true → Asc (p :: l)
  | [], p, _ => List.pairwise_singleton _ _
  | x :: r, p, h => by
    have h' : (!ltCps x.cps.toList p.cps.toList && risingS x r) = true := h
    rw [Bool.and_eq_true] at h'
    have ih := rising_asc r x h'.2
    have hx : ltS x p = false := by
      have := h'.1
      unfold ltS
      simpa using this
    refine List.pairwise_cons.mpr ⟨fun z hz => ?_, ih⟩
    rcases List.mem_cons.mp hz with e | hz
    · rw [e]
      exact hx
    · exact le_trans' hx ((List.pairwise_cons.mp ih).1 z hz)
theorem sorted_asc {l : List Str} (h : sortedS l = true) : Asc l := by
  cases l with
  | nil => exact .nil
  | cons x r => exact rising_asc r x h
theorem sorted_is {l m : List Str} (p : l.Perm m) (h : sortedS l = true) : l = srt m := asc_unique (p.trans (srt_perm m).symm) (sorted_asc h) (srt_asc m)
theorem srt_of_asc {l : List Str} (h : Asc l) : srt l = l := asc_unique (srt_perm l) (srt_asc l) h
theorem srt_congr {l m : List Str} (p : l.Perm m) : srt l = srt m := asc_unique ((srt_perm l).trans (p.trans (srt_perm m).symm)) (srt_asc l) (srt_asc m)
theorem srt_srt (l : List Str) : srt (srt l) = srt l := srt_of_asc (srt_asc l)

/-- sorted(c): a dict with text keys, a list of texts, a list of ints -/
def rSortU (K : PySem.W.Frag) : List V → Hp → VK → Prop := fun xs H Q =>
  (∃ (a : Addr) (kvs : List (Key × V)) (ks : List Str), xs = [.ref a] ∧ Rd H a (.dK kvs) ∧ kvs.map (·.1) = ks.map Sum.inr ∧ ks.length < 64 ∧ ∀ ys p, ys.Perm ks → sortedS ys = true → H p = none → Q (.ref p) (upd H p (.lst (ys.map V.str)))) ∨
  rSortedS K xs H Q ∨ rSortedI K xs H Q
theorem call_sortU {X : Cx} (hc : X.calm = true) : CallR X (.builtin "sorted") (rSortU X.K) := (call_sortedD hc).or (cr_sortedS.or cr_sortedI)
theorem q_sortD {K : PySem.W.Frag} {H : Hp} {Q : VK} {a : Addr} {kvs : List (Key × V)} {ks : List Str} (h : Rd H a (.dK kvs)) (e : kvs.map (·.1) = ks.map Sum.inr) (hl : ks.length < 64) (q : ∀ p, H p = none → Q (.ref p) (upd H p (.lst ((srt ks).map V.str)))) :
    rSortU K [.ref a] H Q := .inl ⟨a, kvs, ks, rfl, h, e, hl, fun ys p pm so hp => by
  rw [sorted_is pm so]
  exact q p hp⟩
theorem q_sortS {K : PySem.W.Frag} {H : Hp} {Q : VK} {a : Addr} {ks : List Str} (h : SqL K H a (ks.map V.str)) (hl : ks.length < 64) (q : ∀ p, H p = none → Q (.ref p) (upd H p (.lst ((srt ks).map V.str)))) :
    rSortU K [.ref a] H Q := .inr (.inl ⟨a, ks, rfl, h, hl, fun ys p pm so hp => by
  rw [sorted_is pm so]
  exact q p hp⟩)
end TU

set_option Elab.async false
set_option linter.all false
set_option maxRecDepth 100000
namespace TU
open PySem PySem.Spec PyProof.Rows L2

/-! ### lists of pairs with text keys -/
section
variable {β γ : Type}
def lk : List (Str × β) → Str → Option β
  | [], _ => none
  | p :: r, k => if p.1 = k then some p.2 else lk r k
def put : List (Str × β) → Str → β → List (Str × β)
  | [], k, v => [(k, v)]
  | p :: r, k, v => if p.1 = k then (p.1, v) :: r else p :: put r k v
def del : List (Str × β) → Str → List (Str × β)
  | [], _ => []
  | p :: r, k => if p.1 = k then r else p :: del r k
def nms (l : List (Str × β)) : List Str := l.map (·.1)
theorem nms_nil : nms ([] : List (Str × β)) = [] := rfl
theorem nms_cons (p : Str × β) (r : List (Str × β)) : nms (p :: r) = p.1 :: nms r := rfl
theorem nms_len (l : List (Str × β)) : (nms l).length = l.length := List.length_map _
theorem nd_cons {p : Str × β} {r : List (Str × β)} (h : (nms (p :: r)).Nodup) : p.1 ∉ nms r ∧ (nms r).Nodup := List.nodup_cons.mp h
theorem mem_nms {p : Str × β} {l : List (Str × β)} (h : p ∈ l) : p.1 ∈ nms l := List.mem_map.mpr ⟨p, h, rfl⟩
theorem lk_cons (p : Str × β) (r : List (Str × β)) (k : Str) : lk (p :: r) k = if p.1 = k then some p.2 else lk r k := rfl
theorem lk_none {l : List (Str × β)} {k : Str} : lk l k = none ↔ k ∉ nms l := by
  induction l with
  | nil => simp [lk, nms_nil]
  | cons p r ih =>
    rw [lk_cons, nms_cons]
    by_cases e : p.1 = k
    · rw [if_pos e]
      simp [e]
    · rw [if_neg e, ih]
      have e' : ¬ k = p.1 := fun z => e z.symm
      simp [e']
theorem lk_mem {l : List (Str × β)} {k : Str} {v : β} (h : lk l k = some v) : (k, v) ∈ l := by
  induction l with
  | nil => cases h
  | cons p r ih =>
    unfold lk at h
    by_cases e : p.1 = k
    · rw [if_pos e] at h
      cases h
      subst e
      exact List.mem_cons_self
    · rw [if_neg e] at h
      exact List.mem_cons_of_mem _ (ih h)
theorem lk_of_mem {l : List (Str × β)} (nd : (nms l).Nodup) {k : Str} {v : β} (h : (k, v) ∈ l) : lk l k = some v := by
  induction l with
  | nil => cases h
  | cons p r ih =>
    have nd' := nd_cons nd
    unfold lk
    rcases List.mem_cons.mp h with e | h
    · rw [← e, if_pos rfl]
    · have hk : k ∈ nms r := mem_nms h
      have e : ¬ p.1 = k := fun z => nd'.1 (by rw [z]; exact hk)
      rw [if_neg e]
      exact ih nd'.2 h
theorem lk_put (l : List (Str × β)) (k : Str) (v : β) (x : Str) : lk (put l k v) x = if x = k then some v else lk l x := by
  induction l with
  | nil =>
    by_cases e : k = x
    · simp [put, lk, e]
    · have e' : ¬ x = k := fun z => e z.symm
      simp [put, lk, e, e']
  | cons p r ih =>
    unfold put
    by_cases e : p.1 = k
    · rw [if_pos e]
      by_cases ex : x = k
      · simp [lk, e, ex]
      · have e2 : ¬ p.1 = x := fun z => ex (by rw [← z, e])
        simp [lk, e2, ex]
    · rw [if_neg e]
      by_cases ex : p.1 = x
      · have e2 : ¬ x = k := fun z => e (by rw [ex, z])
        simp [lk, ex, e2]
      · simp only [lk, if_neg ex]
        exact ih
theorem lk_del {l : List (Str × β)} (nd : (nms l).Nodup) (k x : Str) : lk (del l k) x = if x = k then none else lk l x := by
  induction l with
  | nil => simp [del, lk]
  | cons p r ih =>
    have nd' := nd_cons nd
    unfold del
    by_cases e : p.1 = k
    · rw [if_pos e]
      by_cases ex : x = k
      · rw [if_pos ex, lk_none, ex, ← e]
        exact nd'.1
      · have e2 : ¬ p.1 = x := fun z => ex (by rw [← z, e])
        rw [if_neg ex]
        simp only [lk, if_neg e2]
    · rw [if_neg e]
      by_cases ex : p.1 = x
      · have e2 : ¬ x = k := fun z => e (by rw [ex, z])
        simp [lk, ex, e2]
      · simp only [lk, if_neg ex]
        exact ih nd'.2
theorem nms_put (l : List (Str × β)) (k : Str) (v : β) : nms (put l k v) = if k ∈ nms l then nms l else nms l ++ [k] := by
  induction l with
  | nil => simp [put, nms_nil, nms_cons]
  | cons p r ih =>
    unfold put
    by_cases e : p.1 = k
    · simp [e, nms_cons]
    · have e' : ¬ k = p.1 := fun z => e z.symm
      rw [if_neg e]
      simp only [nms_cons, List.mem_cons]
      rw [ih]
      by_cases m : k ∈ nms r
      · rw [if_pos m, if_pos (.inr m)]
      · rw [if_neg m, if_neg (by simp [e', m])]
        rfl
theorem nms_del (l : List (Str × β)) (k : Str) : nms (del l k) = (nms l).erase k := by
  induction l with
  | nil => rfl
  | cons p r ih =>
    unfold del
    by_cases e : p.1 = k
    · rw [if_pos e, nms_cons, e, List.erase_cons_head]
    · rw [if_neg e, nms_cons, nms_cons, List.erase_cons_tail (by simpa using e)]
      rw [ih]
theorem nd_put {l : List (Str × β)} (nd : (nms l).Nodup) (k : Str) (v : β) : (nms (put l k v)).Nodup := by
  rw [nms_put]
  by_cases m : k ∈ nms l
  · rw [if_pos m]
    exact nd
  · rw [if_neg m]
    exact List.nodup_append.mpr ⟨nd, by simp, fun a ha b hb e => m (by
      rw [List.mem_singleton] at hb
      rw [← hb, ← e]
      exact ha)⟩
theorem nd_del {l : List (Str × β)} (nd : (nms l).Nodup) (k : Str) : (nms (del l k)).Nodup := by
  rw [nms_del]
  exact nd.erase k
theorem len_put_le (l : List (Str × β)) (k : Str) (v : β) : (put l k v).length ≤ l.length + 1 := by
  induction l with
  | nil => exact Nat.le_refl _
  | cons p r ih =>
    unfold put
    by_cases e : p.1 = k
    · rw [if_pos e]
      exact Nat.le_succ _
    · rw [if_neg e, List.length_cons, List.length_cons]
      omega
theorem len_del_le (l : List (Str × β)) (k : Str) : (del l k).length ≤ l.length := by
  induction l with
  | nil => exact Nat.le_refl _
  | cons p r ih =>
    unfold del
    by_cases e : p.1 = k
    · rw [if_pos e]
      exact Nat.le_succ _
    · rw [if_neg e, List.length_cons, List.length_cons]
      omega
/-- in the order of the names -/
def ord [Inhabited β] (l : List (Str × β)) : List (Str × β) := (srt (nms l)).map fun n => (n, (lk l n).getD default)
theorem nms_ord [Inhabited β] (l : List (Str × β)) : nms (ord l) = srt (nms l) := by
  unfold ord
  unfold nms
  rw [List.map_map]
  exact (List.map_congr_left fun _ _ => rfl).trans (List.map_id _)
theorem nd_ord [Inhabited β] {l : List (Str × β)} (nd : (nms l).Nodup) : (nms (ord l)).Nodup := by
  rw [nms_ord]
  exact (srt_perm _).nodup_iff.mpr nd
theorem lk_map [Inhabited β] (l : List (Str × β)) : ∀ (ns : List Str) (x : Str), lk (ns.map fun n => (n, (lk l n).getD default)) x = if x ∈ ns then some ((lk l x).getD default) else none
  | [], x => by simp [lk]
  | n :: ns, x => by
    rw [List.map_cons, lk_cons]
    by_cases e : n = x
    · subst e
      rw [if_pos rfl, if_pos List.mem_cons_self]
    · have e' : ¬ x = n := fun z => e z.symm
      rw [if_neg e, lk_map l ns x]
      simp [e']
theorem lk_ord [Inhabited β] (l : List (Str × β)) (x : Str) : lk (ord l) x = lk l x := by
  unfold ord
  rw [lk_map]
  by_cases m : x ∈ nms l
  · rw [if_pos ((srt_perm _).mem_iff.mpr m)]
    cases e : lk l x with
    | none => exact absurd m (lk_none.mp e)
    | some v => rfl
  · rw [if_neg (fun z => m ((srt_perm _).mem_iff.mp z))]
    exact (lk_none.mpr m).symm
theorem len_ord [Inhabited β] (l : List (Str × β)) : (ord l).length = l.length := by
  unfold ord
  rw [List.length_map, (srt_perm _).length_eq, nms_len]
/-- two lists of pairs with the same names in the same order and the same look-ups are one -/
theorem ext_lk : ∀ {l m : List (Str × β)}, (nms l).Nodup → nms l = nms m → (∀ x, lk l x = lk m x) → l = m
  | [], [], _, _, _ => rfl
  | [], _ :: _, _, h, _ => nomatch h
  | _ :: _, [], _, h, _ => nomatch h
  | p :: l, q :: m, nd, h, e => by
    obtain ⟨a, b⟩ := p
    obtain ⟨c, d⟩ := q
    have h' : a = c ∧ nms l = nms m := by simpa [nms_cons] using h
    obtain ⟨rfl, h2⟩ := h'
    have nd' := nd_cons nd
    have e1 := e a
    simp [lk] at e1
    subst e1
    rw [ext_lk nd'.2 h2 fun x => ?_]
    by_cases ex : a = x
    · subst ex
      rw [lk_none.mpr nd'.1, lk_none.mpr (by rw [← h2]; exact nd'.1)]
    · have := e x
      simpa [lk, ex] using this
theorem ord_ext [Inhabited β] {l m : List (Str × β)} (nd : (nms l).Nodup) (p : (nms l).Perm (nms m)) (e : ∀ x, lk l x = lk m x) : ord l = ord m :=
  ext_lk (nd_ord nd) (by rw [nms_ord, nms_ord, srt_congr p]) fun x => by rw [lk_ord, lk_ord, e x]
theorem ord_ord [Inhabited β] {l : List (Str × β)} (nd : (nms l).Nodup) : ord (ord l) = ord l :=
  ext_lk (nd_ord (nd_ord nd)) (by rw [nms_ord, nms_ord, srt_srt]) fun x => by rw [lk_ord]
theorem ord_perm [Inhabited β] {l m : List (Str × β)} (n1 : (nms l).Nodup) (n2 : (nms m).Nodup) (e : ∀ x, lk l x = lk m x) : ord l = ord m := by
  refine ord_ext n1 ?_ e
  refine (List.perm_ext_iff_of_nodup n1 n2).mpr fun x => ?_
  have h1 := lk_none (l := l) (k := x)
  have h2 := lk_none (l := m) (k := x)
  rw [e x] at h1
  exact Decidable.not_iff_not.mp (h1.symm.trans h2)
end

/-! ### tables and houses -/
abbrev Tab := List (Str × Tr)
abbrev Hs := List (Str × Tab)
instance : Inhabited Tr := ⟨.non⟩
def tK (t : Tab) : List (Key × Tr) := t.map fun p => (Sum.inr p.1, p.2)
def hK (h : Hs) : List (Key × Tr) := h.map fun p => (Sum.inr p.1, Tr.dic (tK p.2))
theorem inr_eq {a b : Str} : ((Sum.inr a : Key) = Sum.inr b) ↔ a = b := ⟨fun h => Sum.inr.inj h, fun h => by rw [h]⟩
theorem get_tK (t : Tab) (k : Str) : getD (tK t) (.inr k) = lk t k := by
  induction t with
  | nil => rfl
  | cons p r ih =>
    show getD ((Sum.inr p.1, p.2) :: tK r) _ = _
    rw [getD_cons, lk_cons]
    by_cases e : p.1 = k
    · rw [if_pos (inr_eq.mpr e), if_pos e]
    · rw [if_neg (fun z => e (inr_eq.mp z)), if_neg e]
      exact ih
theorem get_hK (h : Hs) (k : Str) : getD (hK h) (.inr k) = (lk h k).map fun t => Tr.dic (tK t) := by
  induction h with
  | nil => rfl
  | cons p r ih =>
    show getD ((Sum.inr p.1, Tr.dic (tK p.2)) :: hK r) _ = _
    rw [getD_cons, lk_cons]
    by_cases e : p.1 = k
    · rw [if_pos (inr_eq.mpr e), if_pos e]
      rfl
    · rw [if_neg (fun z => e (inr_eq.mp z)), if_neg e]
      exact ih
theorem putD_new {l : List (Key × Tr)} {k : Key} {v : Tr} (h : k ∉ l.map (·.1)) : putD l k v = l ++ [(k, v)] := by
  unfold putD
  rw [if_neg]
  intro z
  rw [List.any_eq_true] at z
  obtain ⟨p, hp, e⟩ := z
  exact h (List.mem_map.mpr ⟨p, hp, by simpa using e⟩)
theorem putD_cons (p : Key × Tr) (r : List (Key × Tr)) (nd : p.1 ∉ r.map (·.1)) (k : Key) (v : Tr) : putD (p :: r) k v = if p.1 = k then (p.1, v) :: r else p :: putD r k v := by
  by_cases e : p.1 = k
  · rw [if_pos e]
    unfold putD
    rw [if_pos (by rw [List.any_cons]; simp [e]), List.map_cons, if_pos e]
    have : (r.map fun kv => if kv.1 = k then (kv.1, v) else kv) = r := by
      refine (List.map_congr_left fun q hq => ?_).trans (List.map_id _)
      have : ¬ q.1 = k := fun z => nd (by rw [e, ← z]; exact List.mem_map.mpr ⟨q, hq, rfl⟩)
      rw [if_neg this]
      rfl
    rw [this]
  · rw [if_neg e]
    unfold putD
    rw [List.any_cons, decide_eq_false e, Bool.false_or]
    by_cases a : (r.any fun kv => decide (kv.1 = k)) = true
    · rw [if_pos a, if_pos a, List.map_cons, if_neg e]
    · rw [if_neg a, if_neg a]
      rfl
theorem keys_tK (t : Tab) : (tK t).map (·.1) = (nms t).map Sum.inr := by
  unfold tK nms
  rw [List.map_map, List.map_map]
  rfl
theorem keys_hK (h : Hs) : (hK h).map (·.1) = (nms h).map Sum.inr := by
  unfold hK nms
  rw [List.map_map, List.map_map]
  rfl
theorem inr_mem {k : Str} {l : List Str} : (Sum.inr k : Key) ∈ l.map Sum.inr ↔ k ∈ l := by simp
theorem put_tK {t : Tab} (nd : (nms t).Nodup) (k : Str) (v : Tr) : putD (tK t) (.inr k) v = tK (put t k v) := by
  induction t with
  | nil => rfl
  | cons p r ih =>
    have nd' := nd_cons nd
    show putD ((Sum.inr p.1, p.2) :: tK r) _ _ = _
    rw [putD_cons _ _ (by rw [keys_tK]; exact fun z => nd'.1 (inr_mem.mp z))]
    unfold put
    by_cases e : p.1 = k
    · rw [if_pos (inr_eq.mpr e), if_pos e]
      rfl
    · rw [if_neg (fun z => e (inr_eq.mp z)), if_neg e, ih nd'.2]
      rfl
theorem del_tK {t : Tab} (nd : (nms t).Nodup) (k : Str) : delD (tK t) (.inr k) = tK (del t k) := by
  induction t with
  | nil => rfl
  | cons p r ih =>
    have nd' := nd_cons nd
    unfold delD del
    show List.filter _ ((Sum.inr p.1, p.2) :: tK r) = _
    rw [List.filter_cons]
    by_cases e : p.1 = k
    · have : ¬ (decide ((Sum.inr p.1 : Key) ≠ Sum.inr k)) = true := by simp [e]
      rw [if_neg this, if_pos e, List.filter_eq_self.mpr]
      intro q hq
      have hm : q.1 ∈ (tK r).map (·.1) := List.mem_map.mpr ⟨q, hq, rfl⟩
      rw [keys_tK] at hm
      simp only [decide_eq_true_eq]
      intro z
      rw [z] at hm
      exact nd'.1 (by rw [e]; exact inr_mem.mp hm)
    · have : (decide ((Sum.inr p.1 : Key) ≠ Sum.inr k)) = true := by simp [e]
      rw [if_pos this, if_neg e]
      have ih' := ih nd'.2
      unfold delD at ih'
      rw [ih']
      rfl
end TU

set_option Elab.async false
set_option linter.all false
set_option maxRecDepth 100000
namespace TU
open PySem PySem.Spec PyProof.Rows L2

mutual
/-- neither a list nor a dict within -/
def imm : Tr → Bool
  | .lst _ => false
  | .dic _ => false
  | .tup xs => imms xs
  | _ => true
def imms : List Tr → Bool
  | [] => true
  | x :: xs => imm x && imms xs
end
abbrev ff : Addr → Prop := fun _ => False
section
variable {K : PySem.W.Frag} {H H' : Hp} {P P' W N : Addr → Prop}
mutual
theorem T.imm : ∀ {v : V} {d : Tr}, TU.imm d = true → T K H P v d → T K H P' v d
  | _, _, _, .non => .non
  | _, _, _, .bl b => .bl b
  | _, _, _, .int i => .int i
  | _, _, _, .str x => .str x
  | _, _, h, .lst _ _ _ => by simp [TU.imm] at h
  | _, _, h, .tup s t => .tup s (Ts.imm (by simpa [TU.imm] using h) t)
  | _, _, h, .dic _ _ _ => by simp [TU.imm] at h
theorem Ts.imm : ∀ {v : List V} {d : List Tr}, TU.imms d = true → Ts K H P v d → Ts K H P' v d
  | _, _, _, .nil => .nil
  | _, _, h, .cons a b => by
    simp only [TU.imms, Bool.and_eq_true] at h
    exact .cons (T.imm h.1 a) (Ts.imm h.2 b)
end
mutual
theorem nod_of_imm : ∀ {d : Tr}, TU.imm d = true → nod d = true
  | .non, _ => rfl
  | .bl _, _ => rfl
  | .int _, _ => rfl
  | .str _, _ => rfl
  | .lst _, h => by simp [TU.imm] at h
  | .tup xs, h => by
    have h' : TU.imms xs = true := by simpa [TU.imm] using h
    simp only [nod]
    exact nods_of_imms h'
  | .dic _, h => by simp [TU.imm] at h
theorem nods_of_imms : ∀ {d : List Tr}, TU.imms d = true → nods d = true
  | [], _ => rfl
  | x :: xs, h => by
    have h' : TU.imm x = true ∧ TU.imms xs = true := by simpa [TU.imms] using h
    simp only [nods, nod_of_imm h'.1, nods_of_imms h'.2, Bool.and_self]
end
mutual
theorem nol_of_imm : ∀ {d : Tr}, TU.imm d = true → nol d = true
  | .non, _ => rfl
  | .bl _, _ => rfl
  | .int _, _ => rfl
  | .str _, _ => rfl
  | .lst _, h => by simp [TU.imm] at h
  | .tup xs, h => by
    have h' : TU.imms xs = true := by simpa [TU.imm] using h
    simp only [nol]
    exact nols_of_imms h'
  | .dic _, h => by simp [TU.imm] at h
theorem nols_of_imms : ∀ {d : List Tr}, TU.imms d = true → nols d = true
  | [], _ => rfl
  | x :: xs, h => by
    have h' : TU.imm x = true ∧ TU.imms xs = true := by simpa [TU.imms] using h
    simp only [nols, nol_of_imm h'.1, nols_of_imms h'.2, Bool.and_self]
end
def immT (t : Tab) : Prop := ∀ p ∈ t, imm p.2 = true
theorem Tk.imm : ∀ {es : List (Key × V)} {t : Tab}, immT t → Tk K H P es (tK t) → Tk K H P' es (tK t)
  | es, [], _, h => by
    cases h
    exact .nil
  | es, p :: t, hi, h => by
    have h' : Tk K H P es ((Sum.inr p.1, p.2) :: tK t) := h
    cases h' with
    | cons a b => exact .cons (a.imm (hi p List.mem_cons_self)) (Tk.imm (fun q hq => hi q (List.mem_cons_of_mem _ hq)) b)

/-- a table of a house that is read -/
theorem T.dicAt {v : V} {es : List (Key × Tr)} (h : T K H P v (.dic es)) : ∃ a kvs, v = .ref a ∧ P a ∧ Rd H a (.dK kvs) ∧ Tk K H P kvs es := by
  cases h with
  | dic p r t => exact ⟨_, _, rfl, p, r, t⟩
theorem T.tab {kvs : List (Key × V)} {h : Hs} {k : Str} {t : Tab} (tk : Tk K H P kvs (hK h)) (e : lk h k = some t) : ∃ q es, valV kvs (.inr k) = some (.ref q) ∧ P q ∧ Rd H q (.dK es) ∧ Tk K H P es (tK t) := by
  obtain ⟨v, h1, h2⟩ := tk.gets (k := .inr k) (d := .dic (tK t)) (by rw [get_hK, e]; rfl)
  obtain ⟨q, es, rfl, p, r, t⟩ := h2.dicAt
  exact ⟨q, es, h1, p, r, t⟩
theorem T.ntab {kvs : List (Key × V)} {h : Hs} {k : Str} (tk : Tk K H P kvs (hK h)) (e : lk h k = none) : valV kvs (.inr k) = none := tk.getn (by rw [get_hK, e]; rfl)
theorem Tk.ent {es : List (Key × V)} {t : Tab} {n : Str} {d : Tr} (tk : Tk K H P es (tK t)) (e : lk t n = some d) : ∃ v, valV es (.inr n) = some v ∧ T K H P v d := tk.gets (by rw [get_tK, e])
theorem Tk.nent {es : List (Key × V)} {t : Tab} {n : Str} (tk : Tk K H P es (tK t)) (e : lk t n = none) : valV es (.inr n) = none := tk.getn (by rw [get_tK, e])

/-! ### a house of one's own: its dicts stand apart and may be changed -/
inductive OT (K : PySem.W.Frag) (H : Hp) : Hs → List Addr → List (Key × V) → Prop
  | nil : OT K H [] [] []
  | cons {n : Str} {t : Tab} {h : Hs} {q : Addr} {qs : List Addr} {es : List (Key × V)} {kvs : List (Key × V)} : H q = some (.dK es) → Tk K H ff es (tK t) → OT K H h qs kvs → OT K H ((n, t) :: h) (q :: qs) ((.inr n, .ref q) :: kvs)
structure Own (K : PySem.W.Frag) (N : Addr → Prop) (H : Hp) (r : Addr) (h : Hs) : Prop where
  ex : ∃ qs kvs, H r = some (.dK kvs) ∧ OT K H h qs kvs ∧ (r :: qs).Nodup ∧ ∀ q ∈ r :: qs, N q
theorem OT.keep (k : Keeps W H H') (nt : ∀ a xs, W a → ¬ Rd H a (.tup xs)) : ∀ {h : Hs} {qs : List Addr} {kvs : List (Key × V)}, (∀ q ∈ qs, ¬ W q) → OT K H h qs kvs → OT K H' h qs kvs
  | _, _, _, _, .nil => .nil
  | _, _, _, hq, .cons e t r => .cons (k _ _ (hq _ List.mem_cons_self) e) (t.keep k nt fun _ z => z.elim) (OT.keep k nt (fun q m => hq q (List.mem_cons_of_mem _ m)) r)
theorem Own.keep {r : Addr} {h : Hs} (o : Own K N H r h) (k : Keeps W H H') (nt : ∀ a xs, W a → ¬ Rd H a (.tup xs)) (hN : ∀ a, N a → ¬ W a) : Own K N H' r h := by
  obtain ⟨qs, kvs, h1, h2, h3, h4⟩ := o.ex
  exact ⟨qs, kvs, k _ _ (hN r (h4 r List.mem_cons_self)) h1, h2.keep k nt fun q m => hN q (h4 q (List.mem_cons_of_mem _ m)), h3, h4⟩
theorem Own.mono {r : Addr} {h : Hs} (o : Own K N H r h) (s : Same H H') : Own K N H' r h := o.keep (W := ff) (.of_same s) (fun _ _ z => z.elim) fun _ _ z => z
theorem Own.imp {N' : Addr → Prop} {r : Addr} {h : Hs} (o : Own K N H r h) (i : ∀ a, N a → N' a) : Own K N' H r h := by
  obtain ⟨qs, kvs, h1, h2, h3, h4⟩ := o.ex
  exact ⟨qs, kvs, h1, h2, h3, fun q m => i q (h4 q m)⟩
theorem OT.tk : ∀ {h : Hs} {qs : List Addr} {kvs : List (Key × V)}, (∀ q ∈ qs, N q) → OT K H h qs kvs → Tk K H N kvs (hK h)
  | _, _, _, _, .nil => .nil
  | _, _, _, hq, .cons e t r => .cons (.dic (hq _ List.mem_cons_self) (.inl e) (t.imp fun _ z => z.elim)) (OT.tk (fun q m => hq q (List.mem_cons_of_mem _ m)) r)
theorem Own.T {r : Addr} {h : Hs} (o : Own K N H r h) : T K H N (.ref r) (.dic (hK h)) := by
  obtain ⟨qs, kvs, h1, h2, h3, h4⟩ := o.ex
  exact .dic (h4 r List.mem_cons_self) (.inl h1) (h2.tk fun q m => h4 q (List.mem_cons_of_mem _ m))
theorem OT.at : ∀ {h : Hs} {qs : List Addr} {kvs : List (Key × V)} {k : Str} {t : Tab}, OT K H h qs kvs → lk h k = some t → ∃ q es, valV kvs (.inr k) = some (.ref q) ∧ q ∈ qs ∧ H q = some (.dK es) ∧ Tk K H ff es (tK t)
  | _, _, _, _, _, .nil, e => nomatch e
  | _, _, _, k, t, .cons (n := n) (q := q) (es := es) e tk r, el => by
    rw [lk_cons] at el
    by_cases hk : n = k
    · rw [if_pos hk] at el
      cases el
      exact ⟨q, es, valV_pos (inr_eq.mpr hk), List.mem_cons_self, e, tk⟩
    · rw [if_neg hk] at el
      obtain ⟨q', es', h1, h2, h3, h4⟩ := OT.at r el
      exact ⟨q', es', by rw [valV_neg (p := (Sum.inr n, V.ref q)) (fun z => hk (inr_eq.mp z))]; exact h1, List.mem_cons_of_mem _ h2, h3, h4⟩
theorem no_tup {q : Addr} {es : List (Key × V)} (e : H q = some (.dK es)) : ∀ a xs, a = q → ¬ Rd H a (.tup xs) := nt_of e (fun _ z => nomatch z) fun _ _ z => nomatch z
theorem OT.set : ∀ {h : Hs} {qs : List Addr} {kvs : List (Key × V)} {k : Str} {t t' : Tab} {q : Addr} {es' : List (Key × V)}, OT K H h qs kvs → qs.Nodup → lk h k = some t → valV kvs (.inr k) = some (.ref q) → Tk K H ff es' (tK t') →
    OT K (upd H q (.dK es')) (put h k t') qs kvs
  | _, _, _, _, _, _, _, _, .nil, _, e, _, _ => nomatch e
  | _, _, _, k, t, t', q, es', .cons (n := n) (q := q0) (es := es) (qs := qs) e tk r, nd, el, ev, tk' => by
    have nd' := List.nodup_cons.mp nd
    rw [lk_cons] at el
    unfold put
    by_cases hk : n = k
    · rw [if_pos hk] at el ⊢
      rw [valV_pos (p := (Sum.inr n, V.ref q0)) (inr_eq.mpr hk)] at ev
      cases ev
      refine .cons upd_same (tk'.upd e (fun _ z => nomatch z) (fun _ _ z => nomatch z) fun _ z => z.elim) (r.keep keeps_upd (no_tup e) fun q m z => nd'.1 ?_)
      rw [← z]
      exact m
    · rw [if_neg hk] at el ⊢
      rw [valV_neg (p := (Sum.inr n, V.ref q0)) (fun z => hk (inr_eq.mp z))] at ev
      obtain ⟨q', es2, h1, h2, h3, h4⟩ := r.at el
      rw [ev] at h1
      cases h1
      have ne : q0 ≠ q := fun z => nd'.1 (by rw [z]; exact h2)
      exact .cons (by rw [upd_ne ne]; exact e) (tk.upd h3 (fun _ z => nomatch z) (fun _ _ z => nomatch z) fun _ z => z.elim) (OT.set r nd'.2 el ev tk')
/-- a table of it, and what stands when that is changed -/
theorem Own.at {r : Addr} {h : Hs} {k : Str} {t : Tab} (o : Own K N H r h) (e : lk h k = some t) : ∃ kvs q es, H r = some (.dK kvs) ∧ valV kvs (.inr k) = some (.ref q) ∧ H q = some (.dK es) ∧ Tk K H ff es (tK t) ∧ N q ∧ N r ∧ q ≠ r ∧
    ∀ es' t', Tk K H ff es' (tK t') → Own K N (upd H q (.dK es')) r (put h k t') := by
  obtain ⟨qs, kvs, h1, h2, h3, h4⟩ := o.ex
  have nd := List.nodup_cons.mp h3
  obtain ⟨q, es, g1, g2, g3, g4⟩ := h2.at e
  have ne : q ≠ r := fun z => nd.1 (by rw [← z]; exact g2)
  exact ⟨kvs, q, es, h1, g1, g3, g4, h4 q (List.mem_cons_of_mem _ g2), h4 r List.mem_cons_self, ne, fun es' t' tk' => ⟨qs, kvs, by rw [upd_ne (Ne.symm ne)]; exact h1, h2.set nd.2 e g1 tk', h3, h4⟩⟩
theorem OT.snoc {k : Str} {q : Addr} {t : Tab} {es : List (Key × V)} : ∀ {h : Hs} {qs : List Addr} {kvs : List (Key × V)}, OT K H h qs kvs → H q = some (.dK es) → Tk K H ff es (tK t) → OT K H (h ++ [(k, t)]) (qs ++ [q]) (kvs ++ [(.inr k, .ref q)])
  | _, _, _, .nil, e, x => .cons e x .nil
  | _, _, _, .cons a b c, e, x => .cons a b (OT.snoc c e x)
theorem OT.keys : ∀ {h : Hs} {qs : List Addr} {kvs : List (Key × V)}, OT K H h qs kvs → kvs.map (·.1) = (nms h).map Sum.inr
  | _, _, _, .nil => rfl
  | _, _, _, .cons a b c => by
    rw [List.map_cons, nms_cons, List.map_cons, OT.keys c]
theorem OT.len : ∀ {h : Hs} {qs : List Addr} {kvs : List (Key × V)}, OT K H h qs kvs → kvs.length = h.length
  | _, _, _, .nil => rfl
  | _, _, _, .cons a b c => congrArg Nat.succ (OT.len c)
theorem putK_fresh {kvs : List (Key × V)} {k : Key} {v : V} (h : k ∉ kvs.map (·.1)) : putK kvs k v = kvs ++ [(k, v)] := by
  unfold putK
  rw [if_neg]
  intro z
  rw [List.any_eq_true] at z
  obtain ⟨p, hp, e⟩ := z
  exact h (List.mem_map.mpr ⟨p, hp, by simpa using e⟩)
theorem OT.mem {q : Addr} : ∀ {h : Hs} {qs : List Addr} {kvs : List (Key × V)}, OT K H h qs kvs → q ∈ qs → H q ≠ none
  | _, _, _, .cons a b c, m => by
    rcases List.mem_cons.mp m with e | m
    · rw [e, a]
      exact fun z => nomatch z
    · exact OT.mem c m
/-- a new table, made since H1 -/
theorem Own.push {H1 : Hp} {r q : Addr} {h : Hs} {k : Str} {t : Tab} {es : List (Key × V)} (o : Own K N H1 r h) (nk : k ∉ nms h) (nq : H1 q = none) (hq : N q) (s : Same H1 H) (e : H q = some (.dK es)) (tk : Tk K H ff es (tK t)) :
    ∃ kvs, H r = some (.dK kvs) ∧ kvs.length = h.length ∧ Own K N (upd H r (.dK (putK kvs (.inr k) (.ref q)))) r (h ++ [(k, t)]) := by
  obtain ⟨qs, kvs, h1, h2, h3, h4⟩ := o.ex
  have nd := List.nodup_cons.mp h3
  have hr : r ≠ q := ne_of_none h1 nq
  have e2 := s _ _ h1
  have nq' : q ∉ qs := fun m => h2.mem m nq
  refine ⟨kvs, e2, h2.len, qs ++ [q], _, upd_same, ?_, ?_, fun a m => ?_⟩
  · rw [putK_fresh (by rw [h2.keys]; exact fun z => nk (inr_mem.mp z))]
    have h2' : OT K H h qs kvs := h2.keep (W := ff) (.of_same s) (fun _ _ z => z.elim) fun _ _ z => z
    refine (h2'.snoc (k := k) e tk).keep keeps_upd (no_tup e2) fun a m z => ?_
    rw [z] at m
    rcases List.mem_append.mp m with m | m
    · exact nd.1 m
    · exact hr (List.mem_singleton.mp m)
  · refine List.nodup_cons.mpr ⟨fun m => ?_, List.nodup_append.mpr ⟨nd.2, by simp, fun a ha b hb e => nq' (by
      rw [List.mem_singleton] at hb
      rw [← hb, ← e]
      exact ha)⟩⟩
    rcases List.mem_append.mp m with m | m
    · exact nd.1 m
    · exact hr (List.mem_singleton.mp m)
  · rcases List.mem_cons.mp m with e | m
    · rw [e]
      exact h4 r List.mem_cons_self
    · rcases List.mem_append.mp m with m | m
      · exact h4 a (List.mem_cons_of_mem _ m)
      · rw [List.mem_singleton.mp m]
        exact hq
theorem Own.nil {r : Addr} (e : H r = some (.dK [])) (n : N r) : Own K N H r [] := ⟨[], [], e, .nil, by simp, fun q m => by
  rw [List.mem_singleton.mp m]
  exact n⟩
end

/-! ### edits -/
inductive Ed where
  | put (key name : Str) (e : Tr)
  | drop (key name : Str)
def Ed.key : Ed → Str
  | .put k _ _ => k
  | .drop k _ => k
def Ed.name : Ed → Str
  | .put _ n _ => n
  | .drop _ n => n
def Ed.tr : Ed → Tr
  | .put k n e => .tup [.str "put", .str k, .str n, e]
  | .drop k n => .tup [.str "drop", .str k, .str n]
def Ed.Imm : Ed → Prop
  | .put _ _ e => imm e = true
  | .drop _ _ => True
/-- the house behind one edit, or the two words of the error -/
def app1 (h : Hs) (e : Ed) : Except (Str × Str) Hs :=
  match lk h e.key with
  | none => .error ("table", e.key)
  | some t => match e with
    | .put k n v => .ok (TU.put h k (TU.put t n v))
    | .drop k n => if n ∈ nms t then .ok (TU.put h k (TU.del t n)) else .error (k, n)
def eb {α β : Type} : Except (Str × Str) α → (α → Except (Str × Str) β) → Except (Str × Str) β
  | .ok a, f => f a
  | .error x, _ => .error x
def appAll : Hs → List Ed → Except (Str × Str) Hs
  | h, [] => .ok h
  | h, e :: es => eb (app1 h e) fun h' => appAll h' es
def cpH (h : Hs) : Hs := h.map fun p => (p.1, ord p.2)
/-- names stand once, entries hold no lists and no dicts -/
structure Wf (h : Hs) : Prop where
  nd : (nms h).Nodup
  tab : ∀ p ∈ h, (nms p.2).Nodup ∧ immT p.2
def Fits (n : Nat) (h : Hs) : Prop := ∀ p ∈ h, p.2.length ≤ n
end TU

set_option Elab.async false
set_option linter.all false
set_option maxRecDepth 100000
namespace TU
open PySem PySem.Spec PyProof.Rows L2
section
variable {K : PySem.W.Frag} {H H' : Hp} {P P' W N : Addr → Prop} {a : Addr} {xs : List V}
theorem Sm.sqT (s : Same H H') (h : SqT K H a xs) : SqT K H' a xs := sqT_keep (W := ff) (.of_same s) (fun _ _ z => z.elim) h
theorem Sm.sqL (s : Same H H') (h : SqL K H a xs) : SqL K H' a xs := sqL_keep (W := ff) (.of_same s) (fun z => z) h
theorem Sm.rd {u : HO} (s : Same H H') (h : Rd H a u) : Rd H' a u := rd_keep (W := ff) (.of_same s) (fun z => z) h
theorem Sm.at {u : HO} (s : Same H H') (h : H a = some u) : H' a = some u := s _ _ h
theorem T.tupAt {v : V} {ds : List Tr} (h : T K H P v (.tup ds)) : ∃ a xs, v = .ref a ∧ SqT K H a xs ∧ Ts K H P xs ds := by
  cases h with
  | tup s t => exact ⟨_, _, rfl, s, t⟩
theorem T.lstAt {v : V} {ds : List Tr} (h : T K H P v (.lst ds)) : ∃ a xs, v = .ref a ∧ P a ∧ SqL K H a xs ∧ Ts K H P xs ds := by
  cases h with
  | lst p s t => exact ⟨_, _, rfl, p, s, t⟩
theorem T.strAt {v : V} {x : Str} (h : T K H P v (.str x)) : v = .str x := by
  cases h
  rfl
theorem T.intAt {v : V} {x : Int} (h : T K H P v (.int x)) : v = .int x := by
  cases h
  rfl
theorem T.blAt {v : V} {x : Bool} (h : T K H P v (.bl x)) : v = .bl x := by
  cases h
  rfl
theorem T.nonAt {v : V} (h : T K H P v .non) : v = .non := by
  cases h
  rfl
theorem Ts.c {vs : List V} {d : Tr} {ds : List Tr} (h : Ts K H P vs (d :: ds)) : ∃ v us, vs = v :: us ∧ T K H P v d ∧ Ts K H P us ds := by
  cases h with
  | cons a b => exact ⟨_, _, rfl, a, b⟩
theorem Ts.n {vs : List V} (h : Ts K H P vs []) : vs = [] := by
  cases h
  rfl
/-- an edit, opened -/
theorem Ed.at {v : V} {e : Ed} (h : T K H P v e.tr) : ∃ b, v = .ref b ∧ match e with
    | .put k n x => ∃ y, SqT K H b [.str "put", .str k, .str n, y] ∧ T K H P y x
    | .drop k n => SqT K H b [.str "drop", .str k, .str n] := by
  cases e with
  | put k n x =>
    obtain ⟨b, xs, rfl, s, t⟩ := h.tupAt
    obtain ⟨v1, u1, rfl, t1, t⟩ := t.c
    obtain ⟨v2, u2, rfl, t2, t⟩ := t.c
    obtain ⟨v3, u3, rfl, t3, t⟩ := t.c
    obtain ⟨v4, u4, rfl, t4, t⟩ := t.c
    cases t.n
    cases t1.strAt
    cases t2.strAt
    cases t3.strAt
    exact ⟨b, rfl, v4, s, t4⟩
  | drop k n =>
    obtain ⟨b, xs, rfl, s, t⟩ := h.tupAt
    obtain ⟨v1, u1, rfl, t1, t⟩ := t.c
    obtain ⟨v2, u2, rfl, t2, t⟩ := t.c
    obtain ⟨v3, u3, rfl, t3, t⟩ := t.c
    cases t.n
    cases t1.strAt
    cases t2.strAt
    cases t3.strAt
    exact ⟨b, rfl, s⟩
theorem sq_new {p : Addr} {o : List V} : SqL K (upd H p (.lst o)) p o := .inl (.inl upd_same)
theorem st_new {p : Addr} {o : List V} : SqT K (upd H p (.tup o)) p o := .inl (.inl upd_same)
theorem q_ixT' {v : V} {i : Int} {Q : VK} (h : SqT K H a xs) (hi : atI xs i = some v) (q : Q v H) : rIxU K (.ref a) (.int i) H Q := q_ixT h hi q
theorem q_nf {A B : Prop} (h : A) : if (!false) = true then A else B := by
  rw [if_pos (by rfl)]
  exact h
theorem q_nt {A B : Prop} (h : B) : if (!true) = true then A else B := by
  rw [if_neg (by decide)]
  exact h
theorem Same.refl' : Same H H := Same.refl H
/-! ### what is read stays where a dict is locked -/
def RS (H H' : Hp) : Prop := ∀ b u, (∀ o v, u ≠ .frz o v) → Rd H b u → Rd H' b u
theorem RS.of (s : Same H H') : RS H H' := fun b u _ h => Sm.rd s h
theorem RS.refl (H : Hp) : RS H H := fun _ _ _ h => h
theorem RS.trans {H1 : Hp} (s : RS H H1) (t : RS H1 H') : RS H H' := fun b u n h => t b u n (s b u n h)
theorem RS.sqT (s : RS H H') (h : SqT K H a xs) : SqT K H' a xs := h.imp (s _ _ fun _ _ z => nomatch z) fun z => z
theorem RS.sqL (s : RS H H') (h : SqL K H a xs) : SqL K H' a xs := h.imp (s _ _ fun _ _ z => nomatch z) fun z => z
theorem RS.dk {kvs : List (Key × V)} (s : RS H H') (h : Rd H a (.dK kvs)) : Rd H' a (.dK kvs) := s _ _ (fun _ _ z => nomatch z) h
mutual
theorem T.rs (s : RS H H') : ∀ {v : V} {d : Tr}, T K H P v d → T K H' P v d
  | _, _, .non => .non
  | _, _, .bl b => .bl b
  | _, _, .int i => .int i
  | _, _, .str x => .str x
  | _, _, .lst p h t => .lst p (s.sqL h) (Ts.rs s t)
  | _, _, .tup h t => .tup (s.sqT h) (Ts.rs s t)
  | _, _, .dic p h t => .dic p (s.dk h) (Tk.rs s t)
theorem Ts.rs (s : RS H H') : ∀ {v : List V} {d : List Tr}, Ts K H P v d → Ts K H' P v d
  | _, _, .nil => .nil
  | _, _, .cons h t => .cons (T.rs s h) (Ts.rs s t)
theorem Tk.rs (s : RS H H') : ∀ {v : List (Key × V)} {d : List (Key × Tr)}, Tk K H P v d → Tk K H' P v d
  | _, _, .nil => .nil
  | _, _, .cons h t => .cons (T.rs s h) (Tk.rs s t)
end
/-- a dict is locked while it is walked, if it is not so already -/
structure Lkd (H Hl : Hp) (a : Addr) (kvs : List (Key × V)) (od : Obj) (un : Hp → Hp) : Prop where
  at_ : Hl a = some (.frz od (.dK kvs))
  el : ∀ b, b ≠ a → Hl b = H b
  back : ∀ H', H' a = some (.frz od (.dK kvs)) → un H' a = H a
  un : ∀ H' b, b ≠ a → un H' b = H' b
  rd : Rd H a (.dK kvs)
section
variable {Hl : Hp} {kvs : List (Key × V)} {od : Obj} {un : Hp → Hp}
theorem Lkd.rs (l : Lkd H Hl a kvs od un) : RS H Hl := fun b u n h => by
  by_cases e : b = a
  · subst e
    rcases l.rd with z | ⟨o, z⟩
    · rcases h with h | ⟨o', h⟩
      · rw [z] at h
        cases h
        exact .inr ⟨od, l.at_⟩
      · rw [z] at h
        cases h
    · rcases h with h | ⟨o', h⟩
      · rw [z] at h
        cases h
        exact absurd rfl (n _ _)
      · rw [z] at h
        cases h
        exact .inr ⟨od, l.at_⟩
  · have h' : Rd Hl b u := by
      unfold Rd
      rw [l.el b e]
      exact h
    exact h'
/-- what is new at the lock is new ahead of it, and the other way round -/
theorem Lkd.new (l : Lkd H Hl a kvs od un) {b : Addr} : Hl b = none ↔ H b = none := by
  by_cases e : b = a
  · subst e
    rw [l.at_]
    rcases l.rd with z | ⟨o, z⟩ <;> simp [z]
  · rw [l.el b e]
theorem Lkd.same (l : Lkd H Hl a kvs od un) (s : Same Hl H') : Same H (un H') := fun b o e => by
  by_cases h : b = a
  · subst h
    rw [l.back _ (s _ _ l.at_)]
    exact e
  · rw [l.un _ _ h]
    exact s b o (by rw [l.el b h]; exact e)
theorem Lkd.unrs (l : Lkd H Hl a kvs od un) (e : H' a = some (.frz od (.dK kvs))) : RS H' (un H') := fun b u n h => by
  by_cases hb : b = a
  · subst hb
    rcases h with h | ⟨o', h⟩
    · rw [e] at h
      cases h
      exact absurd rfl (n _ _)
    · rw [e] at h
      cases h
      have z := l.back H' e
      rcases l.rd with r | ⟨o, r⟩
      · exact .inl (by rw [z]; exact r)
      · exact .inr ⟨o, by rw [z]; exact r⟩
  · unfold Rd
    rw [l.un _ _ hb]
    exact h
/-- the locked dict is no part of it -/
theorem Lkd.own {N : Addr → Prop} {r : Addr} {h : Hs} (l : Lkd H Hl a kvs od un) (hN : ∀ b, N b → b ≠ a) (e : H' a = some (.frz od (.dK kvs))) (o : Own K N H' r h) : Own K N (un H') r h := by
  obtain ⟨qs, kvs, h1, h2, h3, h4⟩ := o.ex
  have ot : ∀ {h : Hs} {qs : List Addr} {kvs : List (Key × V)}, (∀ q ∈ qs, N q) → OT K H' h qs kvs → OT K (un H') h qs kvs := by
    intro h qs kvs hq o
    induction o with
    | nil => exact .nil
    | cons x t r ih => exact .cons (by rw [l.un _ _ (hN _ (hq _ List.mem_cons_self))]; exact x) (t.rs (l.unrs e)) (ih fun q m => hq q (List.mem_cons_of_mem _ m))
  exact ⟨qs, kvs, by rw [l.un _ _ (hN _ (h4 r List.mem_cons_self))]; exact h1, ot (fun q m => h4 q (List.mem_cons_of_mem _ m)) h2, h3, h4⟩
theorem q_lockE {t : TE} {σ : L2.St} {Q : VK} (hr : Rd H a (.dK kvs)) (h : ∀ Hl od un (Q' : VK), Lkd H Hl a kvs od un → (∀ v H', H' a = some (.frz od (.dK kvs)) → Q v (un H') → Q' v H') → t σ Hl Q') : tLockEU t σ H Q := by
  rcases hr with e | ⟨od, e⟩
  · exact .inr ⟨a, .dK kvs, e, trivial, fun od => h _ od (fun H' => upd H' a (.dK kvs)) _ ⟨upd_same, fun b n => upd_ne n, fun _ _ => by rw [upd_same, e], fun _ b n => upd_ne n, .inl e⟩ fun v H' z q => ⟨z, q⟩⟩
  · exact .inl (h H od (fun H' => H') Q ⟨e, fun _ _ => rfl, fun _ z => by rw [z, e], fun _ _ _ => rfl, .inr ⟨od, e⟩⟩ fun v H' _ q => q)
/-- the ends ahead of a lock and within it -/
structure LkE (D D' : Ends) (a : Addr) (kvs : List (Key × V)) (od : Obj) (un : Hp → Hp) : Prop where
  nx : ∀ σ' H', H' a = some (.frz od (.dK kvs)) → D.nx σ' (un H') → D'.nx σ' H'
  rt : ∀ v H', H' a = some (.frz od (.dK kvs)) → D.rt v (un H') → D'.rt v H'
  bk : ∀ σ' H', H' a = some (.frz od (.dK kvs)) → D.bk σ' (un H') → D'.bk σ' H'
  ct : ∀ σ' H', H' a = some (.frz od (.dK kvs)) → D.ct σ' (un H') → D'.ct σ' H'
theorem q_lockS {t : TS} {D : Ends} {σ : L2.St} (hr : Rd H a (.dK kvs)) (h : ∀ Hl od un D', Lkd H Hl a kvs od un → LkE D D' a kvs od un → t D' σ Hl) : tLockU t D σ H := by
  rcases hr with e | ⟨od, e⟩
  · exact .inr ⟨a, .dK kvs, e, trivial, fun od => h _ od (fun H' => upd H' a (.dK kvs)) _ ⟨upd_same, fun b n => upd_ne n, fun _ _ => by rw [upd_same, e], fun _ b n => upd_ne n, .inl e⟩ ⟨fun _ _ z q => ⟨z, q⟩, fun _ _ z q => ⟨z, q⟩, fun _ _ z q => ⟨z, q⟩, fun _ _ z q => ⟨z, q⟩⟩⟩
  · exact .inl (h H od (fun H' => H') D ⟨e, fun _ _ => rfl, fun _ z => by rw [z, e], fun _ _ _ => rfl, .inr ⟨od, e⟩⟩ ⟨fun _ _ _ q => q, fun _ _ _ q => q, fun _ _ _ q => q, fun _ _ _ q => q⟩)
/-- its keys are walked; a list's, a tuple's items are -/
def kB (R : It → Hp → Prop) (x : V) (H1 : Hp) : Prop := ∃ d o, x = .ref d ∧ ((∃ kvs, H1 d = some (.frz o (.dK kvs)) ∧ R (Itk d o kvs) H1) ∨ ∃ kvs, H1 d = some (.frz o (.dT kvs)) ∧ R (Itkt d o kvs) H1)
def lB (K : PySem.W.Frag) (R : It → Hp → Prop) (x : V) (H1 : Hp) : Prop := ∃ a, x = .ref a ∧ (∃ xs, SqL K H1 a xs) ∧ R (Itl K a) H1
def tpB (K : PySem.W.Frag) (R : It → Hp → Prop) (x : V) (H1 : Hp) : Prop := ∃ a, x = .ref a ∧ (∃ xs, SqT K H1 a xs) ∧ R (Itt K a) H1
theorem q_keys {te : TE} {σ : L2.St} {R : It → Hp → Prop} (h : te σ H (kB R)) : iAny K te σ H R := .inr (.inr h)
theorem q_items {te : TE} {σ : L2.St} {R : It → Hp → Prop} (h : te σ H (lB K R)) : iAny K te σ H R := .inl h
theorem q_tups {te : TE} {σ : L2.St} {R : It → Hp → Prop} (h : te σ H (tpB K R)) : iAny K te σ H R := .inr (.inl h)
theorem q_keysE {x : Addr} {R : It → Hp → Prop} (e : H x = some (.frz od (.dK kvs))) (r : R (Itk x od kvs) H) : kB R (.ref x) H := ⟨x, od, rfl, .inl ⟨kvs, e, r⟩⟩
theorem q_itemsE {x : Addr} {xs : List V} {R : It → Hp → Prop} (e : SqL K H x xs) (r : R (Itl K x) H) : lB K R (.ref x) H := ⟨x, rfl, ⟨xs, e⟩, r⟩
theorem q_tupsE {x : Addr} {xs : List V} {R : It → Hp → Prop} (e : SqT K H x xs) (r : R (Itt K x) H) : tpB K R (.ref x) H := ⟨x, rfl, ⟨xs, e⟩, r⟩
end
end
end TU

set_option Elab.async false
set_option linter.all false
set_option maxRecDepth 100000
namespace TU
open PySem PySem.Spec PyProof.Rows L2
/-! ### the rules, the written part named -/
section
variable {X : Cx} {K : PySem.W.Frag}
theorem k_add (h : X.K = K) : OpR X (binaryOp .Add) (rAddU K) := h ▸ op_addU
theorem k_eq (h : X.K = K) (hu : X.A.units + 64 < cLine) : OpR X (compareOp .Eq) (rEqU K) := h ▸ op_eqU hu
theorem k_ne (h : X.K = K) (hu : X.A.units + 64 < cLine) : OpR X (compareOp .NotEq) (rNeU K) := h ▸ op_neU hu
theorem k_in (h : X.K = K) (hu : X.A.units + 64 < cLine) : OpR X (compareOp .In) (rInU false K) := h ▸ op_inU hu
theorem k_nin (h : X.K = K) (hu : X.A.units + 64 < cLine) : OpR X (compareOp .NotIn) (rInU true K) := h ▸ op_notInU hu
theorem k_ix (h : X.K = K) (hu : X.A.units + 64 < cLine) : IxR X (rIxU K) := h ▸ ix_any hu
theorem k_sl (h : X.K = K) : SlR X (rSlU K) := h ▸ sl_any
theorem k_len (h : X.K = K) : CallR X (.builtin "len") (rLenU K) := h ▸ call_lenU
theorem k_list (h : X.K = K) (hc : X.calm = true) : CallR X (.type "list") (rListU K) := h ▸ call_listU hc
theorem k_sort (h : X.K = K) (hc : X.calm = true) : CallR X (.builtin "sorted") (rSortU K) := h ▸ call_sortU hc
theorem k_isi (h : X.K = K) : CallR X (.builtin "isinstance") (rIsi K) := h ▸ call_isi
theorem k_sum (h : X.K = K) (hc : X.calm = true) : CallR X (.builtin "sum") (rSum K) := h ▸ cr_sum hc
theorem k_all (h : X.K = K) (hc : X.calm = true) : CallR X (.builtin "all") (rAll K) := h ▸ cr_all hc
theorem k_anyb (h : X.K = K) (hc : X.calm = true) : CallR X (.builtin "any") (rAny K) := h ▸ cr_any hc
theorem k_repr (h : X.K = K) (hg : X.A.guards = some []) (hu : X.A.units + 64 < cLine) : CallR X (.builtin "repr") (rReprT K) := h ▸ call_reprT hg hu
theorem k_tr {e : Expr} {te : TE} (h : X.K = K) (he : PE X e te) (hi : ∀ whole, isTrue e X.env whole = (do let v ← whole; standAt e.pos; holding [v] (truthy v)) := by intro _; rfl) : PT X e (tTr K te) := h ▸ pt_tr he hi
theorem k_walk {tg e : Expr} {te : TE} (h : X.K = K) (he : PE X e te) : PI X tg e (iAny K te) := h ▸ pi_any he
theorem k_rev {e : Expr} {te : TE} {k : Nat} {p1 p2 p3 pos : Pos} (h : X.K = K) (he : PE X e te) : PE X (.Subscript e (.Slice none none (some (.UnaryOp .USub (.Constant (.int 1) k p1) p2)) p3) pos) (tRevL K te) := h ▸ pe_revL he
theorem k_tup {es : List Expr} {k : Nat} {t : TGs} {pos : Pos} {n : Nat} (h : X.K = K) (hc : X.calm = true) (ht : PGs X es t) (hn : (assignEach es X.env).length = n := by rfl) (hst : (assignEach es X.env).findIdx? (·.1) = none := by rfl) : PG X (.Tuple es k pos) (gTup K n t) := h ▸ pg_tup hc ht hn hst
theorem k_fld {e : Expr} {f : Str} {pos : Pos} {te : TE} (h : X.K = K) (he : PE X e te) (hb : attributeBase e f X.env (eval e X.env) = eval e X.env) : PE X (.Attribute e f pos) (tFld K te f) := h ▸ pe_fld he hb
theorem k_append {o e : Expr} {to : TE} {t : TA} {apos cpos : Pos} (h : X.K = K) (ho : PE X o to) (ha : PA X [e] t)
    (hbase : attributeBase o "append" X.env (eval o X.env) = eval o X.env := by rfl)
    (hfew : ((backTo cpos (starEach [e] X.env)).all (fun x => !x.1) && (backToKw cpos (keywordEach [] X.env)).all (fun x => x.1.isSome) && decide (([e] : List Expr).length + ([] : List Keyword).length + (if ([] : List Keyword).isEmpty then 0 else 1) < 30)) = true := by rfl)
    (hline : (apos.endLine == cpos.line) = true := by rfl) (hs : starEach [e] X.env = (false, eval e X.env) :: starEach [] X.env := by rfl) (hplain : (backTo cpos (starEach [] X.env)).any (·.1) = false := by rfl) :
    PE X (.Call (.Attribute o "append" apos) [e] [] cpos) (tBM K "list" rAppend to t) := h ▸ pe_bm PySem.F.plainAttrs_list PySem.F.slot_list_append PySem.F.type_list_append mt_append ho ha hbase hfew hline hs hplain
end
end TU

set_option Elab.async false
set_option linter.all false
set_option maxRecDepth 100000
namespace TU
open PySem PySem.Spec PyProof.Rows L2
section
variable {K : PySem.W.Frag}
/-- the pairs of a table by place -/
theorem at_tK {t : Tab} {i : Nat} {n : Str} {d : Tr} (h : t[i]? = some (n, d)) : (tK t)[i]? = some (.inr n, d) := by
  unfold tK
  rw [List.getElem?_map, h]
  rfl
theorem at_hK {t : Hs} {i : Nat} {n : Str} {d : Tab} (h : t[i]? = some (n, d)) : (hK t)[i]? = some (.inr n, .dic (tK d)) := by
  unfold hK
  rw [List.getElem?_map, h]
  rfl
theorem take_more {α : Type} {l : List α} {i : Nat} {x : α} (h : l[i]? = some x) : l.take (i + 1) = l.take i ++ [x] := by
  rw [List.take_add_one, h]
  rfl
theorem mem_at {α : Type} {l : List α} {i : Nat} {x : α} (h : l[i]? = some x) : x ∈ l := List.mem_of_getElem? h
theorem nd_at {l : List Str} (nd : l.Nodup) {i : Nat} {x : Str} (h : l[i]? = some x) : x ∉ l.take i := fun m => by
  obtain ⟨j, hj, e⟩ := List.getElem_of_mem m
  have hi : i < l.length := (List.getElem?_eq_some_iff.mp h).1
  rw [List.length_take] at hj
  have e2 : l[j]? = some x := by
    rw [← e, List.getElem_take]
    exact List.getElem?_eq_getElem (by omega)
  have := List.pairwise_iff_getElem.mp nd j i (by omega) hi (by omega)
  rw [List.getElem?_eq_getElem hi] at h
  rw [List.getElem?_eq_getElem (by omega)] at e2
  exact this (by rw [Option.some.inj e2, Option.some.inj h])
theorem nms_at {β : Type} {l : List (Str × β)} {i : Nat} {n : Str} {d : β} (h : l[i]? = some (n, d)) : (nms l)[i]? = some n := by
  unfold nms
  rw [List.getElem?_map, h]
  rfl
theorem nms_take {β : Type} (l : List (Str × β)) (i : Nat) : nms (l.take i) = (nms l).take i := by
  unfold nms
  rw [List.map_take]
theorem cpH_take (h : Hs) (i : Nat) : cpH (h.take i) = (cpH h).take i := by
  unfold cpH
  rw [List.map_take]
theorem nms_cpH (h : Hs) : nms (cpH h) = nms h := by
  unfold nms cpH
  rw [List.map_map]
  rfl
theorem cpH_at {h : Hs} {i : Nat} {n : Str} {t : Tab} (e : h[i]? = some (n, t)) : (cpH h)[i]? = some (n, ord t) := by
  unfold cpH
  rw [List.getElem?_map, e]
  rfl
theorem Tk.at {H : Hp} {N : Addr → Prop} : ∀ {kvs : List (Key × V)} {es : List (Key × Tr)} {i : Nat} {k : Key} {v : V}, Tk K H N kvs es → kvs[i]? = some (k, v) → ∃ d, es[i]? = some (k, d) ∧ T K H N v d
  | _, _, _, _, _, .nil, e => by simp at e
  | _, _, 0, k, v, .cons h _, e => by
    simp at e
    obtain ⟨rfl, rfl⟩ := e
    exact ⟨_, rfl, h⟩
  | _, _, i + 1, k, v, .cons _ t, e => by
    obtain ⟨d, h1, h2⟩ := Tk.at (i := i) t (by simpa using e)
    exact ⟨d, by simpa using h1, h2⟩
theorem hK_at {h : Hs} {i : Nat} {k : Key} {d : Tr} (e : (hK h)[i]? = some (k, d)) : ∃ n t, h[i]? = some (n, t) ∧ k = .inr n ∧ d = .dic (tK t) := by
  unfold hK at e
  rw [List.getElem?_map] at e
  cases q : h[i]? with
  | none =>
    rw [q] at e
    cases e
  | some p =>
    rw [q] at e
    cases e
    exact ⟨p.1, p.2, rfl, rfl, rfl⟩
theorem srt_at {l : List Str} {j : Nat} {x : V} (e : (l.map V.str)[j]? = some x) : ∃ n, l[j]? = some n ∧ x = .str n := by
  rw [List.getElem?_map] at e
  cases q : l[j]? with
  | none =>
    rw [q] at e
    cases e
  | some n =>
    rw [q] at e
    cases e
    exact ⟨n, rfl, rfl⟩
theorem ord_at {t : Tab} {j : Nat} {n : Str} (e : (srt (nms t))[j]? = some n) : ∃ d, (ord t)[j]? = some (n, d) ∧ lk t n = some d := by
  have m : n ∈ nms t := (srt_perm _).mem_iff.mp (mem_at e)
  cases q : lk t n with
  | none => exact absurd m (lk_none.mp q)
  | some d =>
    refine ⟨d, ?_, rfl⟩
    unfold ord
    rw [List.getElem?_map, e]
    show some (n, (lk t n).getD default) = _
    rw [q]
    rfl
theorem immT_lk {t : Tab} (h : immT t) {n : Str} {d : Tr} (e : lk t n = some d) : imm d = true := h _ (lk_mem e)
theorem tK_snoc (t : Tab) (n : Str) (d : Tr) : tK (t ++ [(n, d)]) = tK t ++ [(.inr n, d)] := by
  unfold tK
  rw [List.map_append]
  rfl
theorem len_small {n : Nat} (h : n ≤ 100000) : n < sizeLine := Nat.lt_of_le_of_lt h (by decide)


/-- an Unknown with its two words -/
def XUnk (C : Addr) (what name : Str) (H : Hp) (E : XK) : Prop := ∀ d H', Same H H' → H' d = some (.xd [("name", .str name), ("what", .str what)]) → E (.ref C) (some d) H'
end
end TU

set_option Elab.async false
set_option linter.all false
set_option maxRecDepth 100000
namespace TU
open PySem PySem.Spec PyProof.Rows L2
section
variable {K : PySem.W.Frag} {H H' : Hp} {N : Addr → Prop}
theorem XUnk.mono {C : Addr} {w n : Str} {E : XK} (s : Same H H') (x : XUnk C w n H E) : XUnk C w n H' E := fun d H1 s1 e => x d H1 (s.trans s1) e
theorem Own.live {r : Addr} {h : Hs} (o : Own K N H r h) : Own K (fun b => N b ∧ H b ≠ none) H r h := by
  obtain ⟨qs, kvs, h1, h2, h3, h4⟩ := o.ex
  refine ⟨qs, kvs, h1, h2, h3, fun q m => ⟨h4 q m, ?_⟩⟩
  rcases List.mem_cons.mp m with e | m
  · rw [e, h1]
    exact fun z => nomatch z
  · exact h2.mem m
theorem appAll_cons (h : Hs) (e : Ed) (es : List Ed) : appAll h (e :: es) = eb (app1 h e) fun h' => appAll h' es := rfl
theorem appAll_append : ∀ (h : Hs) (xs ys : List Ed), appAll h (xs ++ ys) = eb (appAll h xs) fun h' => appAll h' ys
  | h, [], ys => rfl
  | h, e :: xs, ys => by
    rw [List.cons_append, appAll_cons, appAll_cons]
    cases app1 h e with
    | ok h' => exact appAll_append h' xs ys
    | error x => rfl
theorem appAll_one (h : Hs) (e : Ed) : appAll h [e] = app1 h e := by
  rw [appAll_cons]
  cases app1 h e <;> rfl
/-- the edits up to a place, and one more -/
theorem appAll_more {h hi : Hs} {es : List Ed} {i : Nat} {e : Ed} (he : es[i]? = some e) (ha : appAll h (es.take i) = .ok hi) : appAll h (es.take (i + 1)) = app1 hi e := by
  rw [take_more he, appAll_append, ha]
  exact appAll_one hi e
theorem appAll_stop {h hi : Hs} {es : List Ed} {i : Nat} {e : Ed} {x : Str × Str} (he : es[i]? = some e) (ha : appAll h (es.take i) = .ok hi) (hx : app1 hi e = .error x) : appAll h es = .error x := by
  have e1 := appAll_more he ha
  rw [hx] at e1
  have e2 := appAll_append h (es.take (i + 1)) (es.drop (i + 1))
  rw [List.take_append_drop, e1] at e2
  exact e2
theorem nms_cp (h : Hs) : nms (cpH h) = nms h := nms_cpH h
theorem immT_put {t : Tab} (h : immT t) (n : Str) {d : Tr} (hd : imm d = true) : immT (put t n d) := by
  intro p hp
  induction t with
  | nil =>
    have e : p = (n, d) := List.mem_singleton.mp hp
    rw [e]
    exact hd
  | cons q r ih =>
    unfold put at hp
    by_cases e : q.1 = n
    · rw [if_pos e] at hp
      rcases List.mem_cons.mp hp with e | m
      · rw [e]
        exact hd
      · exact h p (List.mem_cons_of_mem _ m)
    · rw [if_neg e] at hp
      rcases List.mem_cons.mp hp with e | m
      · rw [e]
        exact h q List.mem_cons_self
      · exact ih (fun x hx => h x (List.mem_cons_of_mem _ hx)) m
theorem mem_del {β : Type} {t : List (Str × β)} {n : Str} {p : Str × β} (hp : p ∈ del t n) : p ∈ t := by
  induction t with
  | nil => exact hp
  | cons q r ih =>
    unfold del at hp
    by_cases e : q.1 = n
    · rw [if_pos e] at hp
      exact List.mem_cons_of_mem _ hp
    · rw [if_neg e] at hp
      rcases List.mem_cons.mp hp with e | m
      · rw [e]
        exact List.mem_cons_self
      · exact List.mem_cons_of_mem _ (ih m)
theorem immT_del {t : Tab} (h : immT t) (n : Str) : immT (del t n) := fun p hp => h p (mem_del hp)
theorem mem_put {β : Type} {t : List (Str × β)} {n : Str} {v : β} {p : Str × β} (hp : p ∈ put t n v) : p ∈ t ∨ p = (n, v) := by
  induction t with
  | nil => exact .inr (List.mem_singleton.mp hp)
  | cons q r ih =>
    unfold put at hp
    by_cases e : q.1 = n
    · rw [if_pos e] at hp
      rcases List.mem_cons.mp hp with e2 | m
      · rw [e] at e2
        exact .inr e2
      · exact .inl (List.mem_cons_of_mem _ m)
    · rw [if_neg e] at hp
      rcases List.mem_cons.mp hp with e2 | m
      · rw [e2]
        exact .inl List.mem_cons_self
      · exact (ih m).imp (List.mem_cons_of_mem _) id
theorem immT_ord {t : Tab} (h : immT t) : immT (ord t) := by
  intro p hp
  unfold ord at hp
  obtain ⟨n, hn, rfl⟩ := List.mem_map.mp hp
  have m : n ∈ nms t := (srt_perm _).mem_iff.mp hn
  cases q : lk t n with
  | none => exact absurd m (lk_none.mp q)
  | some d => exact immT_lk h q
theorem Wf.cp {h : Hs} (w : Wf h) : Wf (cpH h) := by
  refine ⟨by rw [nms_cpH]; exact w.nd, fun p hp => ?_⟩
  obtain ⟨q, hq, rfl⟩ := List.mem_map.mp hp
  exact ⟨nd_ord (w.tab q hq).1, immT_ord (w.tab q hq).2⟩
theorem Wf.set {h : Hs} (w : Wf h) {k : Str} {t : Tab} (nd : (nms t).Nodup) (im : immT t) : Wf (put h k t) := by
  refine ⟨nd_put w.nd k t, fun p hp => ?_⟩
  rcases mem_put hp with m | e
  · exact w.tab p m
  · rw [e]
    exact ⟨nd, im⟩
theorem Fits.cp {n : Nat} {h : Hs} (f : Fits n h) : Fits n (cpH h) := fun p hp => by
  obtain ⟨q, hq, rfl⟩ := List.mem_map.mp hp
  rw [len_ord]
  exact f q hq
theorem Fits.set {n m : Nat} {h : Hs} (f : Fits n h) (hnm : n ≤ m) {k : Str} {t : Tab} (ht : t.length ≤ m) : Fits m (put h k t) := fun p hp => by
  rcases mem_put hp with x | e
  · exact Nat.le_trans (f p x) hnm
  · rw [e]
    exact ht
theorem len_cp (h : Hs) : (cpH h).length = h.length := by
  unfold cpH
  rw [List.length_map]
theorem len_put_of {β : Type} {h : List (Str × β)} {k : Str} {v : β} (m : k ∈ nms h) : (put h k v).length = h.length := by
  rw [← nms_len, nms_put, if_pos m, nms_len]
theorem nms_put_of {β : Type} {h : List (Str × β)} {k : Str} {v : β} (m : k ∈ nms h) : nms (put h k v) = nms h := by rw [nms_put, if_pos m]
/-- what one edit leaves of the shape -/
theorem app1_ok {h h' : Hs} {e : Ed} (w : Wf h) (im : e.Imm) {n : Nat} (f : Fits n h) (ha : app1 h e = .ok h') : Wf h' ∧ Fits (n + 1) h' ∧ nms h' = nms h := by
  unfold app1 at ha
  cases q : lk h e.key with
  | none =>
    rw [q] at ha
    cases ha
  | some t =>
    rw [q] at ha
    have hm := lk_mem q
    have wt := w.tab _ hm
    have ft : t.length ≤ n := f _ hm
    have hk : e.key ∈ nms h := mem_nms hm
    cases e with
    | put k m d =>
      cases ha
      have := len_put_le t m d
      exact ⟨w.set (nd_put wt.1 m d) (immT_put wt.2 m im), f.set (Nat.le_succ _) (by omega), nms_put_of hk⟩
    | drop k m =>
      by_cases hn : m ∈ nms t
      · simp only [if_pos hn] at ha
        cases ha
        have := len_del_le t m
        exact ⟨w.set (nd_del wt.1 m) (immT_del wt.2 m), f.set (Nat.le_succ _) (by omega), nms_put_of hk⟩
      · simp only [if_neg hn] at ha
        cases ha
theorem appAll_ok : ∀ {es : List Ed} {h h' : Hs} {n : Nat}, Wf h → (∀ e ∈ es, e.Imm) → Fits n h → appAll h es = .ok h' → Wf h' ∧ Fits (n + es.length) h' ∧ nms h' = nms h
  | [], h, h', n, w, im, f, ha => by
    cases ha
    exact ⟨w, f, rfl⟩
  | e :: es, h, h', n, w, im, f, ha => by
    rw [appAll_cons] at ha
    cases q : app1 h e with
    | error x =>
      rw [q] at ha
      cases ha
    | ok h1 =>
      rw [q] at ha
      obtain ⟨w1, f1, n1⟩ := app1_ok w (im e List.mem_cons_self) f q
      obtain ⟨w2, f2, n2⟩ := appAll_ok w1 (fun x hx => im x (List.mem_cons_of_mem _ hx)) f1 ha
      refine ⟨w2, ?_, n2.trans n1⟩
      rw [List.length_cons, show n + (es.length + 1) = n + 1 + es.length by omega]
      exact f2
theorem len_of_nms {h h' : Hs} (e : nms h' = nms h) : h'.length = h.length := by rw [← nms_len h', e, nms_len]
theorem Ts.gets {vs : List V} {ds : List Tr} {i : Nat} {v : V} (h : Ts K H N vs ds) (e : vs[i]? = some v) : ∃ d, ds[i]? = some d ∧ T K H N v d := h.get e
theorem map_at {α β : Type} {f : α → β} {l : List α} {i : Nat} {y : β} (e : (l.map f)[i]? = some y) : ∃ x, l[i]? = some x ∧ y = f x := by
  rw [List.getElem?_map] at e
  cases q : l[i]? with
  | none =>
    rw [q] at e
    cases e
  | some x =>
    rw [q] at e
    cases e
    exact ⟨x, rfl, rfl⟩
/-- what leads back from one edit; from a list of edits -/
def inv1 (h : Hs) (e : Ed) : Ed := match lk h e.key with
  | none => .drop e.key e.name
  | some t => match lk t e.name with
    | some d => .put e.key e.name d
    | none => .drop e.key e.name
def invs : Hs → List Ed → List Ed
  | _, [] => []
  | h, e :: es => inv1 h e :: (match app1 h e with | .ok h' => invs h' es | .error _ => [])
theorem inv1_imm {h : Hs} (w : Wf h) (e : Ed) : (inv1 h e).Imm := by
  cases q : lk h e.key with
  | none =>
    simp only [inv1, q]
    trivial
  | some t =>
    cases q2 : lk t e.name with
    | none =>
      simp only [inv1, q, q2]
      trivial
    | some d =>
      simp only [inv1, q, q2]
      exact immT_lk (w.tab _ (lk_mem q)).2 q2
theorem invs_more : ∀ {es : List Ed} {h hi : Hs} {i : Nat} {e : Ed}, es[i]? = some e → appAll h (es.take i) = .ok hi → invs h (es.take (i + 1)) = invs h (es.take i) ++ [inv1 hi e]
  | [], _, _, _, _, he, _ => by simp at he
  | x :: es, h, hi, 0, e, he, ha => by
    have e1 : x = e := by simpa using he
    have e2 : h = hi := by
      have : Except.ok h = Except.ok hi := ha
      exact Except.ok.inj this
    subst e1 e2
    show inv1 h x :: (match app1 h x with | .ok h' => invs h' [] | .error _ => []) = [inv1 h x]
    cases app1 h x <;> rfl
  | x :: es, h, hi, i + 1, e, he, ha => by
    have he' : es[i]? = some e := by simpa using he
    rw [List.take_succ_cons] at ha ⊢
    rw [List.take_succ_cons]
    rw [appAll_cons] at ha
    unfold invs
    cases q : app1 h x with
    | error z =>
      rw [q] at ha
      cases ha
    | ok h1 =>
      rw [q] at ha
      show inv1 h x :: invs h1 (es.take (i + 1)) = inv1 h x :: invs h1 (es.take i) ++ [inv1 hi e]
      rw [invs_more he' ha]
      rfl
end
section
variable {K : PySem.W.Frag} {σ : L2.St} {H : Hp} {D : Ends}
theorem q_is {α : Type} {x : α} {A B : Prop} (h : A) : if (some x).isSome = true then A else B := q_t h
theorem q_isn {α : Type} {A B : Prop} (h : B) : if (none : Option α).isSome = true then A else B := q_f h
theorem q_nis {α : Type} {x : α} {A B : Prop} (h : B) : if (!(some x).isSome) = true then A else B := q_nt h
theorem q_nisn {α : Type} {A B : Prop} (h : A) : if (!(none : Option α).isSome) = true then A else B := q_nf h
theorem q_ddel {td ty : TE} (h : td σ H fun x H1 => ty σ H1 fun y H2 => ∃ a kvs k, x = .ref a ∧ H2 a = some (.dK kvs) ∧ y = kV k ∧ (valV kvs k).isSome = true ∧ D.nx σ (upd H2 a (.dK (dropK kvs k)))) : sDDel td ty D σ H := h
theorem q_rev {te : TE} {Q : VK} (h : te σ H fun x H1 => ∃ a xs, x = .ref a ∧ SqL K H1 a xs ∧ ∀ p, H1 p = none → Q (.ref p) (upd H1 p (.lst xs.reverse))) : tRevL K te σ H Q := h
theorem Ts.rev {N : Addr → Prop} : ∀ {vs : List V} {ds : List Tr}, Ts K H N vs ds → Ts K H N vs.reverse ds.reverse
  | _, _, .nil => .nil
  | _, _, .cons h t => by
    rw [List.reverse_cons, List.reverse_cons]
    exact (Ts.rev t).append (.cons h .nil)
/-- over a list's items -/
theorem for_items {a : Addr} {xs : List V} {tb : TS} {j : Nat} (Pv : Nat → L2.St → Hp → Prop) (h0 : Pv 0 σ H) (hx : ∀ i σ H, i ≤ xs.length → Pv i σ H → SqL K H a xs)
    (hs : ∀ i x σ H, xs[i]? = some x → Pv i σ H → tb { D with nx := Pv (i + 1), ct := Pv (i + 1), bk := D.nx } (σ.set j (some x)) H) (hd : ∀ σ H, Pv xs.length σ H → D.nx σ H) : forB (Itl K a) (gName j) tb D σ H :=
  for_any walk_list Pv h0 hx (fun i x σ H H' _ p y => by
    obtain ⟨e, y⟩ := y
    subst e
    exact hs i x σ _ y p) hd
end
end TU

set_option Elab.async false
set_option linter.all false
set_option maxRecDepth 100000
namespace TU
open PySem PySem.Spec PyProof.Rows L2
section
variable {X : Cx}
def rIntU : List V → Hp → VK → Prop := fun xs H Q => (∃ i, xs = [.int i] ∧ Q (.int i) H) ∨ ∃ k, xs = [.bl k] ∧ Q (.int (if k then 1 else 0)) H
theorem k_int : CallR X (.type "int") rIntU := call_int1
def rAbsU : List V → Hp → VK → Prop := fun xs H Q => ∃ i, xs = [.int i] ∧ Q (.int (if i < 0 then -i else i)) H
theorem k_abs : CallR X (.builtin "abs") rAbsU := call_abs
end
section
variable {K : PySem.W.Frag} {σ : L2.St} {H H' : Hp} {Q : VK}
theorem q_intI {i : Int} (q : Q (.int i) H) : rIntU [.int i] H Q := .inl ⟨i, rfl, q⟩
theorem q_intB {b : Bool} (q : Q (.int (if b then 1 else 0)) H) : rIntU [.bl b] H Q := .inr ⟨b, rfl, q⟩
theorem q_abs {i : Int} (q : Q (.int (if i < 0 then -i else i)) H) : rAbsU [.int i] H Q := ⟨i, rfl, q⟩
theorem upd_self {a : Addr} {o : HO} (e : H a = some o) : upd H a o = H := by
  funext b
  by_cases h : b = a
  · rw [h, upd_same, e]
  · rw [upd_ne h]
/-- where a lies may be written; all else stays -/
def Kp (a : Addr) (H H' : Hp) : Prop := Keeps (fun b => b = a) H H'
theorem Kp.refl {a : Addr} : Kp a H H := fun _ _ _ e => e
theorem Kp.trans {a : Addr} {H1 : Hp} (x : Kp a H H1) (y : Kp a H1 H') : Kp a H H' := fun b o n e => y b o n (x b o n e)
theorem Kp.of {a : Addr} (s : Same H H') : Kp a H H' := fun b o _ e => s b o e
theorem Kp.upd {a : Addr} {o : HO} : Kp a H (upd H a o) := keeps_upd
/-- what is new since H1, where H1 knows a, may change, too -/
theorem Kp.new {a p : Addr} {H1 : Hp} {o : HO} (x : Kp a H H1) (hp : H p = none) : Kp a H (L2.upd H1 p o) := fun b u n e => by
  rw [upd_ne (ne_of_none e hp)]
  exact x b u n e
/-- the draws' list and place -/
structure Rnd (H : Hp) (j a : Addr) (p : Int) : Prop where
  ex : ∃ ns : List Int, H j = some (.lst (ns.map V.int)) ∧ ns.length ≤ 2000 ∧ ∀ n ∈ ns, 0 ≤ n ∧ n < 1000
  at_ : H a = some (.lst [.int p])
  ne : j ≠ a
  p0 : 0 ≤ p
theorem Rnd.same {j a : Addr} {p : Int} (r : Rnd H j a p) (s : Same H H') : Rnd H' j a p := by
  obtain ⟨ns, h1, h2, h3⟩ := r.ex
  exact ⟨⟨ns, s _ _ h1, h2, h3⟩, s _ _ r.at_, r.ne, r.p0⟩
theorem Rnd.set {j a : Addr} {p p' : Int} (r : Rnd H j a p) (h : 0 ≤ p') : Rnd (upd H a (.lst [.int p'])) j a p' := by
  obtain ⟨ns, h1, h2, h3⟩ := r.ex
  exact ⟨⟨ns, by rw [upd_ne r.ne]; exact h1, h2, h3⟩, upd_same, r.ne, h⟩
theorem Rnd.upd {j a q : Addr} {p : Int} {o o' : HO} (r : Rnd H j a p) (e : H q = some o) (hj : q ≠ j) (ha : q ≠ a) : Rnd (upd H q o') j a p := by
  obtain ⟨ns, h1, h2, h3⟩ := r.ex
  exact ⟨⟨ns, by rw [upd_ne hj.symm]; exact h1, h2, h3⟩, by rw [upd_ne ha.symm]; exact r.at_, r.ne, r.p0⟩
theorem T.kp {a : Addr} {xs : List V} {N N' : Addr → Prop} {v : V} {d : Tr} (h : T K H N v d) (k : Kp a H H') (e : H a = some (.lst xs)) (hN : ∀ b, N b → N' b ∧ b ≠ a) : T K H' N' v d := h.keep k (nt_of e (fun _ z => nomatch z) fun _ _ z => nomatch z) hN
theorem Own.kp {a r : Addr} {xs : List V} {N : Addr → Prop} {h : Hs} (o : Own K N H r h) (k : Kp a H H') (e : H a = some (.lst xs)) (hN : ∀ b, N b → b ≠ a) : Own K N H' r h := o.keep k (nt_of e (fun _ z => nomatch z) fun _ _ z => nomatch z) hN
theorem Ts.kp {a : Addr} {xs : List V} {N N' : Addr → Prop} {v : List V} {d : List Tr} (h : Ts K H N v d) (k : Kp a H H') (e : H a = some (.lst xs)) (hN : ∀ b, N b → N' b ∧ b ≠ a) : Ts K H' N' v d := h.keep k (nt_of e (fun _ z => nomatch z) fun _ _ z => nomatch z) hN
theorem fmod_lt {a b : Int} (h : 0 < b) : 0 ≤ a.fmod b ∧ a.fmod b < b := by
  rw [Int.fmod_eq_emod_of_nonneg a (by omega)]
  exact ⟨Int.emod_nonneg a (by omega), Int.emod_lt_of_pos a h⟩
theorem fdiv_le {a b : Int} (h : 0 < b) (ha : 0 ≤ a) : 0 ≤ a.fdiv b ∧ a.fdiv b ≤ a := by
  rw [Int.fdiv_eq_ediv_of_nonneg a (by omega)]
  exact ⟨Int.ediv_nonneg ha (by omega), Int.ediv_le_self b ha⟩
end
end TU

set_option Elab.async false
set_option linter.all false
set_option maxRecDepth 100000
namespace TU
open PySem PySem.Spec PyProof.Rows L2
section
variable {K : PySem.W.Frag} {H H' : Hp} {N : Addr → Prop}
theorem lk_snoc {β : Type} {h : List (Str × β)} {k : Str} {t : β} (nk : k ∉ nms h) : lk (h ++ [(k, t)]) k = some t := by
  induction h with
  | nil => simp [lk_cons]
  | cons p r ih =>
    rw [nms_cons, List.mem_cons, not_or] at nk
    rw [List.cons_append, lk_cons, if_neg (fun z => nk.1 z.symm)]
    exact ih nk.2
theorem put_snoc {β : Type} {h : List (Str × β)} {k : Str} {t t' : β} (nk : k ∉ nms h) : put (h ++ [(k, t)]) k t' = h ++ [(k, t')] := by
  induction h with
  | nil => simp [put]
  | cons p r ih =>
    rw [nms_cons, List.mem_cons, not_or] at nk
    rw [List.cons_append, put, if_neg (fun z => nk.1 z.symm), ih nk.2]
    rfl
theorem nms_append {β : Type} (h g : List (Str × β)) : nms (h ++ g) = nms h ++ nms g := List.map_append
theorem put_fresh {β : Type} {h : List (Str × β)} {k : Str} {t : β} (nk : k ∉ nms h) : put h k t = h ++ [(k, t)] := by
  induction h with
  | nil => rfl
  | cons p r ih =>
    rw [nms_cons, List.mem_cons, not_or] at nk
    rw [put, if_neg (fun z => nk.1 z.symm), ih nk.2]
    rfl
/-- a list object that is no dict stands when a dict is changed -/
theorem sqL_dk {q p : Addr} {xs : List V} {es : List (Key × V)} {o : HO} (e : H q = some (.dK es)) (h : H p = some (.lst xs)) : (upd H q o) p = some (.lst xs) := by
  rw [upd_ne (ne_of h e (fun z => nomatch z))]
  exact h
theorem hlist_at {ss : List Str} {i : Nat} {x : V} (h : (ss.map V.str)[i]? = some x) : ∃ n, ss[i]? = some n ∧ x = .str n := srt_at h
/-- behind a lock of a: what H knew stands, a is locked -/
structure Lk1 (H : Hp) (a : Addr) (kvs : List (Key × V)) (od : Obj) (H1 : Hp) : Prop where
  keep : ∀ b o, H b = some o → b ≠ a → H1 b = some o
  at_ : H1 a = some (.frz od (.dK kvs))
section
variable {a : Addr} {kvs : List (Key × V)} {od : Obj} {H1 H2 Hl : Hp} {un : Hp → Hp}
theorem Lkd.l1 (l : Lkd H Hl a kvs od un) : Lk1 H a kvs od Hl := ⟨fun b o e n => by rw [l.el b n]; exact e, l.at_⟩
theorem Lk1.same (l : Lk1 H a kvs od H1) (s : Same H1 H2) : Lk1 H a kvs od H2 := ⟨fun b o e n => s _ _ (l.keep b o e n), s _ _ l.at_⟩
theorem Lk1.ne (l : Lk1 H a kvs od H1) (rd : Rd H a (.dK kvs)) {b : Addr} (e : H b = none) : b ≠ a := fun z => by
  rw [z] at e
  rcases rd with q | ⟨o, q⟩ <;> (rw [q] at e; cases e)
theorem Lk1.fresh (l : Lk1 H a kvs od H1) {b : Addr} (e : H1 b = none) : H b = none := by
  cases z : H b with
  | none => rfl
  | some o =>
    by_cases hb : b = a
    · rw [hb, l.at_] at e
      cases e
    · rw [l.keep b o z hb] at e
      cases e
theorem Lk1.upd (l : Lk1 H a kvs od H1) (rd : Rd H a (.dK kvs)) {q : Addr} {o : HO} (e : H q = none) : Lk1 H a kvs od (L2.upd H1 q o) := ⟨fun b u eb n => by
  rw [upd_ne (ne_of_none eb e)]
  exact l.keep b u eb n, by rw [upd_ne (l.ne rd e).symm]; exact l.at_⟩
theorem Lk1.rs (l : Lk1 H a kvs od H1) (rd : Rd H a (.dK kvs)) : RS H H1 := fun b u n h => by
  by_cases e : b = a
  · subst e
    rcases rd with z | ⟨o, z⟩
    · rcases h with h | ⟨o', h⟩
      · rw [z] at h
        cases h
        exact .inr ⟨od, l.at_⟩
      · rw [z] at h
        cases h
    · rcases h with h | ⟨o', h⟩
      · rw [z] at h
        cases h
        exact absurd rfl (n _ _)
      · rw [z] at h
        cases h
        exact .inr ⟨od, l.at_⟩
  · rcases h with h | ⟨o', h⟩
    · exact .inl (l.keep _ _ h e)
    · exact .inr ⟨o', l.keep _ _ h e⟩
theorem Lk1.out {Hz : Hp} (l : Lk1 H a kvs od H1) (k : Lkd Hz Hl a kvs od un) (s : Same H Hz) : Same H (un H1) := fun b o e => by
  by_cases h : b = a
  · subst h
    rw [k.back _ l.at_]
    exact s _ _ e
  · rw [k.un _ _ h]
    exact l.keep b o e h
end
end
section
variable {K : PySem.W.Frag} {σ : L2.St} {H : Hp} {D : Ends}
theorem for_keysS {d : Addr} {o : Obj} {kvs : List (Key × V)} {tb : TS} {j : Nat} (Pv : Nat → L2.St → Hp → Prop) (h0 : Pv 0 σ H) (hx : ∀ i σ H, i ≤ kvs.length → Pv i σ H → H d = some (.frz o (.dK kvs)))
    (hs : ∀ i k v σ H, kvs[i]? = some (k, v) → Pv i σ H → tb { D with nx := Pv (i + 1), ct := Pv (i + 1), bk := D.nx } (σ.set j (some (kV k))) H) (hd : ∀ σ H, Pv kvs.length σ H → D.nx σ H) : forB (Itk d o kvs) (gName j) tb D σ H :=
  for_any walk_keys Pv h0 hx (fun i x σ H H' _ p y => by
    obtain ⟨e, k, v, y, z⟩ := y
    subst e
    rw [z]
    exact hs i k v σ _ y p) hd
end
end TU

set_option Elab.async false
set_option linter.all false
set_option maxRecDepth 100000
namespace TU
open PySem PySem.Spec PyProof.Rows L2
section
variable {K : PySem.W.Frag} {H H' : Hp} {N P : Addr → Prop} {Q : VK} {a : Addr}
theorem q_dpop1 {td ty : TE} {σ : L2.St} (h : td σ H fun x H1 => ∃ a, x = .ref a ∧ IsD H1 a ∧ ty σ H1 fun y H2 => ∃ kvs k v, H2 a = some (.dK kvs) ∧ y = kV k ∧ valV kvs k = some v ∧ Q v (upd H2 a (.dK (dropK kvs k)))) : tDPop1 td ty σ H Q := h
theorem q_isiD {kvs : List (Key × V)} (h : Rd H a (.dK kvs)) (q : Q (.bl true) H) : rIsi K [.ref a, .ty "dict"] H Q := by
  refine ⟨.ref a, .ty "dict", .type "dict", .type "dict", true, rfl, .ty _, ?_, kit_ty (by decide +kernel), q⟩
  rcases h with e | ⟨o, e⟩
  · exact .base (.dK e)
  · exact .fDict e
theorem q_isiT {xs : List V} (h : SqT K H a xs) (q : Q (.bl true) H) : rIsi K [.ref a, .ty "tuple"] H Q := by
  refine ⟨.ref a, .ty "tuple", .type "tuple", .type "tuple", true, rfl, .ty _, ?_, kit_ty (by decide +kernel), q⟩
  rcases h with (e | ⟨o, e⟩) | ⟨o, its, n, e, c, _⟩
  · exact .base (.tup e)
  · exact .fTuple e
  · exact .kTuple e c
theorem q_isiL {xs : List V} (h : SqL K H a xs) (q : Q (.bl true) H) : rIsi K [.ref a, .ty "list"] H Q := by
  refine ⟨.ref a, .ty "list", .type "list", .type "list", true, rfl, .ty _, ?_, kit_ty (by decide +kernel), q⟩
  rcases h with (e | ⟨o, e⟩) | ⟨o, its, n, e, c, _⟩
  · exact .base (.lst e)
  · exact .base (.frz e)
  · exact .kList e c
theorem Ts.strs : ∀ (ss : List Str), Ts K H P (ss.map V.str) (ss.map Tr.str)
  | [] => .nil
  | s :: ss => .cons (.str s) (Ts.strs ss)
theorem nods_strs : ∀ (ss : List Str), nods (ss.map Tr.str) = true
  | [] => rfl
  | s :: ss => by
    rw [List.map_cons, nods, nods_strs ss]
    rfl
theorem deps_strs : ∀ (ss : List Str), deps (ss.map Tr.str) = 0
  | [] => rfl
  | s :: ss => by
    rw [List.map_cons, deps, deps_strs ss]
    rfl
theorem keysV {kvs : List (Key × V)} {ss : List Str} (e : kvs.map (·.1) = ss.map Sum.inr) : kvs.map (fun kv => kV kv.1) = ss.map V.str := by
  have : kvs.map (fun kv => kV kv.1) = (kvs.map (·.1)).map kV := by rw [List.map_map] <;> rfl
  rw [this, e, List.map_map]
  rfl
theorem q_neStrs {p q : Addr} {ss : List Str} (hp : SqL K H p (ss.map V.str)) (hq : SqL K H q (ss.map V.str)) (k : Q (.bl false) H) : rNeU K (.ref p) (.ref q) H Q := by
  have hn : nod (.lst (ss.map Tr.str)) = true := by
    rw [nod]
    exact nods_strs ss
  refine q_neT (P := fun _ => True) (.lst trivial hp (.strs ss)) (.lst trivial hq (.strs ss)) hn hn (by rw [dep, deps_strs]; decide) ?_
  rw [eqb_refl hn]
  exact k
theorem getD_mem : ∀ {ks : List (Key × Tr)} {p : Key × Tr}, (ks.map (·.1)).Nodup → p ∈ ks → getD ks p.1 = some p.2
  | [], _, _, h => nomatch h
  | x :: ks, p, nd, h => by
    have nd' := List.nodup_cons.mp nd
    rw [getD_cons]
    rcases List.mem_cons.mp h with e | h
    · rw [e, if_pos rfl]
    · have : ¬ x.1 = p.1 := fun z => nd'.1 (List.mem_map.mpr ⟨p, h, z.symm⟩)
      rw [if_neg this]
      exact getD_mem nd'.2 h
theorem eqk_refl {ks : List (Key × Tr)} (nd : (ks.map (·.1)).Nodup) (h : ∀ p ∈ ks, nod p.2 = true) : eqk ks ks = true := by
  unfold eqk
  rw [Bool.and_eq_true]
  refine ⟨by simp, List.all_eq_true.mpr fun p hp => ?_⟩
  rw [getD_mem nd hp]
  exact eqb_refl (h p hp)
theorem nd_tK {t : Tab} (nd : (nms t).Nodup) : ((tK t).map (·.1)).Nodup := by
  rw [keys_tK]
  exact List.Pairwise.map Sum.inr (fun a b h e => h (Sum.inr.inj e)) nd
theorem mem_tK {t : Tab} {p : Key × Tr} (h : p ∈ tK t) : ∃ q ∈ t, p.2 = q.2 := by
  obtain ⟨q, hq, e⟩ := List.mem_map.mp h
  exact ⟨q, hq, by rw [← e]⟩
theorem q_neTab {p q : Addr} {es fs : List (Key × V)} {t : Tab} {N1 N2 : Addr → Prop} (hp : Rd H p (.dK es)) (hq : Rd H q (.dK fs)) (t1 : Tk K H N1 es (tK t)) (t2 : Tk K H N2 fs (tK t)) (nd : (nms t).Nodup) (he : ∀ x ∈ t, nod x.2 = true ∧ dep x.2 ≤ 60) (k : Q (.bl false) H) : rNeU K (.ref p) (.ref q) H Q := by
  have h1 : ∀ x ∈ tK t, nod x.2 = true ∧ dep x.2 ≤ 60 := fun x hx => by
    obtain ⟨y, hy, e⟩ := mem_tK hx
    rw [e]
    exact he y hy
  refine q_neK (P := fun _ => True) hp hq (t1.imp fun _ _ => trivial) (t2.imp fun _ _ => trivial) h1 (fun x hx => (h1 x hx).1) ?_
  rw [eqk_refl (nd_tK nd) fun x hx => (h1 x hx).1]
  exact k
end
/-! ### entries that may be compared and shown; houses of such -/
def Sml (h : Hs) : Prop := ∀ p ∈ h, ∀ x ∈ p.2, dep x.2 ≤ 60
theorem Wf.ent {h : Hs} (w : Wf h) (s : Sml h) {p : Str × Tab} (hp : p ∈ h) : ∀ x ∈ p.2, nod x.2 = true ∧ dep x.2 ≤ 60 := fun x hx => ⟨nod_of_imm ((w.tab p hp).2 x hx), s p hp x hx⟩
def AscH (h : Hs) : Prop := ∀ p ∈ h, Asc (nms p.2)
theorem AscH.cp (h : Hs) : AscH (cpH h) := fun p hp => by
  obtain ⟨q, hq, rfl⟩ := List.mem_map.mp hp
  show Asc (nms (ord q.2))
  rw [nms_ord]
  exact srt_asc _
theorem cp_cp {h : Hs} (w : Wf h) : cpH (cpH h) = cpH h := by
  unfold cpH
  rw [List.map_map]
  refine List.map_congr_left fun p hp => ?_
  show (p.1, ord (ord p.2)) = (p.1, ord p.2)
  rw [ord_ord (w.tab p hp).1]
theorem ord_of_asc {t : Tab} (nd : (nms t).Nodup) (h : Asc (nms t)) : ord t = t := ext_lk (nd_ord nd) (by rw [nms_ord, srt_of_asc h]) fun x => lk_ord t x
end TU

set_option Elab.async false
set_option linter.all false
set_option maxRecDepth 100000
namespace TU
open PySem PySem.Spec PyProof.Rows L2
section
variable {K : PySem.W.Frag} {H H' : Hp} {N P : Addr → Prop} {Q : VK} {a : Addr}
theorem sq_ne {p q : Addr} {xs : List V} {o o' : HO} (h : H p = some (.lst xs)) (e : H q = some o) (n : o ≠ .lst xs) : (upd H q o') p = some (.lst xs) := by
  rw [upd_ne (ne_of h e (Ne.symm n))]
  exact h
theorem cutV_take {ss : List Str} {n : Nat} (h : n ≤ ss.length) : cutV (ss.map V.str) none (some (n : Int)) = (ss.take n).map V.str := by
  unfold cutV
  have e1 : HT.sIx (ss.map V.str).length 0 none = 0 := rfl
  have e2 : HT.sIx (ss.map V.str).length (ss.map V.str).length (some (n : Int)) = n := by
    unfold HT.sIx
    rw [List.length_map]
    have hn : ¬ (n : Int) < 0 := by omega
    simp [hn]
    omega
  rw [e1, e2, List.drop_zero, Nat.sub_zero, List.map_take]
/-- a place below 3, 5: which -/
theorem three {v : Int} (h0 : 0 ≤ v) (h1 : v < 3) : v = 0 ∨ v = 1 ∨ v = 2 := by omega
theorem atS {ss : List Str} {v : Int} (h0 : 0 ≤ v) (h1 : v < ss.length) : ∃ n ∈ ss, atI (ss.map V.str) v = some (.str n) := by
  obtain ⟨k, rfl⟩ : ∃ k : Nat, v = k := ⟨v.toNat, by omega⟩
  have hk : k < ss.length := by omega
  exact ⟨ss[k], List.getElem_mem hk, atI_nat (by rw [List.getElem?_map, List.getElem?_eq_getElem hk]; rfl)⟩
theorem Own.key {r : Addr} {h : Hs} (o : Own K N H r h) : ∃ kvs, H r = some (.dK kvs) ∧ kvs.map (·.1) = (nms h).map Sum.inr := by
  obtain ⟨qs, kvs, h1, h2, h3, h4⟩ := o.ex
  exact ⟨kvs, h1, h2.keys⟩
theorem Own.nr {r : Addr} {h : Hs} (o : Own K N H r h) : N r := by
  obtain ⟨qs, kvs, h1, h2, h3, h4⟩ := o.ex
  exact h4 r List.mem_cons_self
end
theorem Rnd.ja {H : Hp} {j a r : Addr} {p : Int} (R : Rnd H j a p) (e : H r = none) : r ≠ j ∧ r ≠ a := by
  obtain ⟨ns, h1, _⟩ := R.ex
  exact ⟨(ne_of_none h1 e).symm, (ne_of_none R.at_ e).symm⟩
theorem Kp.fresh {H H' : Hp} {a r : Addr} {o : HO} (k : Kp a H H') (ea : H' a = some o) (e : H' r = none) : H r = none := by
  cases z : H r with
  | none => rfl
  | some u =>
    by_cases h : r = a
    · rw [h, ea] at e
      cases e
    · rw [k r u h z] at e
      cases e
end TU

set_option Elab.async false
set_option linter.all false
set_option maxRecDepth 100000
namespace TU
open PySem PySem.Spec PyProof.Rows L2
theorem atI_last {xs : List V} {u : V} : atI (xs ++ [u]) (((xs ++ [u]).length : Int) - 1) = some u := by
  have e : (((xs ++ [u]).length : Int) - 1) = (xs.length : Nat) := by
    rw [List.length_append]
    show ((xs.length + 1 : Nat) : Int) - 1 = _
    omega
  rw [e]
  exact atI_nat (List.getElem?_concat_length ..)
/-- a test of two halves, its end written once -/
theorem q_two {σ : L2.St} {H : Hp} {p : Prop} [Decidable p] {c : TT} {R : Bool → Hp → Prop} {PP : Bool → Prop} (hR : ∀ b, PP b → R b H) (h1 : p → ∃ b, PP b ∧ (R b H → c σ H R)) (h2 : ¬ p → PP false) : if decide p = true then c σ H R else R false H := by
  by_cases h : p
  · obtain ⟨b, x, y⟩ := h1 h
    rw [decide_eq_true h]
    exact q_t (y (hR b x))
  · rw [decide_eq_false h]
    exact q_f (hR false (h2 h))
theorem lk_cp : ∀ (h : Hs) (x : Str), lk (cpH h) x = (lk h x).map ord
  | [], x => rfl
  | p :: r, x => by
    show lk ((p.1, ord p.2) :: cpH r) x = _
    rw [lk_cons, lk_cons, lk_cp r x]
    by_cases e : p.1 = x
    · rw [if_pos e, if_pos e]
      rfl
    · rw [if_neg e, if_neg e]
theorem cp_eq {g g' : Hs} (nd : (nms g).Nodup) (hn : nms g = nms g') (he : ∀ x, (lk g x).map ord = (lk g' x).map ord) : cpH g = cpH g' :=
  ext_lk (by rw [nms_cp]; exact nd) (by rw [nms_cp, nms_cp]; exact hn) fun x => by rw [lk_cp, lk_cp]; exact he x
theorem cp_lk {g g' : Hs} (h : cpH g = cpH g') {k : Str} {t : Tab} (e : lk g k = some t) : ∃ t', lk g' k = some t' ∧ ord t = ord t' := by
  have := lk_cp g' k
  rw [← h, lk_cp g k, e] at this
  cases q : lk g' k with
  | none =>
    rw [q] at this
    cases this
  | some t' =>
    rw [q] at this
    exact ⟨t', rfl, Option.some.inj this⟩
theorem cp_no {g g' : Hs} (h : cpH g = cpH g') {k : Str} (e : lk g k = none) : lk g' k = none := by
  cases q : lk g' k with
  | none => rfl
  | some t' =>
    obtain ⟨t, e2, _⟩ := cp_lk h.symm q
    rw [e] at e2
    cases e2
theorem cp_nms {g g' : Hs} (h : cpH g = cpH g') : nms g = nms g' := by rw [← nms_cp g, h, nms_cp]
theorem ord_lk {t t' : Tab} (h : ord t = ord t') (x : Str) : lk t x = lk t' x := by rw [← lk_ord t, h, lk_ord]
theorem lk_mem_nms {β : Type} {l : List (Str × β)} {n : Str} (h : n ∈ nms l) : ∃ d, lk l n = some d := by
  cases e : lk l n with
  | none => exact absurd h (lk_none.mp e)
  | some d => exact ⟨d, rfl⟩
theorem mem_of_ord {t t' : Tab} (h : ord t = ord t') {n : Str} (m : n ∈ nms t) : n ∈ nms t' := by
  obtain ⟨d, e⟩ := lk_mem_nms m
  rw [ord_lk h] at e
  exact mem_nms (lk_mem e)
theorem cp_put {g g' : Hs} (w : Wf g) (h : cpH g = cpH g') {k : Str} {t t' u u' : Tab} (e : lk g k = some t) (e' : lk g' k = some t') (hu : ord u = ord u') : cpH (put g k u) = cpH (put g' k u') := by
  have m : k ∈ nms g := mem_nms (lk_mem e)
  have m' : k ∈ nms g' := mem_nms (lk_mem e')
  refine cp_eq (by rw [nms_put_of m]; exact w.nd) (by rw [nms_put_of m, nms_put_of m', cp_nms h]) fun x => ?_
  rw [lk_put, lk_put]
  by_cases c : x = k
  · rw [if_pos c, if_pos c]
    exact congrArg some hu
  · rw [if_neg c, if_neg c, ← lk_cp, ← lk_cp, h]
theorem app1_cp {g g' h : Hs} {e : Ed} (w : Wf g) (w' : Wf g') (hc : cpH g = cpH g') (ha : app1 g e = .ok h) : ∃ h', app1 g' e = .ok h' ∧ cpH h = cpH h' := by
  cases q : lk g e.key with
  | none =>
    simp only [app1, q] at ha
    cases ha
  | some t =>
    obtain ⟨t', q', ho⟩ := cp_lk hc q
    have wt := w.tab _ (lk_mem q)
    have wt' := w'.tab _ (lk_mem q')
    cases e with
    | put k n x =>
      simp only [app1, q] at ha
      cases ha
      refine ⟨put g' k (put t' n x), by simp only [app1, q'], cp_put w hc q q' (ord_perm (nd_put wt.1 _ _) (nd_put wt'.1 _ _) fun y => ?_)⟩
      rw [lk_put, lk_put, ord_lk ho]
    | drop k n =>
      by_cases hn : n ∈ nms t
      · simp only [app1, q, if_pos hn] at ha
        cases ha
        refine ⟨put g' k (del t' n), by simp only [app1, q', if_pos (mem_of_ord ho hn)], cp_put w hc q q' (ord_perm (nd_del wt.1 _) (nd_del wt'.1 _) fun y => ?_)⟩
        rw [lk_del wt.1, lk_del wt'.1, ord_lk ho]
      · simp only [app1, q, if_neg hn] at ha
        cases ha
theorem app1_err {g : Hs} {e : Ed} {x : Str × Str} (w : Wf g) (ha : app1 g e = .error x) : app1 (cpH g) e = .error x := by
  cases q : app1 (cpH g) e with
  | ok h =>
    obtain ⟨h', q2, _⟩ := app1_cp w.cp w (cp_cp w) q
    rw [ha] at q2
    cases q2
  | error y =>
    cases e1 : lk g e.key with
    | none =>
      simp only [app1, lk_cp, e1, Option.map] at ha q
      rw [← ha, ← q]
    | some t =>
      cases e with
      | put k n d =>
        simp only [app1, e1] at ha
        cases ha
      | drop k n =>
        simp only [app1, e1] at ha
        simp only [app1, lk_cp, e1, Option.map] at q
        split at ha
        · cases ha
        · split at q
          · cases q
          · rw [← ha, ← q]
theorem inv1_cp {g g' : Hs} {e : Ed} (hc : cpH g = cpH g') : inv1 g e = inv1 g' e := by
  cases q : lk g e.key with
  | none => simp only [inv1, q, cp_no hc q]
  | some t =>
    obtain ⟨t', q', ho⟩ := cp_lk hc q
    simp only [inv1, q, q', ord_lk ho]
theorem app1_wf {h h' : Hs} {e : Ed} (w : Wf h) (im : e.Imm) (ha : app1 h e = .ok h') : Wf h' ∧ nms h' = nms h := by
  have f : ∃ n, Fits n h := by
    clear w im ha h' e
    induction h with
    | nil => exact ⟨0, fun p hp => nomatch hp⟩
    | cons p r ih =>
      obtain ⟨n, f⟩ := ih
      refine ⟨max n p.2.length, fun q hq => ?_⟩
      rcases List.mem_cons.mp hq with e | m
      · rw [e]
        exact Nat.le_max_right _ _
      · exact Nat.le_trans (f q m) (Nat.le_max_left _ _)
  obtain ⟨n, f⟩ := f
  obtain ⟨a, _, b⟩ := app1_ok w im f ha
  exact ⟨a, b⟩
/-- one edit and what leads back from it -/
theorem undo1 {g h : Hs} {e : Ed} (w : Wf g) (ha : app1 g e = .ok h) : ∃ r, app1 h (inv1 g e) = .ok r ∧ cpH r = cpH g := by
  cases q : lk g e.key with
  | none =>
    simp only [app1, q] at ha
    cases ha
  | some t =>
    have wt := w.tab _ (lk_mem q)
    have m : e.key ∈ nms g := mem_nms (lk_mem q)
    obtain ⟨t1, rfl, nd1, ht1⟩ : ∃ t1, h = put g e.key t1 ∧ (nms t1).Nodup ∧ ∀ x, x ≠ e.name → lk t1 x = lk t x := by
      cases e with
      | put k n x =>
        simp only [app1, q] at ha
        cases ha
        exact ⟨_, rfl, nd_put wt.1 _ _, fun y hy => by rw [lk_put]; exact if_neg hy⟩
      | drop k n =>
        by_cases hn : n ∈ nms t
        · simp only [app1, q, if_pos hn] at ha
          cases ha
          exact ⟨_, rfl, nd_del wt.1 _, fun y hy => by rw [lk_del wt.1]; exact if_neg hy⟩
        · simp only [app1, q, if_neg hn] at ha
          cases ha
    have lh : lk (put g e.key t1) e.key = some t1 := by rw [lk_put, if_pos rfl]
    have key : ∀ u, ord u = ord t → cpH (put (put g e.key t1) e.key u) = cpH g := fun u hu => by
      have m2 : e.key ∈ nms (put g e.key t1) := mem_nms (lk_mem lh)
      refine cp_eq (by rw [nms_put_of m2, nms_put_of m]; exact w.nd) (by rw [nms_put_of m2, nms_put_of m]) fun x => ?_
      rw [lk_put, lk_put]
      by_cases c : x = e.key
      · rw [if_pos c, c, q]
        exact congrArg some hu
      · rw [if_neg c, if_neg c]
    cases q2 : lk t e.name with
    | some d =>
      have hi : inv1 g e = .put e.key e.name d := by simp only [inv1, q, q2]
      refine ⟨_, ?_, key (put t1 e.name d) (ord_perm (nd_put nd1 _ _) wt.1 fun x => ?_)⟩
      · rw [hi]
        unfold app1
        rw [show (Ed.put e.key e.name d).key = e.key from rfl, lh]
      · rw [lk_put]
        by_cases c : x = e.name
        · rw [if_pos c, c, q2]
        · rw [if_neg c, ht1 x c]
    | none =>
      have hi : inv1 g e = .drop e.key e.name := by simp only [inv1, q, q2]
      have hin : e.name ∈ nms t1 := by
        cases e with
        | put k n x =>
          simp only [app1, q] at ha
          have e1 : put g k (put t n x) = put g k t1 := Except.ok.inj ha
          have e2 : lk (put g k (put t n x)) k = lk (put g k t1) k := by rw [e1]
          rw [lk_put, lk_put, if_pos rfl, if_pos rfl] at e2
          rw [← Option.some.inj e2]
          exact mem_nms (lk_mem (v := x) (by rw [lk_put]; exact if_pos rfl))
        | drop k n =>
          have hn : n ∉ nms t := lk_none.mp q2
          simp only [app1, q, if_neg hn] at ha
          cases ha
      refine ⟨_, ?_, key (del t1 e.name) (ord_perm (nd_del nd1 _) wt.1 fun x => ?_)⟩
      · rw [hi]
        unfold app1
        rw [show (Ed.drop e.key e.name).key = e.key from rfl, lh]
        exact if_pos hin
      · rw [lk_del nd1]
        by_cases c : x = e.name
        · rw [if_pos c, c, q2]
        · rw [if_neg c, ht1 x c]
theorem appAll_cp : ∀ {es : List Ed} {g g' h : Hs}, (∀ e ∈ es, e.Imm) → Wf g → Wf g' → cpH g = cpH g' → appAll g es = .ok h → ∃ h', appAll g' es = .ok h' ∧ cpH h = cpH h'
  | [], g, g', h, im, w, w', hc, ha => by
    cases ha
    exact ⟨g', rfl, hc⟩
  | e :: es, g, g', h, im, w, w', hc, ha => by
    rw [appAll_cons] at ha
    cases q : app1 g e with
    | error x =>
      rw [q] at ha
      cases ha
    | ok g1 =>
      rw [q] at ha
      obtain ⟨g2, q2, hc2⟩ := app1_cp w w' hc q
      have im1 := im e List.mem_cons_self
      obtain ⟨h', a, b⟩ := appAll_cp (fun x hx => im x (List.mem_cons_of_mem _ hx)) (app1_wf w im1 q).1 (app1_wf w' im1 q2).1 hc2 ha
      exact ⟨h', by rw [appAll_cons, q2]; exact a, b⟩
theorem appAll_wf : ∀ {es : List Ed} {g h : Hs}, (∀ e ∈ es, e.Imm) → Wf g → appAll g es = .ok h → Wf h ∧ nms h = nms g
  | [], g, h, im, w, ha => by
    cases ha
    exact ⟨w, rfl⟩
  | e :: es, g, h, im, w, ha => by
    rw [appAll_cons] at ha
    cases q : app1 g e with
    | error x =>
      rw [q] at ha
      cases ha
    | ok g1 =>
      rw [q] at ha
      obtain ⟨w1, n1⟩ := app1_wf w (im e List.mem_cons_self) q
      obtain ⟨w2, n2⟩ := appAll_wf (fun x hx => im x (List.mem_cons_of_mem _ hx)) w1 ha
      exact ⟨w2, n2.trans n1⟩
theorem invs_imm : ∀ {es : List Ed} {g : Hs}, (∀ e ∈ es, e.Imm) → Wf g → ∀ e ∈ invs g es, e.Imm
  | [], g, im, w, e, he => nomatch he
  | e :: es, g, im, w, x, hx => by
    unfold invs at hx
    rcases List.mem_cons.mp hx with rfl | hx
    · exact inv1_imm w e
    · cases q : app1 g e with
      | error z =>
        rw [q] at hx
        cases hx
      | ok g1 =>
        rw [q] at hx
        exact invs_imm (fun x hx => im x (List.mem_cons_of_mem _ hx)) (app1_wf w (im e List.mem_cons_self) q).1 x hx
theorem invs_cp : ∀ {es : List Ed} {g g' h : Hs}, (∀ e ∈ es, e.Imm) → Wf g → Wf g' → cpH g = cpH g' → appAll g es = .ok h → invs g es = invs g' es
  | [], g, g', h, im, w, w', hc, ha => rfl
  | e :: es, g, g', h, im, w, w', hc, ha => by
    rw [appAll_cons] at ha
    cases q : app1 g e with
    | error x =>
      rw [q] at ha
      cases ha
    | ok g1 =>
      rw [q] at ha
      obtain ⟨g2, q2, hc2⟩ := app1_cp w w' hc q
      have im1 := im e List.mem_cons_self
      have := invs_cp (fun x hx => im x (List.mem_cons_of_mem _ hx)) (app1_wf w im1 q).1 (app1_wf w' im1 q2).1 hc2 ha
      unfold invs
      rw [q, q2, inv1_cp hc]
      exact congrArg _ this
/-- all the edits, and all that lead back -/
theorem undoAll : ∀ {es : List Ed} {g h : Hs}, (∀ e ∈ es, e.Imm) → Wf g → appAll g es = .ok h → ∃ r, appAll h (invs g es).reverse = .ok r ∧ cpH r = cpH g
  | [], g, h, im, w, ha => by
    cases ha
    exact ⟨g, rfl, rfl⟩
  | e :: es, g, h, im, w, ha => by
    rw [appAll_cons] at ha
    cases q : app1 g e with
    | error x =>
      rw [q] at ha
      cases ha
    | ok g1 =>
      rw [q] at ha
      have im1 := im e List.mem_cons_self
      have ims : ∀ x ∈ es, x.Imm := fun x hx => im x (List.mem_cons_of_mem _ hx)
      have w1 := (app1_wf w im1 q).1
      obtain ⟨r1, a1, b1⟩ := undoAll ims w1 ha
      obtain ⟨r2, a2, b2⟩ := undo1 w q
      have wh := (appAll_wf ims w1 ha).1
      have wr1 : Wf r1 := (appAll_wf (fun x hx => invs_imm ims w1 x (List.mem_reverse.mp hx)) wh a1).1
      obtain ⟨r3, a3, b3⟩ := app1_cp w1 wr1 b1.symm a2
      refine ⟨r3, ?_, b3.symm.trans b2⟩
      have hi : invs g (e :: es) = inv1 g e :: invs g1 es := by
        conv => lhs; unfold invs
        rw [q]
      rw [hi, List.reverse_cons, appAll_append, a1]
      exact (appAll_one r1 _).trans a3
end TU

set_option Elab.async false
set_option linter.all false
set_option maxRecDepth 100000
namespace TU
open PySem PySem.Spec PyProof.Rows L2
/-- except Unknown as error: return (error.what, error.name) -/
theorem catchU {K : PySem.W.Frag} {C : Addr} {w n : Str} {i : Nat} {Wout : WX} {D : Ends} {σ : L2.St} {H1 : Hp} (te : PySem.W.exmOne K (.ref C) (.ref C) = some true) (hi : i < σ.length) (h : ∀ p H', Same H1 H' → H' p = some (.tup [.str w, .str n]) → D.rt (.ref p) H') :
    XUnk C w n H1 (WE (wAs K (.ref C) i (fun a cls d => tRet (tTup (tCons (tXf a cls d C "what" (tVar i)) (tCons (tXf a cls d C "name" (tVar i)) tNil)))) Wout D) σ) := by
  intro d H' s e
  refine ⟨true, te, fun _ a ha => ?_, fun z => by cases z⟩
  have hv : (σ.set i (some (V.ref a)))[i]? = some (some (V.ref a)) := by
    rw [List.getElem?_set_self hi]
  refine q_ret (q_tup (q_cons ?_))
  refine ⟨_, hv, rfl, rfl, d, _, .str w, rfl, e, rfl, ?_⟩
  refine q_cons ⟨_, hv, rfl, rfl, d, _, .str n, rfl, e, rfl, ?_⟩
  refine q_nil (q_size (show 2 ≤ 1000 by decide) fun p hp => ?_)
  exact h p _ (s.trans (same_new hp)) upd_same
theorem last_of {K : PySem.W.Frag} {H : Hp} {N : Addr → Prop} {xs : List V} {es : List Ed} (t : Ts K H N xs (es.map Ed.tr)) (h : 1 ≤ es.length) : ∃ u e, atI xs ((xs.length : Int) - 1) = some u ∧ es.getLast? = some e ∧ T K H N u e.tr := by
  have hl : xs.length = es.length := by rw [t.length, List.length_map]
  have hk : xs.length - 1 < xs.length := by omega
  have hu := List.getElem?_eq_getElem hk
  obtain ⟨d, g1, g2⟩ := t.gets hu
  obtain ⟨e, he, rfl⟩ := map_at g1
  refine ⟨_, e, ?_, ?_, g2⟩
  · have e1 : ((xs.length : Int) - 1) = (xs.length - 1 : Nat) := by omega
    rw [e1]
    exact atI_nat hu
  · rw [List.getLast?_eq_getElem?, ← hl]
    exact he
/-- the error that one call raises, as a pair; ("", "") where none -/
def refOf (h : Hs) (es : List Ed) (how : Int) : Str × Str :=
  if how = 0 ∨ how = 1 then (match appAll (cpH h) es with | .ok _ => ("", "") | .error x => x)
  else if how = 2 ∨ how = 3 then (match es.getLast? with | none => ("", "") | some e => (match app1 (cpH h) e with | .ok _ => ("", "") | .error x => x))
  else (if (lk h "x9").isSome = true then ("", "") else ("table", "x9"))

theorem q_neP {K : PySem.W.Frag} {H : Hp} {Q : VK} {p q : Addr} {a b : Str} (hp : SqT K H p [.str a, .str b]) (hq : SqT K H q [.str a, .str b]) (k : Q (.bl false) H) : rNeU K (.ref p) (.ref q) H Q := by
  refine q_neT (P := ff) (d := .tup [.str a, .str b]) (e := .tup [.str a, .str b]) (.tup hp (.cons (.str _) (.cons (.str _) .nil))) (.tup hq (.cons (.str _) (.cons (.str _) .nil))) rfl rfl (show (1 : Nat) ≤ 60 by decide) ?_
  rw [eqb_refl rfl]
  exact k
theorem q_eqP {K : PySem.W.Frag} {H : Hp} {Q : VK} {p q : Addr} {a b : Str} (hp : SqT K H p [.str a, .str b]) (hq : SqT K H q [.str a, .str b]) (k : Q (.bl true) H) : rEqU K (.ref p) (.ref q) H Q := by
  refine q_eqT (P := ff) (d := .tup [.str a, .str b]) (e := .tup [.str a, .str b]) (.tup hp (.cons (.str _) (.cons (.str _) .nil))) (.tup hq (.cons (.str _) (.cons (.str _) .nil))) rfl rfl (show (1 : Nat) ≤ 60 by decide) ?_
  rw [eqb_refl rfl]
  exact k
/-- all names are of a list -/
def Nam (L : List Str) (h : Hs) : Prop := ∀ q ∈ h, ∀ x ∈ q.2, x.1 ∈ L
theorem Nam.cp {L : List Str} {h : Hs} (n : Nam L h) : Nam L (cpH h) := fun q hq x hx => by
  obtain ⟨p, hp, rfl⟩ := List.mem_map.mp hq
  have m : x.1 ∈ nms (ord p.2) := mem_nms hx
  rw [nms_ord] at m
  obtain ⟨y, hy, e⟩ := List.mem_map.mp ((srt_perm _).mem_iff.mp m)
  rw [← e]
  exact n p hp y hy
theorem app1_nam {L : List Str} {h h' : Hs} {e : Ed} (n : Nam L h) (hn : e.name ∈ L) (ha : app1 h e = .ok h') : Nam L h' := by
  cases q : lk h e.key with
  | none =>
    simp only [app1, q] at ha
    cases ha
  | some t =>
    have hm := lk_mem q
    cases e with
    | put k m d =>
      simp only [app1, q] at ha
      cases ha
      intro p hp x hx
      rcases mem_put hp with c | c
      · exact n p c x hx
      · rw [c] at hx
        rcases mem_put hx with c2 | c2
        · exact n _ hm x c2
        · rw [c2]
          exact hn
    | drop k m =>
      by_cases hin : m ∈ nms t
      · simp only [app1, q, if_pos hin] at ha
        cases ha
        intro p hp x hx
        rcases mem_put hp with c | c
        · exact n p c x hx
        · rw [c] at hx
          exact n _ hm x (mem_del hx)
      · simp only [app1, q, if_neg hin] at ha
        cases ha
theorem appAll_nam {L : List Str} : ∀ {es : List Ed} {h h' : Hs}, Nam L h → (∀ e ∈ es, e.name ∈ L) → appAll h es = .ok h' → Nam L h'
  | [], h, h', n, hn, ha => by
    cases ha
    exact n
  | e :: es, h, h', n, hn, ha => by
    rw [appAll_cons] at ha
    cases q : app1 h e with
    | error x =>
      rw [q] at ha
      cases ha
    | ok h1 =>
      rw [q] at ha
      exact appAll_nam (app1_nam n (hn e List.mem_cons_self) q) (fun x hx => hn x (List.mem_cons_of_mem _ hx)) ha
theorem app1_tab {h : Hs} {e : Ed} (m : e.key ∉ nms h) : app1 h e = .error ("table", e.key) := by
  have q := lk_none.mpr m
  simp only [app1, q]
theorem app1_drop {L : List Str} {h : Hs} {k n : Str} (m : k ∈ nms h) (nm : Nam L h) (hn : n ∉ L) : app1 h (.drop k n) = .error (k, n) := by
  obtain ⟨t, q⟩ := lk_mem_nms m
  have c : n ∉ nms t := fun z => by
    obtain ⟨x, hx, e⟩ := List.mem_map.mp z
    rw [← e] at hn
    exact hn (nm _ (lk_mem q) x hx)
  unfold app1
  rw [show (Ed.drop k n).key = k from rfl, q]
  exact if_neg c
theorem ref_how {h f : Hs} {es : List Ed} {e : Ed} {x : Str × Str} {how : Nat} (ha : appAll (cpH h) es = .ok f) (hf : app1 f e = .error x) (hh : app1 (cpH h) e = .error x) (hw : how < 4) : refOf h (es ++ [e]) (0 + how) = x := by
  unfold refOf
  by_cases c : ((0 : Int) + how = 0 ∨ (0 : Int) + how = 1)
  · rw [if_pos c, appAll_append, ha]
    show (match appAll f [e] with | .ok _ => ("", "") | .error x => x) = x
    rw [appAll_one, hf]
  · rw [if_neg c, if_pos (by omega), List.getLast?_concat]
    simp only [hh]
end TU

set_option Elab.async false
set_option linter.all false
set_option maxRecDepth 100000
namespace TU
open PySem PySem.Spec PyProof.Rows L2
/-! ### the outermost call: there no repr runs, so that its guards are known -/
def TopOk (P : Program) (w : World) (K : PySem.W.Frag) (mg : Str → Option Value) (base : Heap) (fa : Addr) (sp : Sp) : Prop := ∀ (z : Shared) (G : Hp) (a : Addr) (Q : VK) (E : XK), Env0 P w K mg base callerA [] z G → sp [.ref a] G Q E →
  codeAny (model P w) callerA (.call (.ref fa) ⟨[.ref a], []⟩) (CR (L2.CX P w) [] P w G z Q E) z
theorem top_ok {P : Program} {w : World} {K : PySem.W.Frag} {mg : Str → Option Value} {base : Heap} {x y : Str} {st : Stmt} {N : List Str} {k : Nat} {sp : Sp} (F : TopF K mg x st [y]) (S : FnScope N [y] (defScope st)) (hr : Room (k + 1) callerA)
    (hbody : ∀ (f : Addr) (cdv : Value) (A : Around) (s : Shared) (H : Hp) (vs : List V) (Q : VK) (E : XK), A.guards = some [] → Room k (A.deeper (envOfC x (defScope st) s.heap.objs.size f cdv)) → sp vs H Q E →
      ∃ t, PSs (cxOf (L2.CX P w) P w K mg base N x (defScope st) f cdv A [] s H E) (defBody st) t ∧ t { nx := fun _ H' => Q .non H', rt := Q } (L2.start N vs) H) : ∃ fa, mg x = some (.ref fa) ∧ TopOk P w K mg base fa sp := by
  obtain ⟨f, fd, F0, hm, hb⟩ := F.ex
  obtain ⟨oc, od, kV, doc, pm, an, cdv, ct, osl, rfl, lk, hcd⟩ := F0.ex
  refine ⟨f, hm, fun z G a Q E e0 h => ?_⟩
  have old := fun b o e => (e0.bs b o e).1
  have kin := e0.mod.kin.keeps old
  have fit : ∀ p ∈ [y].zip [Value.ref a], (defScope st).names.lookup p.1 = some .local ∨ ((defScope st).names.lookup p.1 = some .cell ∧ ((cellsFrom (z.heap.objs.size + 1) (defScope st).names []).lookup p.1).isSome = true) := by
    rintro ⟨n, v⟩ m
    exact (S.par n (List.of_mem_zip m).1).imp id fun q => ⟨q, PySem.W.cellsFrom_some _ _ _ (.inl q)⟩
  refine codeAny_call_function hr.depth (kin _ _ lk) rfl S.co S.gen rfl (PySem.W.codeRec_of kin hcd) ?_
  refine hb z [.ref a] kin rfl _ _ _ _ ?_
  refine wpAny_newFunctionEnv_cells S.kind fit fun env he z1 x1 => ?_
  subst he
  refine ⟨(e0.mod.nolimit.keeps old).keeps x1.toInCall.keep, codeAny_func ?_⟩
  obtain ⟨t, ht, hq⟩ := hbody f cdv callerA z G [.ref a] Q E rfl (hr.deeper _) h
  refine wpAny_mono (ht.run [] z1 (L2.start N [.ref a]) G _ (inv_start S hr.hd e0 rfl (.cons rfl .nil) x1) hq) (fun fl z2 hs => ?_) fun _ _ hs => hs
  cases fl with
  | ret u =>
    obtain ⟨v, _, G2, J, rv, q⟩ := hs
    exact ⟨v, G2, J.os, J.bare, J.base, J.hok, rv, q⟩
  | next =>
    obtain ⟨_, G2, J, q⟩ := hs
    exact ⟨.non, G2, J.os, J.bare, J.base, J.hok, rfl, q⟩
  | brk => exact hs.elim fun _ r => r.elim fun _ r => r.2.elim
  | cont => exact hs.elim fun _ r => r.elim fun _ r => r.2.elim
/-- a law's promise: True of a list of up to 63 numbers -/
def spLaw (K : PySem.W.Frag) : Sp := fun vs H Q _ => ∃ (a : Addr) (ns : List Int), vs = [.ref a] ∧ SqL K H a (ns.map V.int) ∧ ns.length ≤ 63 ∧ ∀ H', Q (.bl true) H'
theorem top_walk {l : PySem.W.OpenLaw} {q : Program} {loose : List Str} {XP : (Str → Option Value) → Heap → Prop} {YP : World → Heap → Prop} {d : DefRec} {K : Params → PySem.W.Frag} (hn : l.most = some 63) (hdf : d.params.defaults = [])
    (hY : ∀ (w : World) (h : Heap), YP w h → (K w.params).In h)
    (F : ∀ (w : World) (mg : Str → Option Value) (fa : Addr) (h : Heap), (K w.params).In h → h.Ns mainGlobals mg → mg d.name = some (.ref fa) →
      ∀ base : Heap, (K w.params).In base → base.Ns mainGlobals mg → TopOk l.prog w (K w.params) mg base fa (spLaw (K w.params))) :
    PySem.W.WalkO q loose XP YP l.row.toRowW d [] (fun f vs => PySem.call f vs) := by
  refine Att.attach_call hn hdf fun w z0 z mg mb fa o pm cd doc a vs ns G Y ho hd hcd hmg hobj hints hlen hg => ?_
  have kin := hY w _ Y
  have size : ns.length ≤ sizeLine := Nat.le_trans hlen (by decide)
  have rel := vals_ints hints
  have obj : ObjOk l.prog w (fun b => if b = a then some (HO.frz { cls := .type "list", data := .seq vs.toArray } (.lst (ns.map V.int))) else none) z.heap a (.frz { cls := .type "list", data := .seq vs.toArray } (.lst (ns.map V.int))) := ⟨hobj, by rw [List.length_map]; exact size, vs, _, rel, hobj⟩
  -- the tracked heap: the script alone, or nothing where the module knows it
  obtain ⟨T, t1, t2, t3, t4⟩ : ∃ T : Hp, SqL (K w.params) T a (ns.map V.int) ∧ HOk l.prog w T z.heap ∧ (∀ b u, T b = some u → b = a ∧ ∃ o xs, u = .frz o (.lst xs)) ∧ (T a ≠ none → (K w.params).lookup a = none) := by
    cases lk : (K w.params).lookup a with
    | none =>
      refine ⟨fun b => if b = a then some (HO.frz { cls := .type "list", data := .seq vs.toArray } (.lst (ns.map V.int))) else none, .inl (.inr ⟨{ cls := .type "list", data := .seq vs.toArray }, if_pos rfl⟩), fun b u e => ?_, fun b u e => ?_, fun _ => rfl⟩
      all_goals
        by_cases c : b = a
        · have e2 := (if_pos c).symm.trans e
          cases e2
          subst c
          first | exact obj | exact ⟨rfl, _, _, rfl⟩
        · have e2 := (if_neg c).symm.trans e
          cases e2
    | some u =>
      have e := kin a u lk
      rw [hobj] at e
      cases e
      exact ⟨fun _ => none, .inr ⟨_, vs.toArray, _, lk, rfl, rfl, rfl, by rw [List.size_toArray, hints.length]; exact size, by simpa using rel⟩, (fun _ _ e => nomatch e), (fun _ _ e => nomatch e), fun c => absurd rfl c⟩
  have dic : ∀ {b : Addr} {ob : Obj} {es : Array DictEntry} {n : Nat}, z.heap.get? b = some ob → ob.data = .dict es n → T b = none := fun {b ob es n} e1 e2 => by
    cases c : T b with
    | none => rfl
    | some u =>
      have e3 := (t3 b u c).1
      subst e3
      rw [hobj] at e1
      cases e1
      exact nomatch e2
  have ns1 : ∀ {b : Addr} {m : Str → Option Value}, z.heap.Ns b m → (hidT z.heap T).Ns b m := fun ⟨ob, es, n, e1, e2, r⟩ => ⟨ob, es, n, hidT_get e1 (dic e1 e2), e2, r⟩
  have kin1 : (K w.params).In (hidT z.heap T) := fun b ob e => hidT_get (kin b ob e) (by
    cases c : T b with
    | none => rfl
    | some u =>
      have e3 := (t3 b u c).1
      subst e3
      rw [t4 (by rw [c]; exact fun z => nomatch z)] at e
      cases e)
  have env : Env0 l.prog w (K w.params) mg (hidT z.heap T) callerA [] z T := by
    refine ⟨rfl, ⟨kin1, ns1 G.T.g, ⟨mb, ns1 G.T.b, G.T.builtins⟩, ?_⟩, fun b ob e => of_hidT e, Nat.le_of_eq (hidT_size _ _), trivial, (fun b m => nomatch (show b ∈ ([] : List Addr) from m)), t2, .of_eq hg⟩
    obtain ⟨mc, h1, h2⟩ := G.T.nolimit
    exact ⟨mc, ns1 h1, h2⟩
  refine codeAny_mono (F w mg fa _ kin G.T.g hmg _ kin1 (ns1 G.T.g) z T a (fun v _ => v = .bl true) (fun _ _ _ => False) env ⟨a, ns, rfl, t1, hlen, fun _ => rfl⟩) fun r z2 hr => ?_
  match r, hr with
  | .error e, hr => exact False.elim (by
      obtain ⟨_, _, _, _, _, _, _, _, _, _, _, _, x⟩ := hr
      exact x)
  | .ok .next, hr => exact hr.elim
  | .ok .brk, hr => exact hr.elim
  | .ok .cont, hr => exact hr.elim
  | .ok (.ret u), ⟨v, T2, os, bare, un, ok2, rv, hv⟩ =>
    have hv2 : v = .bl true := hv
    subst hv2
    have e : u = Value.bool true := rv
    subst e
    refine ⟨rfl, OldK.of_keep fun b ob e => ?_, os, bare⟩
    cases c : T b with
    | none => exact un.keep b ob e c (fun m => nomatch (show b ∈ ([] : List Addr) from m)) (fun m => nomatch (show b ∈ ([] : List Addr) from m))
    | some u =>
      obtain ⟨_, o2, xs, rfl⟩ := t3 b u c
      obtain ⟨g1, _⟩ := t2 b _ c
      obtain ⟨g2, _⟩ := ok2 b _ (un.frzs b o2 _ c)
      rw [e] at g1
      cases g1
      exact g2
end TU

set_option Elab.async false
set_option linter.all false
set_option maxRecDepth 100000
namespace TU
open PySem PySem.Spec PyProof.Rows L2
/-! ### what repr shows, and how long that may be -/
/-- of size n, depth m; j: no list within -/
structure Vw (n m : Nat) (j : Bool) (d : Tr) : Prop where
  sh : (py d).showable = true
  sl : (py d).leavesShort 13 = true
  bk : (py d).bulk ≤ n
  dp : dep d ≤ m
  nl : j = true → nol d = true
theorem Vw.le {n m n' m' : Nat} {j : Bool} {d : Tr} (v : Vw n m j d) (h : n ≤ n') (h' : m ≤ m') : Vw n' m' j d := ⟨v.sh, v.sl, Nat.le_trans v.bk h, Nat.le_trans v.dp h', v.nl⟩
structure Vws (n m : Nat) (j : Bool) (ds : List Tr) : Prop where
  sh : PyData.showableAll (pys ds) = true
  sl : PyData.leavesShortAll 13 (pys ds) = true
  bk : PyData.bulkAll (pys ds) ≤ n
  dp : deps ds ≤ m
  nl : j = true → nols ds = true
theorem Vws.nil {m : Nat} {j : Bool} : Vws 0 m j [] := ⟨rfl, rfl, Nat.le_refl _, Nat.zero_le _, fun _ => rfl⟩
theorem Vws.cons {a b m : Nat} {j : Bool} {d : Tr} {ds : List Tr} (v : Vw a m j d) (vs : Vws b m j ds) : Vws (a + 1 + b) m j (d :: ds) := by
  refine ⟨?_, ?_, ?_, Nat.max_le.mpr ⟨v.dp, vs.dp⟩, fun h => ?_⟩
  · simp only [pys, PyData.showableAll, v.sh, vs.sh, Bool.and_self]
  · simp only [pys, PyData.leavesShortAll, v.sl, vs.sl, Bool.and_self]
  · have := v.bk
    have := vs.bk
    simp only [pys, PyData.bulkAll]
    omega
  · simp only [nols, v.nl h, vs.nl h, Bool.and_self]
theorem Vws.all {a m : Nat} {j : Bool} : ∀ {ds : List Tr}, (∀ d ∈ ds, Vw a m j d) → Vws ((a + 1) * ds.length) m j ds
  | [], _ => .nil
  | d :: ds, h => by
    have v := Vws.cons (h d List.mem_cons_self) (Vws.all fun x hx => h x (List.mem_cons_of_mem _ hx))
    rw [List.length_cons, Nat.mul_add, Nat.mul_one, Nat.add_comm]
    exact v
theorem Vw.tup {n m : Nat} {j : Bool} {ds : List Tr} (v : Vws n m j ds) : Vw n (m + 1) j (.tup ds) := ⟨by simp only [py, PyData.showable]; exact v.sh, by simp only [py, PyData.leavesShort]; exact v.sl, by simp only [py, PyData.bulk]; exact v.bk, Nat.succ_le_succ v.dp, fun h => by simp only [nol]; exact v.nl h⟩
theorem Vw.lst {n m : Nat} {j : Bool} {ds : List Tr} (v : Vws n m j ds) : Vw n (m + 1) false (.lst ds) := ⟨by simp only [py, PyData.showable]; exact v.sh, by simp only [py, PyData.leavesShort]; exact v.sl, by simp only [py, PyData.bulk]; exact v.bk, Nat.succ_le_succ v.dp, fun h => nomatch h⟩
theorem Vw.bl {b j : Bool} : Vw 0 0 j (.bl b) := ⟨rfl, rfl, Nat.le_refl _, Nat.le_refl _, fun _ => rfl⟩
theorem Vw.non {j : Bool} : Vw 0 0 j .non := ⟨rfl, rfl, Nat.le_refl _, Nat.le_refl _, fun _ => rfl⟩
/-- a text: each sign a sign -/
def Pla (n : Nat) (s : Str) : Prop := (s.cps.toList.all fun c => decide (c < 16 ^ 8)) = true ∧ s.cps.size ≤ n
instance (n : Nat) (s : Str) : Decidable (Pla n s) := inferInstanceAs (Decidable (_ ∧ _))
theorem Vw.str {n : Nat} {j : Bool} {s : Str} (h : Pla n s) : Vw n 0 j (.str s) := ⟨rfl, h.1, h.2, Nat.le_refl _, fun _ => rfl⟩
def Sho (i : Int) : Prop := i.natAbs.log2 < 1920 ∧ (PyData.shown (.int i)).length ≤ 13
instance (i : Int) : Decidable (Sho i) := inferInstanceAs (Decidable (_ ∧ _))
theorem Vw.int {j : Bool} {i : Int} (h : Sho i) : Vw 0 0 j (.int i) := ⟨decide_eq_true h.1, decide_eq_true h.2, Nat.le_refl _, Nat.le_refl _, fun _ => rfl⟩
theorem small_sho : ∀ k : Fin 1000, Sho (k.val : Int) := by decide +kernel
theorem sho_of {i : Int} (h0 : 0 ≤ i) (h1 : i < 1000) : Sho i := by
  have := small_sho ⟨i.toNat, by omega⟩
  rw [show (i : Int) = ((⟨i.toNat, by omega⟩ : Fin 1000).val : Int) from by show i = (i.toNat : Int); omega]
  exact this
/-- a dict whose keys are texts -/
structure Vwk (n m : Nat) (j : Bool) (ks : List (Key × Tr)) : Prop where
  sh : PyData.showableKv (pyk ks) = true
  sl : PyData.leavesShortKv 13 (pyk ks) = true
  bk : PyData.bulkKv (pyk ks) ≤ n
  dp : depk ks ≤ m
  nl : j = true → nolk ks = true
theorem Vwk.all {c a m : Nat} {j : Bool} : ∀ {ks : List (Key × Tr)}, (∀ p ∈ ks, (∃ s, p.1 = .inr s ∧ Pla c s) ∧ Vw a m j p.2) → Vwk ((c + a + 2) * ks.length) m j ks
  | [], _ => ⟨rfl, rfl, Nat.le_refl _, Nat.zero_le _, fun _ => rfl⟩
  | (k, d) :: ks, h => by
    obtain ⟨⟨s, e, ps⟩, v⟩ := h _ List.mem_cons_self
    have e' : k = .inr s := e
    subst e'
    have vs := Vwk.all fun p hp => h p (List.mem_cons_of_mem _ hp)
    refine ⟨?_, ?_, ?_, Nat.max_le.mpr ⟨v.dp, vs.dp⟩, fun q => ?_⟩
    · simp only [pyk, PyData.showableKv, PyData.showable, v.sh, vs.sh, Bool.and_self]
    · have e : (PyData.str s).leavesShort 13 = true := ps.1
      simp only [pyk, PyData.leavesShortKv, e, v.sl, vs.sl, Bool.and_self]
    · have b1 := v.bk
      have b2 := vs.bk
      have b3 := ps.2
      rw [List.length_cons, Nat.mul_add, Nat.mul_one]
      simp only [pyk, PyData.bulkKv, PyData.bulk]
      simp only at b1
      omega
    · simp only [nolk, v.nl q, vs.nl q, Bool.and_self]
theorem Vw.dic {n m : Nat} {j : Bool} {ks : List (Key × Tr)} (v : Vwk n m j ks) : Vw n (m + 1) j (.dic ks) := ⟨by simp only [py, PyData.showable]; exact v.sh, by simp only [py, PyData.leavesShort]; exact v.sl, by simp only [py, PyData.bulk]; exact v.bk, Nat.succ_le_succ v.dp, fun h => by simp only [nol]; exact v.nl h⟩
theorem Vw.len {n m : Nat} {j : Bool} {d : Tr} (v : Vw n m j d) : (py d).shown.length ≤ 15 * n + 13 := by
  have h := PyData.shown_le_bulk 13 (by decide) (py d) v.sl
  have : (13 + 2) * (py d).bulk ≤ 15 * n := Nat.mul_le_mul (by decide) v.bk
  omega
section
variable {K : PySem.W.Frag} {H : Hp} {Q : VK} {N : Addr → Prop} {a : Addr}
/-- repr of a tree without dicts, or without lists -/
theorem q_reprN {n m : Nat} {d : Tr} (t : T K H N (.ref a) d) (v : Vw n m true d) (hn : n ≤ 100000) (hm : m ≤ 60) (q : Q (.str (py d).shown) H) : rReprT K [.ref a] H Q :=
  ⟨N, a, d, rfl, t, v.sh, fun _ => v.nl rfl, Nat.le_trans v.dp hm, Nat.le_trans v.len (Nat.le_trans (show 15 * n + 13 ≤ 15 * 100000 + 13 by omega) (by decide)), q⟩
theorem q_reprL {n m : Nat} {j : Bool} {d : Tr} (t : T K H N (.ref a) d) (v : Vw n m j d) (nd : (py d).hasDict = false) (hn : n ≤ 100000) (hm : m ≤ 60) (q : Q (.str (py d).shown) H) : rReprT K [.ref a] H Q :=
  ⟨N, a, d, rfl, t, v.sh, (fun z => absurd (nd.symm.trans z) (by decide)), Nat.le_trans v.dp hm, Nat.le_trans v.len (Nat.le_trans (show 15 * n + 13 ≤ 15 * 100000 + 13 by omega) (by decide)), q⟩
mutual
theorem hasDict_py : ∀ d : Tr, nod d = true → (py d).hasDict = false
  | .non, _ => rfl
  | .bl _, _ => rfl
  | .int _, _ => rfl
  | .str _, _ => rfl
  | .lst xs, h => by
    simp only [py, PyData.hasDict]
    exact hasDict_pys xs (by simpa [nod] using h)
  | .tup xs, h => by
    simp only [py, PyData.hasDict]
    exact hasDict_pys xs (by simpa [nod] using h)
  | .dic _, h => by simp [nod] at h
theorem hasDict_pys : ∀ ds : List Tr, nods ds = true → PyData.hasDictAll (pys ds) = false
  | [], _ => rfl
  | x :: xs, h => by
    have h' : nod x = true ∧ nods xs = true := by simpa [nods] using h
    simp only [pys, PyData.hasDictAll, hasDict_py x h'.1, hasDict_pys xs h'.2, Bool.or_self]
end
end
end TU

set_option Elab.async false
set_option linter.all false
set_option maxRecDepth 100000
namespace TU
open PySem PySem.Spec PyProof.Rows L2
/-- all entries are such -/
def All (P : Tr → Prop) (h : Hs) : Prop := ∀ q ∈ h, ∀ x ∈ q.2, P x.2
def EdP (P : Tr → Prop) (e : Ed) : Prop := ∀ k n d, e = .put k n d → P d
section
variable {P : Tr → Prop}
theorem All.lk {h : Hs} (a : All P h) {k n : Str} {t : Tab} {d : Tr} (e : lk h k = some t) (e2 : lk t n = some d) : P d := a _ (lk_mem e) _ (lk_mem e2)
theorem All.cp {h : Hs} (a : All P h) : All P (cpH h) := fun q hq x hx => by
  obtain ⟨p, hp, rfl⟩ := List.mem_map.mp hq
  obtain ⟨n, hn, e⟩ := List.mem_map.mp (show x ∈ (srt (nms p.2)).map fun n => (n, (TU.lk p.2 n).getD default) from hx)
  have m : n ∈ nms p.2 := (srt_perm _).mem_iff.mp hn
  obtain ⟨d, hd⟩ := lk_mem_nms m
  rw [← e]
  show P ((TU.lk p.2 n).getD default)
  rw [hd]
  exact a p hp _ (lk_mem hd)
theorem app1_all {h h' : Hs} {e : Ed} (a : All P h) (b : EdP P e) (ha : app1 h e = .ok h') : All P h' := by
  cases q : TU.lk h e.key with
  | none =>
    simp only [app1, q] at ha
    cases ha
  | some t =>
    have hm := lk_mem q
    cases e with
    | put k m d =>
      simp only [app1, q] at ha
      cases ha
      intro p hp x hx
      rcases mem_put hp with c | c
      · exact a p c x hx
      · rw [c] at hx
        rcases mem_put hx with c2 | c2
        · exact a _ hm x c2
        · rw [c2]
          exact b _ _ _ rfl
    | drop k m =>
      by_cases hin : m ∈ nms t
      · simp only [app1, q, if_pos hin] at ha
        cases ha
        intro p hp x hx
        rcases mem_put hp with c | c
        · exact a p c x hx
        · rw [c] at hx
          exact a _ hm x (mem_del hx)
      · simp only [app1, q, if_neg hin] at ha
        cases ha
theorem appAll_all : ∀ {es : List Ed} {h h' : Hs}, All P h → (∀ e ∈ es, EdP P e) → appAll h es = .ok h' → All P h'
  | [], h, h', n, hn, ha => by
    cases ha
    exact n
  | e :: es, h, h', n, hn, ha => by
    rw [appAll_cons] at ha
    cases q : app1 h e with
    | error x =>
      rw [q] at ha
      cases ha
    | ok h1 =>
      rw [q] at ha
      exact appAll_all (app1_all n (hn e List.mem_cons_self) q) (fun x hx => hn x (List.mem_cons_of_mem _ hx)) ha
theorem inv1_all {h : Hs} {e : Ed} (a : All P h) : EdP P (inv1 h e) := fun k n d z => by
  unfold inv1 at z
  cases q : TU.lk h e.key with
  | none =>
    rw [q] at z
    cases z
  | some t =>
    rw [q] at z
    cases q2 : TU.lk t e.name with
    | none =>
      simp only [q2] at z
      cases z
    | some d2 =>
      simp only [q2] at z
      cases z
      exact a.lk q q2
end
theorem nods_all : ∀ {ds : List Tr}, (∀ d ∈ ds, TU.nod d = true) → nods ds = true
  | [], _ => rfl
  | d :: ds, h => by
    have h1 := h d List.mem_cons_self
    have h2 := nods_all fun x hx => h x (List.mem_cons_of_mem _ hx)
    simp only [nods, h1, h2, Bool.and_self]
theorem Ed.nod {e : Ed} (i : e.Imm) : TU.nod e.tr = true := by
  cases e with
  | put k n d =>
    have := nod_of_imm (show imm d = true from i)
    simp only [Ed.tr, TU.nod, nods, this, Bool.and_self]
  | drop k n => rfl
theorem deps_all {n : Nat} : ∀ {ds : List Tr}, (∀ d ∈ ds, TU.dep d ≤ n) → deps ds ≤ n
  | [], _ => Nat.zero_le _
  | d :: ds, h => Nat.max_le.mpr ⟨h d List.mem_cons_self, deps_all fun x hx => h x (List.mem_cons_of_mem _ hx)⟩
theorem invs_all {P : Tr → Prop} : ∀ {es : List Ed} {h : Hs}, All P h → (∀ e ∈ es, EdP P e) → ∀ e ∈ invs h es, EdP P e
  | [], h, a, b, e, m => nomatch m
  | e :: es, h, a, b, x, m => by
    unfold invs at m
    rcases List.mem_cons.mp m with rfl | m
    · exact inv1_all a
    · cases q : app1 h e with
      | error z =>
        rw [q] at m
        cases m
      | ok h1 =>
        rw [q] at m
        exact invs_all (app1_all a (b e List.mem_cons_self) q) (fun y hy => b y (List.mem_cons_of_mem _ hy)) x m
theorem Ed.dep {e : Ed} (i : EdP (fun d => TU.dep d ≤ 50) e) : TU.dep e.tr ≤ 51 := by
  cases e with
  | put k n d =>
    have := i _ _ _ rfl
    simp only [Ed.tr, TU.dep, deps]
    omega
  | drop k n => exact (by decide : 1 ≤ 51)
section
variable {K : PySem.W.Frag} {H : Hp} {Q : VK}
theorem q_neR {x y : V} {d : Tr} (hx : T K H ff x d) (hy : T K H ff y d) (n : nod d = true) (m : dep d ≤ 60) (k : Q (.bl false) H) : rNeU K x y H Q := by
  refine q_neT hx hy n n m ?_
  rw [eqb_refl n]
  exact k
theorem q_eqR {x y : V} {d : Tr} (hx : T K H ff x d) (hy : T K H ff y d) (n : nod d = true) (m : dep d ≤ 60) (k : Q (.bl true) H) : rEqU K x y H Q := by
  refine q_eqT hx hy n n m ?_
  rw [eqb_refl n]
  exact k
theorem q_eqSS {s : Str} (k : Q (.bl true) H) : rEqU K (.str s) (.str s) H Q := q_eqS (by rw [decide_eq_true rfl]; exact k)
theorem q_neSS {s : Str} (k : Q (.bl false) H) : rNeU K (.str s) (.str s) H Q := q_neS (by rw [decide_eq_true rfl]; exact k)
end
/-- one edit, in all the forms that the laws ask for -/
structure Step (s : Hs) (e : Ed) (g u : Hs) : Prop where
  a1 : app1 s e = .ok g
  a2 : app1 (cpH s) e = .ok g
  b : app1 (cpH (cpH g)) (inv1 s e) = .ok u
  c : cpH u = s
theorem step_of {f f' : Hs} {e : Ed} (w : Wf f) (im : e.Imm) (h : app1 f e = .ok f') : ∃ g u, Step (cpH f) e g u ∧ cpH f' = cpH g ∧ Wf g ∧ Wf u ∧ nms g = nms f ∧ nms u = nms f := by
  obtain ⟨g, hg, hc⟩ := app1_cp w w.cp (cp_cp w).symm h
  obtain ⟨wg, ng⟩ := app1_wf w.cp im hg
  obtain ⟨u, hu, hcu⟩ := undo1 w.cp hg
  obtain ⟨v, hv, hcv⟩ := app1_cp wg wg.cp (cp_cp wg).symm hu
  obtain ⟨wv, nv⟩ := app1_wf wg.cp (inv1_imm w.cp e) hv
  rw [nms_cp] at ng nv
  refine ⟨g, v, ⟨hg, by rw [cp_cp w]; exact hg, by rw [cp_cp wg]; exact hv, ?_⟩, hc, wg, wv, ng, nv.trans ng⟩
  rw [← hcv, hcu, cp_cp w]
theorem appAll_next {h f hz : Hs} {es : List Ed} {i : Nat} {e : Ed} (he : es[i]? = some e) (ha : appAll h (es.take i) = .ok f) (hz : appAll h es = .ok hz) : ∃ f', app1 f e = .ok f' := by
  cases q : app1 f e with
  | ok f' => exact ⟨f', rfl⟩
  | error x =>
    rw [appAll_stop he ha q] at hz
    cases hz
theorem nt_rd {H : Hp} {a : Addr} {kvs : List (Key × V)} {xs : List V} (h : Rd H a (.dK kvs)) (h' : Rd H a (.tup xs)) : False := by
  rcases h with e | ⟨o, e⟩ <;> rcases h' with e' | ⟨o', e'⟩ <;> (rw [e] at e'; cases e')
end TU

set_option Elab.async false
set_option linter.all false
set_option maxRecDepth 100000
namespace TU
open PySem PySem.Spec PyProof.Rows L2
/-! ### what the top has written -/
theorem top_mk {K : PySem.W.Frag} {h : Heap} {mg : Str → Option Value} {x : Str} {st : Stmt} {ps : List Str} {f : Addr} {oc : Value} {od an : Option Addr} {osl : Array (Option Value)} {kV doc pm cdv ct : Value} (X : K.In h) (G : h.Ns mainGlobals mg)
    (ha : PySem.W.nsIn K mainGlobals x = some (some (.ref f))) (hl : K.lookup f = some ⟨oc, od, .func (PySem.W.fnOf x x (defArgs st) (defBody st) (defScope st) .none kV doc pm an cdv ct), osl⟩) (hc : PySem.W.codeIn K cdv x = true) (hk : PySem.W.keepIn K (.ref f) = true)
    (hb : ∀ (kV doc pm : Value) (an : Option Addr) (cdv ct : Value) (us : List Value), us.length = ps.length → bindArgs (PySem.W.fnOf x x (defArgs st) (defBody st) (defScope st) .none kV doc pm an cdv ct) ⟨us, []⟩ = pure (ps.zip us)) : TopF K mg x st ps :=
  ⟨f, _, fun_mk hl hc hk, PySem.W.mg_of X G ha, (fun_mk hl hc hk).binds hb⟩
/-- an error of its own class is caught by it -/
theorem exm_me {K : PySem.W.Frag} {C : Addr} (h1 : PySem.W.subIn K (.ref C) (.type "BaseException") = some true) (h2 : PySem.W.isClsIn K C = true) (h3 : PySem.W.typeIn K (.ref C) = some (.type "type")) (h4 : PySem.W.subIn K (.ref C) (.ref C) = some true) :
    PySem.W.exmOne K (.ref C) (.ref C) = some true := by
  have c1 : (PySem.W.clsIn K C).isSome = true := h2
  have c2 : ((PySem.W.clsIn K C).isSome && PySem.W.typeIn K (.ref C) == some (.type "type")) = true := by
    rw [c1, h3]
    rfl
  have c3 : (PySem.W.subIn K (.ref C) (.type "BaseException") == some true) = true := by
    rw [h1]
    rfl
  unfold PySem.W.exmOne
  simp only [c3, if_true]
  unfold PySem.W.kitCls
  simp only [c2, if_true]
  exact h4
theorem xc_mk2 {P : Program} {w : World} {K : PySem.W.Frag} {h : Heap} {mg : Str → Option Value} {base : Heap} {x qual f1 f2 : Str} {st : Stmt} {C f : Addr} (X : K.In h) (G : h.Ns mainGlobals mg)
    {nm q : Str} {N : Addr} {bs bm : List Value} {sn : List Str} {sub : List Value} {ab : Bool} {col : Option Bool} {dd : Option Addr} {m0 m1 m2 m3 m5 : Option Value}
    {od an : Option Addr} {sl : Array (Option Value)} {oc kV dc pm cd ct : Value} {p1 p2 p3 p4 q1 q2 q3 q4 : Pos}
    (aC : PySem.W.nsIn K mainGlobals x = some (some (.ref C))) (xL : K.lookup C = some (excClassObj nm q C N bs bm true sn sub ab col dd m0 m1 m2 m3 m5 "ValueError.__new__")) (xb : PySem.HandSPX.refsVE bm = true)
    (sa : PySem.W.findIn K (.ref C) "__setattr__" = some (some (.builtin "object.__setattr__"))) (ga : PySem.W.findIn K (.ref C) "__getattribute__" = some (some (.builtin "BaseException.__getattribute__"))) (gg : PySem.W.findIn K (.ref C) "__getattr__" = some none)
    (n1 : PySem.W.findIn K (.ref C) f1 = some none) (n2 : PySem.W.findIn K (.ref C) f2 = some none)
    (a1 : PySem.W.findIn K (.ref C) "__init__" = some (some (.ref f))) (t1 : PySem.W.typeIn K (.ref f) = some (.type "function"))
    (l1 : K.lookup f = some ⟨oc, od, .func (PySem.W.fnOf "__init__" qual (defArgs st) (defBody st) (defScope st) .none kV dc pm an cd ct), sl⟩) (c1 : PySem.W.codeIn K cd qual = true) (k1 : PySem.W.keepIn K (.ref f) = true)
    (kC : PySem.W.keepIn K (.ref C) = true) (eC : PySem.W.subIn K (.ref C) (.type "BaseException") = some true) (tC : PySem.W.typeIn K (.ref C) = some (.type "type")) (hC : PySem.W.hasDictIn K C = true) (iC : PySem.W.isClsIn K C = true) (sC : PySem.W.subIn K (.ref C) (.ref C) = some true)
    (S : FnScope ["self", f1, f2] ["self", f1, f2] (defScope st)) (hb : defBody st = [.Assign [.Attribute (.Name "self" p1) f1 p2] (.Name f1 p3) p4, .Assign [.Attribute (.Name "self" q1) f2 q2] (.Name f2 q3) q4])
    (d1 : (f1 == ("__debug__" : Str)) = false) (d2 : (f1 == ("__classdict__" : Str)) = false) (e1 : (f2 == ("__debug__" : Str)) = false) (e2 : (f2 == ("__classdict__" : Str)) = false)
    (v0 : Vis (defScope st) "self") (v1 : Vis (defScope st) f1) (v2 : Vis (defScope st) f2)
    (bi : ∀ (kV doc pm : Value) (an : Option Addr) (cdv ct : Value) (us : List Value), us.length = 3 → bindArgs (PySem.W.fnOf "__init__" qual (defArgs st) (defBody st) (defScope st) .none kV doc pm an cdv ct) ⟨us, []⟩ = pure ((["self", f1, f2] : List Str).zip us)) :
    Xc P w K mg base x [f1, f2] C := by
  have T : OexC K C := ⟨⟨nm, q, N, bs, bm, sn, sub, ab, col, dd, m0, m1, m2, m3, m5, xL, xb⟩, sa, eC, tC, kC⟩
  have F := fun_mk (st := st) l1 c1 k1
  refine ⟨T, ⟨ga, gg, eC, hC⟩, PySem.W.mg_of X G aC, fun y hy => ?_, exm_me eC iC tC sC, f, _, a1, t1, ok_init2 F S hb T n1 n2 d1 d2 e1 e2 v0 v1 v2, F.binds bi⟩
  rcases List.mem_cons.mp hy with rfl | hy
  · exact n1
  · rw [List.mem_singleton.mp hy]
    exact n2
end TU

set_option Elab.async false
set_option linter.all false
set_option maxRecDepth 100000
namespace TU
open PySem PySem.Spec PyProof.Rows L2
/-! ### sorted lists of pairs of texts -/
abbrev SP := Str × Str
def lexS (p q : SP) : Bool := if p.1 = q.1 then ltS p.2 q.2 else ltS p.1 q.1
theorem lexS_eq {p q : SP} (h : p.1 = q.1) : lexS p q = ltS p.2 q.2 := if_pos h
theorem lexS_ne {p q : SP} (h : ¬ p.1 = q.1) : lexS p q = ltS p.1 q.1 := if_neg h
theorem lexS_asymm {p q : SP} (h : lexS p q = true) : lexS q p = false := by
  by_cases e : p.1 = q.1
  · rw [lexS_eq e] at h
    rw [lexS_eq e.symm]
    exact ltS_asymm h
  · rw [lexS_ne e] at h
    rw [lexS_ne (Ne.symm e)]
    exact ltS_asymm h
theorem lexS_tri {p q : SP} (h1 : lexS p q = false) (h2 : lexS q p = false) : p = q := by
  by_cases e : p.1 = q.1
  · rw [lexS_eq e] at h1
    rw [lexS_eq e.symm] at h2
    exact Prod.ext e (ltS_tri h1 h2)
  · rw [lexS_ne e] at h1
    rw [lexS_ne (Ne.symm e)] at h2
    exact absurd (ltS_tri h1 h2) e
theorem lexS_trans {p q r : SP} (h1 : lexS p q = true) (h2 : lexS q r = true) : lexS p r = true := by
  by_cases e : p.1 = q.1
  · rw [lexS_eq e] at h1
    by_cases e2 : q.1 = r.1
    · rw [lexS_eq e2] at h2
      rw [lexS_eq (e.trans e2)]
      exact ltS_trans h1 h2
    · rw [lexS_ne e2] at h2
      rw [lexS_ne (by rw [e]; exact e2), e]
      exact h2
  · rw [lexS_ne e] at h1
    by_cases e2 : q.1 = r.1
    · rw [lexS_ne (by rw [← e2]; exact e), ← e2]
      exact h1
    · rw [lexS_ne e2] at h2
      have h3 := ltS_trans h1 h2
      rw [lexS_ne fun z => ?_]
      · exact h3
      · rw [z, ltS_irr] at h3
        cases h3
theorem swo_lexS {α : Type} (k : α → SP) : SrtO.Swo fun v u => lexS (k v) (k u) := by
  refine ⟨fun x y h => lexS_asymm h, fun x y z h1 h2 => ?_⟩
  cases q : lexS (k z) (k x) with
  | false => rfl
  | true =>
    cases q2 : lexS (k x) (k y) with
    | true =>
      have := lexS_trans q q2
      rw [show lexS (k z) (k y) = false from h2] at this
      cases this
    | false =>
      have e := lexS_tri q2 h1
      rw [e] at q
      rw [show lexS (k z) (k y) = false from h2] at q
      cases q
def insP (x : SP) : List SP → List SP
  | [] => [x]
  | y :: r => if lexS y x = true then y :: insP x r else x :: y :: r
def srtP : List SP → List SP
  | [] => []
  | x :: r => insP x (srtP r)
theorem insP_perm (x : SP) : ∀ l : List SP, (insP x l).Perm (x :: l)
  | [] => List.Perm.refl _
  | y :: r => by
    unfold insP
    by_cases h : lexS y x = true
    · rw [if_pos h]
      exact ((insP_perm x r).cons y).trans (List.Perm.swap x y r)
    · rw [if_neg h]
theorem srtP_perm : ∀ l : List SP, (srtP l).Perm l
  | [] => List.Perm.refl _
  | x :: r => (insP_perm x (srtP r)).trans ((srtP_perm r).cons x)
/-- no later one is below an earlier one -/
def AscP (l : List SP) : Prop := l.Pairwise fun x y => lexS y x = false
theorem insP_asc (x : SP) : ∀ {l : List SP}, AscP l → AscP (insP x l)
  | [], _ => List.pairwise_singleton _ _
  | y :: r, h => by
    have hc := List.pairwise_cons.mp h
    unfold insP
    by_cases c : lexS y x = true
    · rw [if_pos c]
      refine List.pairwise_cons.mpr ⟨fun z hz => ?_, insP_asc x hc.2⟩
      rcases List.mem_cons.mp ((insP_perm x r).mem_iff.mp hz) with e | hz
      · rw [e]
        exact lexS_asymm c
      · exact hc.1 z hz
    · rw [if_neg c]
      have c' : lexS y x = false := by cases q : lexS y x with
        | true => exact absurd q c
        | false => rfl
      refine List.pairwise_cons.mpr ⟨fun z hz => ?_, h⟩
      rcases List.mem_cons.mp hz with e | hz
      · rw [e]
        exact c'
      · exact (swo_lexS (fun x : SP => x)).tr _ _ _ c' (hc.1 z hz)
theorem srtP_asc : ∀ l : List SP, AscP (srtP l)
  | [] => List.Pairwise.nil
  | x :: r => insP_asc x (srtP_asc r)
theorem ascP_uniq : ∀ {l m : List SP}, AscP l → AscP m → l.Perm m → l = m
  | [], m, _, _, p => (List.nil_perm.mp p).symm
  | x :: l, [], _, _, p => absurd (List.perm_nil.mp p) (by simp)
  | x :: l, y :: m, hl, hm, p => by
    have h1 := List.pairwise_cons.mp hl
    have h2 := List.pairwise_cons.mp hm
    have e : x = y := by
      rcases List.mem_cons.mp (p.mem_iff.mp List.mem_cons_self) with e | mx
      · exact e
      · rcases List.mem_cons.mp (p.mem_iff.mpr (List.mem_cons_self (a := y) (l := m))) with e | my
        · exact e.symm
        · exact lexS_tri (h2.1 x mx) (h1.1 y my)
    subst e
    rw [ascP_uniq h1.2 h2.2 p.cons_inv]
theorem srtP_is {l m : List SP} (p : m.Perm l) (h : AscP m) : m = srtP l := ascP_uniq h (srtP_asc l) (p.trans (srtP_perm l).symm)
theorem srtP_of {l m : List SP} (p : l.Perm m) : srtP l = srtP m := ascP_uniq (srtP_asc l) (srtP_asc m) (((srtP_perm l).trans p).trans (srtP_perm m).symm)
/-! the values -/
def IsPS (h : Heap) (v : Value) (p : SP) : Prop := ∃ a o t u n, v = .ref a ∧ h.get? a = some o ∧ o.cls = .type "tuple" ∧ o.data = .seq #[.str p.1 t, .str p.2 u] n
theorem IsPS.keeps {h h' : Heap} {v : Value} {p : SP} (x : IsPS h v p) (k : ∀ b o, h.get? b = some o → o.cls = .type "tuple" → h'.get? b = some o) : IsPS h' v p := by
  obtain ⟨a, o, t, u, n, e, ho, hc, hd⟩ := x
  exact ⟨a, o, t, u, n, e, k _ _ ho hc, hc, hd⟩
theorem IsPS.uniq {h : Heap} {v : Value} {p q : SP} (x : IsPS h v p) (y : IsPS h v q) : p = q := by
  obtain ⟨a, o, t, u, n, e, ho, hc, hd⟩ := x
  obtain ⟨a', o', t', u', n', e', ho', hc', hd'⟩ := y
  subst e
  cases e'
  rw [ho] at ho'
  cases ho'
  rw [hd] at hd'
  have e2 := (Data.seq.inj hd').1
  have e3 : [Value.str p.1 t, .str p.2 u] = [Value.str q.1 t', .str q.2 u'] := congrArg Array.toList e2
  have e4 := List.cons.inj e3
  have e5 := (List.cons.inj e4.2).1
  exact Prod.ext (Value.str.inj e4.1).1 (Value.str.inj e5).1
theorem firstsS {h : Heap} {k : Value → SP} : ∀ {vs : List Value}, (∀ v ∈ vs, IsPS h v (k v)) → ∃ fs : List Value, PySem.W.KatTups h vs fs ∧ fs.length = vs.length ∧ ∀ f ∈ fs, ∃ x t, f = Value.str x t
  | [], _ => ⟨[], PySem.W.KatTups.nil, rfl, fun _ m => nomatch m⟩
  | v :: vs, hp => by
    obtain ⟨fs, h1, h2, h3⟩ := firstsS (vs := vs) fun y m => hp y (List.mem_cons_of_mem _ m)
    obtain ⟨a, o, t, u, n, e, ho, hc, hd⟩ := hp v List.mem_cons_self
    refine ⟨.str (k v).1 t :: fs, ?_, congrArg Nat.succ h2, fun f m => ?_⟩
    · have z : PySem.W.KatTups h (.ref a :: vs) (.str (k v).1 t :: fs) := .cons ho hc hd rfl h1
      rw [← e] at z
      exact z
    · rcases List.mem_cons.mp m with c | c
      · exact ⟨_, _, c⟩
      · exact h3 f c
section
variable {prog : Program} {w : World} {A : Around} {E : Value → Shared → Prop} {s : Shared}
theorem pairS_cmp {vs : List Value} {k : Value → SP} (hp : ∀ v ∈ vs, IsPS s.heap v (k v)) : SrtO.Cmp prog w A s (tuples' true) (fun p => p.1 ∈ vs) (SrtO.lt2 fun v u => lexS (k v) (k u)) := by
  intro p q m1 m2
  have h1 := hp _ m1
  have h2 := hp _ m2
  show wpAny (model prog w) A (keyLt' (tuples' true) p.1 q.1) (fun r z => z = s ∧ r = lexS (k p.1) (k q.1)) (fun _ _ => False) s
  generalize k p.1 = x at h1 ⊢
  generalize k q.1 = y at h2 ⊢
  obtain ⟨a, o, t, u, n, e, ho, hc, hd⟩ := h1
  obtain ⟨b, o2, t2, u2, n2, e2, ho2, hc2, hd2⟩ := h2
  rw [e, e2]
  refine PySem.W.kat_lt ho hd ho2 hd2 ?_
  show PySem.W.KatLex prog w A true (decide (2 < 2)) _ [(.str x.1 t, .str y.1 t2), (.str x.2 u, .str y.2 u2)] 0 s
  refine PySem.W.kat_cons (SeqAt.EqAt.str_str x.1 t y.1 t2 prog w _ _ ?_)
  refine PySem.W.kat_go (fun c => ?_) (fun c => ?_)
  · have c1 : x.1 = y.1 := by simpa using c
    refine PySem.W.kat_yes (PySem.W.kat_cons (SeqAt.EqAt.str_str x.2 u y.2 u2 prog w _ _ ?_))
    refine PySem.W.kat_go (fun d => ?_) (fun d => ?_)
    · have c2 : x.2 = y.2 := by simpa using d
      refine PySem.W.kat_yes (PySem.W.kat_nil ⟨rfl, ?_⟩)
      rw [lexS_eq c1, c2, ltS_irr]
      rfl
    · refine PySem.W.kat_no (oneLt_any_str ⟨rfl, ?_⟩)
      rw [lexS_eq c1]
      exact (Bool.eq_iff_iff.mpr (by rw [decide_eq_true_eq, ltS_iff]))
  · have c1 : ¬ x.1 = y.1 := by simpa using c
    refine PySem.W.kat_no (oneLt_any_str ⟨rfl, ?_⟩)
    rw [lexS_ne c1]
    exact (Bool.eq_iff_iff.mpr (by rw [decide_eq_true_eq, ltS_iff]))
theorem pairS_sortable {a : Addr} {vs : List Value} {k : Value → SP} (h0 : 0 < vs.length) (hp : ∀ v ∈ vs, IsPS s.heap v (k v)) (ha : ∀ o, s.heap.get? a = some o → o.cls ≠ .type "tuple") : SrtO.SortableO prog w A s a vs fun v u => lexS (k v) (k u) := by
  intro h1 keep
  have hq : ∀ v ∈ vs, IsPS h1 v (k v) := fun v m => (hp v m).keeps fun b o e c => keep b o (fun z => by subst z; exact ha o e c) e
  obtain ⟨fs, f1, f2, f3⟩ := firstsS hq
  refine ⟨tuples' true, fun Q E hh => ?_, pairS_cmp hq⟩
  refine PySem.W.kat_kind (T := .type "str") f1 (by omega) (fun f m => ?_) (by rfl) ?_
  · obtain ⟨x, t, rfl⟩ := f3 f m
    exact PySem.W.Looks.now
  · rw [show (Value.type "str" != Value.type "tuple") = true by first | rfl | decide +kernel]
    exact hh
end
def pr (p : SP) : Tr := .tup [.str p.1, .str p.2]
/-- sorted(c), c a list of pairs of texts -/
def rSortP (K : PySem.W.Frag) : List V → Hp → VK → Prop := fun vs H Q => ∃ (a : Addr) (xs : List V) (ps : List SP), vs = [.ref a] ∧ SqL K H a xs ∧ Ts K H ff xs (ps.map pr) ∧
  ∀ ys p, Ts K H ff ys ((srtP ps).map pr) → H p = none → Q (.ref p) (upd H p (.lst ys))
theorem T.pair {X : Cx} {pins : List (Addr × Obj)} {σ : L2.St} {H : Hp} {s : Shared} (I : Inv X pins σ H s) {x : V} {v : Value} {p : SP} (t : T X.K H ff x (pr p)) (r : RelV x v) : (∃ b, x = .ref b) ∧ IsPS s.heap v p := by
  obtain ⟨p1, p2⟩ := p
  cases t with
  | @tup b ws _ hq ts =>
    refine ⟨⟨b, rfl⟩, ?_⟩
    have e : v = .ref b := r
    subst e
    obtain ⟨its, rv, ht, hz⟩ := I.tuple hq
    cases ts with
    | cons t1 ts =>
      cases ts with
      | cons t2 ts =>
        cases ts
        cases t1
        cases t2
        obtain ⟨u1, u2, rfl, ri, rj⟩ := vals2 rv
        obtain ⟨k1, rfl⟩ := ri
        obtain ⟨k2, rfl⟩ := rj
        obtain ⟨o, ho, hc, n, hd⟩ := ht
        exact ⟨b, o, k1, k2, n, rfl, ho, hc, hd⟩
theorem call_sortP {X : Cx} : CallR X (.builtin "sorted") (rSortP X.K) := by
  intro pins s σ H vs us Q I r h
  obtain ⟨a, xs, ps, rfl, hs, ht, q⟩ := h
  obtain ⟨its, rv, hl, hz⟩ := I.list hs
  obtain ⟨u, rfl, ru⟩ := vals1 r
  obtain rfl : u = Value.ref a := ru
  haveI dec : ∀ v, Decidable (∃ p, IsPS s.heap v p) := fun v => Classical.propDecidable _
  let k : Value → SP := fun v => if c : ∃ p, IsPS s.heap v p then Classical.choose c else ("", "")
  have kis : ∀ {v p}, IsPS s.heap v p → k v = p := fun {v p} x => by
    have c : ∃ p, IsPS s.heap v p := ⟨p, x⟩
    show (if c : ∃ p, IsPS s.heap v p then Classical.choose c else ("", "")) = p
    rw [dif_pos c]
    exact (Classical.choose_spec c).uniq x
  have all : ∀ {xs : List V} {its : List Value} {ps : List SP}, Vals xs its → Ts X.K H ff xs (ps.map pr) → its.map k = ps ∧ (∀ v ∈ its, IsPS s.heap v (k v)) ∧ ∀ v ∈ its, T X.K H ff (backV v) (pr (k v)) := by
    intro xs its ps rv
    induction rv generalizing ps with
    | nil =>
      intro h
      cases ps with
      | nil => exact ⟨rfl, (fun v m => nomatch m), fun v m => nomatch m⟩
      | cons p ps => cases h
    | @cons x u xs its r1 r2 ih =>
      intro h
      cases ps with
      | nil => cases h
      | cons p ps =>
        cases h with
        | cons t1 t2 =>
          obtain ⟨⟨b, eb⟩, ip⟩ := T.pair I t1 r1
          obtain ⟨i1, i2, i3⟩ := ih t2
          subst eb
          have eu : u = .ref b := r1
          subst eu
          have ek := kis ip
          refine ⟨?_, fun v m => ?_, fun v m => ?_⟩
          · rw [List.map_cons, ek, i1]
          · rcases List.mem_cons.mp m with c | c
            · rw [c, ek]
              exact ip
            · exact i2 v c
          · rcases List.mem_cons.mp m with c | c
            · rw [c, ek]
              exact t1
            · exact i3 v c
  obtain ⟨a1, a2, a3⟩ := all rv ht
  have refs : ∀ v ∈ its, ∃ b, v = Value.ref b := fun v m => by
    obtain ⟨b, _, _, _, _, e, _⟩ := a2 v m
    exact ⟨b, e⟩
  refine SrtO.sorted_ord (swo_lexS k) hl.isList (by rw [← rv.length]; exact hz) (fun h2 h1 d hd kk => ?_) fun out o1 o2 => ?_
  · refine pairS_sortable (s := { s with heap := h1 }) (by omega) (fun v m => (a2 v m).keeps fun b o e _ => (kk b o e).2) fun o e c => ?_
    have e2 : some o = some (seqObj "list" its.toArray 0) := e.symm.trans hd
    cases e2
    exact absurd (Value.type.inj c) (by decide)
  · have mem : ∀ v ∈ out, v ∈ its := fun v m => o2.perm.mem_iff.mp m
    have ok : out.map k = srtP ps := by
      refine srtP_is ?_ (List.pairwise_map.mpr o1)
      rw [← a1]
      exact o2.perm.map k
    have build : ∀ {l : List Value}, (∀ v ∈ l, v ∈ its) → Ts X.K H ff (l.map backV) ((l.map k).map pr) := by
      intro l
      induction l with
      | nil => exact fun _ => .nil
      | cons v l ih => exact fun m => .cons (a3 v (m v List.mem_cons_self)) (ih fun y hy => m y (List.mem_cons_of_mem _ hy))
    have tb := build mem
    rw [ok] at tb
    have hd : s.heap.objs.size ≤ s.heap.objs.size + 1 := Nat.le_succ _
    obtain ⟨n, hn⟩ := sortedAll_at s.heap its out.toArray
    refine ⟨.ref (s.heap.objs.size + 1), upd H (s.heap.objs.size + 1) (.lst (out.map backV)), I.laid (t' := s.toks) (fun b o e => sortedAll_old e) hd ⟨?_, out, n, vals_back fun v m => refs v (mem v m), hn⟩, rfl, q _ _ tb (I.hok.fresh hd)⟩
    rw [List.length_map, o2.perm.length_eq, ← rv.length]
    exact hz
theorem k_sortP {X : Cx} {K : PySem.W.Frag} (h : X.K = K) : CallR X (.builtin "sorted") (rSortP K) := h ▸ call_sortP
theorem q_sortP {K : PySem.W.Frag} {H : Hp} {Q : VK} {a : Addr} {xs : List V} {ps : List SP} (h : SqL K H a xs) (t : Ts K H ff xs (ps.map pr)) (q : ∀ ys p, Ts K H ff ys ((srtP ps).map pr) → H p = none → Q (.ref p) (upd H p (.lst ys))) : rSortP K [.ref a] H Q := ⟨a, xs, ps, rfl, h, t, q⟩
end TU

set_option Elab.async false
set_option linter.all false
set_option maxRecDepth 100000
namespace TU
open PySem PySem.Spec PyProof.Rows L2
open PySem.SeqAt PySem.MeetsSeq PySem.MeetsSeq2 PySem.MeetsSeq3 PySem.SeqRoads2
open PySem.AutoSeq1 (wpAny_loadPart')
/-! ### houses told to be equal, in a pair with a list -/
theorem ne_tupIn {prog : Program} {w : World} (l b : Addr) (xs ys : Array Value) (n m : Nat) (dx dy : Option Addr) (sx sy : Array (Option Value)) : MeetsIn prog w (Builtin.«tuple.__ne__» ⟨[.ref l, .ref b], []⟩)
    (fun A R s => s.heap.get? l = some { cls := .type "tuple", dict := dx, data := .seq xs n, slots := sx } ∧ s.heap.get? b = some { cls := .type "tuple", dict := dy, data := .seq ys m, slots := sy } ∧ xs.size = ys.size ∧
      (∀ j (h1 : j < xs.size) (h2 : j < ys.size), EqIn prog w A.in1 s xs[j] ys[j] true) ∧ R (.ok (.ret (.bool false))) s) :=
  .of_wp fun A R s h => by
    obtain ⟨hp, g, d, tk, os⟩ := s
    obtain ⟨hl, hb, hsz, he, h⟩ := h
    have f2 := AutoSeq1.sub_tuple_tuple
    have hZ : (xs.toList.zip ys.toList).length = xs.size := by simp [hsz]
    wp_walk using wpAny_loadPart' hl, wpAny_loadPart' hb, wpAny_forIn_list _ (fun rest c z => c.1 = none ∧ z = ⟨hp, g, d, tk, os⟩ ∧ ∃ i, rest = (xs.toList.zip ys.toList).drop i) _
    case turn =>
      rintro ⟨y, x⟩ rest c z ⟨hc, rfl, i, hz⟩
      have hi : i < (xs.toList.zip ys.toList).length := by
        rcases Nat.lt_or_ge i (xs.toList.zip ys.toList).length with q | q
        · exact q
        · rw [List.drop_of_length_le q] at hz
          cases hz
      have h1 : i < xs.size := hZ ▸ hi
      have h2 : i < ys.size := hsz ▸ h1
      rw [List.drop_eq_getElem_cons hi] at hz
      injection hz with hyx hrest
      have e1 : y = xs[i] := by simpa using congrArg Prod.fst hyx
      have e2 : x = ys[i] := by simpa using congrArg Prod.snd hyx
      subst e1 e2
      refine wpAny_bind (he i h1 h2 _ _ ?_)
      wp_walk
      exact ⟨rfl, rfl, i + 1, hrest⟩
    case fin =>
      rintro ⟨c1, c2⟩ z ⟨hc, rfl, i, hz⟩
      simp only at hc
      subst hc
      wp_walk
      exact ⟨_, rfl, by simpa [Builtin.Tuple.tupleCompareSizes, hsz] using h⟩
    case h => exact ⟨rfl, rfl, 0, rfl⟩
theorem ne_tupsT {prog : Program} {w : World} {A : Around} {E : Value → Shared → Prop} {s : Shared} {l b : Addr} {xs ys : Array Value} {n : Nat} {Q : Value → Shared → Prop} (hl : s.heap.IsTuple l xs) (hb : s.heap.IsTuple b ys) (hsz : xs.size = ys.size)
    (t : ∀ j (h1 : j < xs.size) (h2 : j < ys.size), PySem.W.EqTree prog w s n xs[j] ys[j] true) (hu : A.units + (n + 1) < cLine) (h : Q (.bool false) s) : wpAny (model prog w) A (compareOp .NotEq (.ref l) (.ref b)) Q E s := by
  obtain ⟨⟨cls, dd, data, sl⟩, ho, hc, k, hd⟩ := id hl
  obtain ⟨⟨cls2, dd2, data2, sl2⟩, ho2, hc2, k2, hd2⟩ := id hb
  simp only at hc hd hc2 hd2
  subst hc hd hc2 hd2
  exact wpAny_richCompare_same_room (T := "tuple") (op := .NotEq) ⟨_, ho, rfl⟩ ⟨_, ho2, rfl⟩ F.slot_tuple_ne (call_meetsIn F.slot_tuple_ne ⟨_, ho, rfl⟩ F.entry_tuple_ne (F.args_tuple_ne_2 _ _) (ne_tupIn l b xs ys k k2 dd dd2 sl sl2)
    ⟨ho, ho2, hsz, fun j h1 h2 => (t j h1 h2).at A.in1 (by show A.units + 1 + _ < cLine; omega), show Value.bool false ≠ Value.notImplemented ∧ Q (.bool false) s from ⟨(fun z => nomatch z), h⟩⟩) (by omega)
theorem kv_mem {vk : List (Key × V)} {va : List (Key × Value)} (r : KV vk va) : ∀ {k : Key} {v : Value}, (k, v) ∈ va → ∃ x, (k, x) ∈ vk ∧ RelV x v := by
  unfold KV at r
  induction r with
  | nil => exact fun m => nomatch m
  | @cons p q ps qs h t ih =>
    intro k v m
    obtain ⟨e1, e2⟩ := h
    rcases List.mem_cons.mp m with c | c
    · rw [← c] at e1 e2
      obtain ⟨k2, x⟩ := p
      have e3 : k2 = k := e1
      subst e3
      exact ⟨x, List.mem_cons_self, e2⟩
    · obtain ⟨x, m2, rx⟩ := ih c
      exact ⟨x, List.mem_cons_of_mem _ m2, rx⟩
theorem Tk.mem {K : PySem.W.Frag} {H : Hp} {P : Addr → Prop} : ∀ {vk : List (Key × V)} {ks : List (Key × Tr)} {k : Key} {x : V}, Tk K H P vk ks → (k, x) ∈ vk → ∃ d, (k, d) ∈ ks ∧ T K H P x d
  | _, _, _, _, .nil, m => nomatch m
  | _, _, k, x, .cons h t, m => by
    rcases List.mem_cons.mp m with c | c
    · cases c
      exact ⟨_, List.mem_cons_self, h⟩
    · obtain ⟨d, m2, td⟩ := Tk.mem t c
      exact ⟨d, List.mem_cons_of_mem _ m2, td⟩
section
variable {X : Cx} {pins : List (Addr × Obj)} {σ : L2.St} {H : Hp} {s : Shared} {P P' : Addr → Prop}
theorem tree_leaf (I : Inv X pins σ H s) {x y : V} {v u : Value} {d : Tr} (hx : T X.K H P x d) (hy : T X.K H P' y d) (n : nod d = true) (m : dep d ≤ 60) (rx : RelV x v) (ry : RelV y u) : PySem.W.EqTree X.prog X.w s 60 v u true := by
  obtain ⟨as, q1, _⟩ := T.reads I d x v hx rx
  obtain ⟨bs, q2, _⟩ := T.reads I d y u hy ry
  refine .leaf fun A hu => ?_
  have z := SeqAt.eqAt_plain _ _ A s v u _ _ q1 q2 (plain_py d n) (plain_py d n) (by
    rw [depth_py, Nat.min_self]
    omega)
  rw [show PyData.eqv (py d) (py d) = true from eqb_refl n] at z
  exact z
theorem tree_dict (I : Inv X pins σ H s) {a b : Addr} {vk vl : List (Key × V)} {ks ls : List (Key × Tr)} {n : Nat} (ha : Rd H a (.dK vk)) (hb : Rd H b (.dK vl)) (ta : Tk X.K H P vk ks) (tb : Tk X.K H P' vl ls) (hl : ks.length = ls.length) (ne : a ≠ b)
    (hs : ∀ k d x v, (k, d) ∈ ks → T X.K H P x d → RelV x v → ∃ e, getD ls k = some e ∧ ∀ y u, T X.K H P' y e → RelV y u → PySem.W.EqTree X.prog X.w s n v u true) : PySem.W.EqTree X.prog X.w s (n + 1) (.ref a) (.ref b) true := by
  obtain ⟨_, ya, va, ra, da⟩ := dk_rd I.hok ha
  obtain ⟨_, yb, vb, rb, db⟩ := dk_rd I.hok hb
  have get : ∀ k v, (k, v) ∈ va → ∃ y u, valueAt vb k = some u ∧ RelV y u ∧ PySem.W.EqTree X.prog X.w s n v u true := fun k v m => by
    obtain ⟨x, m2, rx⟩ := kv_mem ra m
    obtain ⟨d, m3, td⟩ := Tk.mem ta m2
    obtain ⟨e, g, f⟩ := hs k d x v m3 td rx
    obtain ⟨y, z1, z2⟩ := tb.gets g
    have rr := rb.val k
    rw [z1] at rr
    obtain ⟨u, hu, ru⟩ := rr.some_of
    exact ⟨y, u, hu, ru, f y u z2 ru⟩
  have tr : PySem.W.EqTree X.prog X.w s (n + 1) (.ref a) (.ref b) (va.length == vb.length && va.all fun p => (valueAt vb p.1).isSome && true) :=
    .dicts (e := fun _ => true) ne ya yb da db fun k v y m hv => by
      obtain ⟨_, u, hu, _, t⟩ := get k v m
      rw [hv] at hu
      cases hu
      exact t
  have e1 : va.length = vb.length := by rw [← ra.length, ta.length, hl, ← tb.length, rb.length]
  have e2 : (va.all fun p => (valueAt vb p.1).isSome && true) = true := by
    rw [List.all_eq_true]
    intro p m
    obtain ⟨_, u, hu, _⟩ := get p.1 p.2 m
    rw [hu]
    rfl
  rw [e1, e2] at tr
  simpa using tr
/-- two houses, equal up to the order of names -/
theorem tree_house (I : Inv X pins σ H s) {a b : Addr} {h g : Hs} (ta : T X.K H P (.ref a) (.dic (hK h))) (tb : T X.K H P' (.ref b) (.dic (hK g))) (dis : ∀ x, P x → ¬ P' x) (wh : Wf h) (wg : Wf g) (sm : Sml h) (e : cpH h = cpH g) : PySem.W.EqTree X.prog X.w s 62 (.ref a) (.ref b) true := by
  obtain ⟨a', vk, ea, pa, ra, ka⟩ := ta.dicAt
  cases ea
  obtain ⟨b', vl, eb, pb, rb, kb⟩ := tb.dicAt
  cases eb
  refine tree_dict (n := 61) I ra rb ka kb ?_ (fun z => dis a pa (by rw [z]; exact pb)) fun k d x v m tx rx => ?_
  · unfold hK
    rw [List.length_map, List.length_map, ← len_cp h, e, len_cp]
  · obtain ⟨p, hp, ep⟩ := List.mem_map.mp m
    cases ep
    have l1 : lk h p.1 = some p.2 := lk_of_mem wh.nd hp
    obtain ⟨t2, l2, ho⟩ := cp_lk e l1
    refine ⟨.dic (tK t2), by rw [get_hK, l2]; rfl, fun y u ty ry => ?_⟩
    obtain ⟨q, es, ex, pq, rq, kq⟩ := tx.dicAt
    subst ex
    obtain ⟨q2, es2, ey, pq2, rq2, kq2⟩ := ty.dicAt
    subst ey
    have ev : v = .ref q := rx
    have eu : u = .ref q2 := ry
    subst ev eu
    have wt := wh.tab p hp
    refine tree_dict (n := 60) I rq rq2 kq kq2 ?_ (fun z => dis q pq (by rw [z]; exact pq2)) fun k d x v m tx rx => ?_
    · unfold tK
      rw [List.length_map, List.length_map, ← len_ord p.2, ho, len_ord]
    · obtain ⟨r, hr, er⟩ := List.mem_map.mp m
      cases er
      have l3 : lk p.2 r.1 = some r.2 := lk_of_mem wt.1 hr
      rw [ord_lk ho] at l3
      exact ⟨r.2, by rw [get_tK, l3], fun y u ty ry => tree_leaf I tx ty (nod_of_imm (wt.2 r hr)) (sm p hp r hr) rx ry⟩
end
/-- (house, list) != (house, list), both equal -/
def rNeH (K : PySem.W.Frag) : R2 := fun x y H Q => ∃ (p q a b : Addr) (v u : V) (h g : Hs) (d : Tr) (N1 N2 M1 M2 : Addr → Prop), x = .ref p ∧ y = .ref q ∧ SqT K H p [.ref a, v] ∧ SqT K H q [.ref b, u] ∧ T K H N1 (.ref a) (.dic (hK h)) ∧ T K H N2 (.ref b) (.dic (hK g)) ∧
  (∀ z, N1 z → ¬ N2 z) ∧ Wf h ∧ Wf g ∧ Sml h ∧ cpH h = cpH g ∧ T K H M1 v d ∧ T K H M2 u d ∧ nod d = true ∧ dep d ≤ 60 ∧ Q (.bl false) H
theorem op_neH {X : Cx} (hu : X.A.units + 64 < cLine) : OpR X (compareOp .NotEq) (rNeH X.K) := by
  intro pins s σ H x y v u Q I rx ry h
  obtain ⟨p, q, a, b, v1, u1, h, g, d, N1, N2, M1, M2, rfl, rfl, sp, sq, ta, tb, dis, wh, wg, sm, e, td, te, nd, dd, k⟩ := h
  cases (show v = Value.ref p from rx)
  cases (show u = Value.ref q from ry)
  obtain ⟨its, r1, t1, _⟩ := I.tuple sp
  obtain ⟨jts, r2, t2, _⟩ := I.tuple sq
  obtain ⟨i1, i2, rfl, ri1, ri2⟩ := vals2 r1
  obtain ⟨j1, j2, rfl, rj1, rj2⟩ := vals2 r2
  have ei : i1 = Value.ref a := ri1
  have ej : j1 = Value.ref b := rj1
  subst ei ej
  have tr := tree_house I ta tb dis wh wg sm e
  have tl := tree_leaf I td te nd dd ri2 rj2
  refine ne_tupsT (n := 62) (xs := #[Value.ref a, i2]) (ys := #[Value.ref b, j2]) t1 t2 rfl (fun j h1 h2 => ?_) (by omega) ⟨.bl _, H, I, rfl, k⟩
  have t62 : PySem.W.EqTree X.prog X.w s 62 i2 j2 true := by
    refine .leaf fun A hu => ?_
    obtain ⟨as, q1, _⟩ := T.reads I d v1 i2 td ri2
    obtain ⟨bs, q2, _⟩ := T.reads I d u1 j2 te rj2
    have z := SeqAt.eqAt_plain _ _ A s i2 j2 _ _ q1 q2 (plain_py d nd) (plain_py d nd) (by
      rw [depth_py, Nat.min_self]
      omega)
    rw [show PyData.eqv (py d) (py d) = true from eqb_refl nd] at z
    exact z
  match j, h1, h2 with
  | 0, _, _ => exact tr
  | 1, _, _ => exact t62
/-- != of anything, of such pairs too -/
def rNeV (K : PySem.W.Frag) : R2 := fun x y H Q => rNeU K x y H Q ∨ rNeH K x y H Q
theorem k_neV {X : Cx} {K : PySem.W.Frag} (h : X.K = K) (hu : X.A.units + 64 < cLine) : OpR X (compareOp .NotEq) (rNeV K) := h ▸ (op_neU hu).or (op_neH hu)
end TU

set_option Elab.async false
set_option linter.all false
set_option maxRecDepth 100000
namespace TU
open PySem PySem.Spec PyProof.Rows L2
/-! ### merges -/
section
variable {K : PySem.W.Frag} {H : Hp} {Q : VK}
theorem q_isB {a b : Bool} (q : Q (.bl (decide (a = b))) H) : rIsB (.bl a) (.bl b) H Q := ⟨a, b, rfl, rfl, q⟩
theorem q_notB {a b : Bool} (q : Q (.bl (!decide (a = b))) H) : rNotB (.bl a) (.bl b) H Q := ⟨a, b, rfl, rfl, q⟩
theorem q_gtup {σ : L2.St} {n : Nat} {t : TGs} {a : Addr} {xs : List V} {R : L2.St → Hp → Prop} (hs : SqT K H a xs) (hn : xs.length = n) (h : t xs σ H R) : gTup K n t (.ref a) σ H R := ⟨a, xs, rfl, hs, hn, h⟩
theorem q_isiBl {b : Bool} (q : Q (.bl true) H) : rIsi K [.bl b, .ty "bool"] H Q := ⟨.bl b, .ty "bool", .type "bool", .type "bool", true, rfl, .ty _, .base (.bl b), kit_ty (by decide +kernel), q⟩
theorem q_gcons {σ : L2.St} {t : TG} {u : TGs} {v : V} {r : List V} {R : L2.St → Hp → Prop} (h : t v σ H fun σ' H' => u r σ' H' R) : gCons t u (v :: r) σ H R := ⟨v, r, rfl, h⟩
theorem q_gnil {σ : L2.St} {R : L2.St → Hp → Prop} (h : R σ H) : gNil [] σ H R := ⟨rfl, h⟩
end
theorem eqb_strs : ∀ (xs ys : List Str), eqb (.lst (xs.map Tr.str)) (.lst (ys.map Tr.str)) = decide (xs = ys) := by
  have key : ∀ xs ys : List Str, PyData.eqvAll (pys (xs.map Tr.str)) (pys (ys.map Tr.str)) = decide (xs = ys) := by
    intro xs
    induction xs with
    | nil =>
      intro ys
      cases ys <;> simp [pys, PyData.eqvAll]
    | cons x xs ih =>
      intro ys
      cases ys with
      | nil => simp [pys, PyData.eqvAll]
      | cons y ys =>
        simp only [List.map_cons, pys, py, PyData.eqvAll, PyData.eqv, ih ys]
        by_cases h : x = y <;> by_cases h' : xs = ys <;> simp [h, h']
  intro xs ys
  unfold eqb
  simp only [py, PyData.eqv]
  exact key xs ys
theorem q_eqSs {K : PySem.W.Frag} {H : Hp} {Q : VK} {p q : Addr} {ss ts : List Str} (hp : SqL K H p (ss.map V.str)) (hq : SqL K H q (ts.map V.str)) (k : Q (.bl (decide (ss = ts))) H) : rEqU K (.ref p) (.ref q) H Q := by
  refine q_eqT (P := fun _ => True) (d := .lst (ss.map Tr.str)) (e := .lst (ts.map Tr.str)) (.lst trivial hp (Ts.strs ss)) (.lst trivial hq (Ts.strs ts)) (by simp only [TU.nod]; exact nods_strs ss) (by simp only [TU.nod]; exact nods_strs ts) (by simp only [TU.dep]; rw [deps_strs]; decide) ?_
  rw [eqb_strs]
  exact k
/-- a name is met -/
def addN (l : List Str) (n : Str) : List Str := if n ∈ l then l else l ++ [n]
def uni (ts : List Tab) : List Str := ts.foldl (fun acc t => (nms t).foldl addN acc) []
theorem addN_mem {l : List Str} {n x : Str} : x ∈ addN l n ↔ x ∈ l ∨ x = n := by
  unfold addN
  by_cases h : n ∈ l
  · rw [if_pos h]
    exact ⟨.inl, fun z => z.elim id fun e => by rw [e]; exact h⟩
  · rw [if_neg h, List.mem_append, List.mem_singleton]
theorem addN_nd {l : List Str} {n : Str} (h : l.Nodup) : (addN l n).Nodup := by
  unfold addN
  by_cases c : n ∈ l
  · rw [if_pos c]
    exact h
  · rw [if_neg c]
    exact List.nodup_append.mpr ⟨h, by simp, fun a ha b hb e => c (by rw [List.mem_singleton] at hb; rw [← hb, ← e]; exact ha)⟩
theorem foldN_mem : ∀ {ns l : List Str} {x : Str}, x ∈ ns.foldl addN l ↔ x ∈ l ∨ x ∈ ns
  | [], l, x => by simp
  | n :: ns, l, x => by
    rw [List.foldl_cons, foldN_mem, addN_mem, List.mem_cons, or_assoc]
theorem foldN_nd : ∀ {ns l : List Str}, l.Nodup → (ns.foldl addN l).Nodup
  | [], l, h => h
  | n :: ns, l, h => foldN_nd (ns := ns) (addN_nd h)
theorem foldT_mem : ∀ {ts : List Tab} {l : List Str} {x : Str}, x ∈ ts.foldl (fun acc t => (nms t).foldl addN acc) l ↔ x ∈ l ∨ ∃ t ∈ ts, x ∈ nms t
  | [], l, x => by simp
  | t :: ts, l, x => by
    rw [List.foldl_cons, foldT_mem, foldN_mem, or_assoc]
    refine or_congr Iff.rfl ⟨fun z => ?_, fun z => ?_⟩
    · rcases z with h | ⟨u, hu, hx⟩
      · exact ⟨t, List.mem_cons_self, h⟩
      · exact ⟨u, List.mem_cons_of_mem _ hu, hx⟩
    · obtain ⟨u, hu, hx⟩ := z
      rcases List.mem_cons.mp hu with e | hu
      · rw [e] at hx
        exact .inl hx
      · exact .inr ⟨u, hu, hx⟩
theorem foldT_nd : ∀ {ts : List Tab} {l : List Str}, l.Nodup → (ts.foldl (fun acc t => (nms t).foldl addN acc) l).Nodup
  | [], l, h => h
  | t :: ts, l, h => foldT_nd (ts := ts) (foldN_nd h)
theorem uni_mem {ts : List Tab} {x : Str} : x ∈ uni ts ↔ ∃ t ∈ ts, x ∈ nms t := by
  unfold uni
  rw [foldT_mem]
  simp
theorem uni_nd (ts : List Tab) : (uni ts).Nodup := foldT_nd List.nodup_nil
theorem addN_len (l : List Str) (n : Str) : (addN l n).length ≤ l.length + 1 := by
  unfold addN
  by_cases h : n ∈ l
  · rw [if_pos h]
    omega
  · rw [if_neg h, List.length_append]
    exact Nat.le_refl _
theorem foldN_len : ∀ (ns l : List Str), (ns.foldl addN l).length ≤ l.length + ns.length
  | [], l => Nat.le_refl _
  | n :: ns, l => by
    have h1 := foldN_len ns (addN l n)
    have h2 := addN_len l n
    rw [List.foldl_cons, List.length_cons]
    omega
theorem keys_putN {kvs : List (Key × V)} {l : List Str} {n : Str} {v : V} (h : kvs.map (·.1) = l.map Sum.inr) : (putK kvs (.inr n) v).map (·.1) = (addN l n).map Sum.inr := by
  by_cases c : n ∈ l
  · have hm : (Sum.inr n : Key) ∈ kvs.map (·.1) := by rw [h]; exact inr_mem.mpr c
    unfold putK addN
    rw [if_pos c, if_pos, ← h]
    · rw [List.map_map]
      refine List.map_congr_left fun p hp => ?_
      show (if _ then _ else _ : Key × V).1 = p.1
      split
      · rename_i e
        simpa using Eq.symm (by simpa using e)
      · rfl
    · rw [List.any_eq_true]
      obtain ⟨p, hp, e⟩ := List.mem_map.mp hm
      exact ⟨p, hp, by simpa using e⟩
  · have hm : (Sum.inr n : Key) ∉ kvs.map (·.1) := by rw [h]; exact fun z => c (inr_mem.mp z)
    rw [putK_fresh hm]
    unfold addN
    rw [if_neg c, List.map_append, List.map_append, h]
    rfl
/-- a table is put, its dict known already -/
theorem Own.push2 {K : PySem.W.Frag} {H : Hp} {N N' : Addr → Prop} {r q : Addr} {h : Hs} {k : Str} {t : Tab} {es : List (Key × V)} (o : Own K N' H r h) (nk : k ∉ nms h) (hq' : ¬ N' q) (sub : ∀ b, N' b → N b) (hq : N q) (e : H q = some (.dK es)) (tk : Tk K H ff es (tK t)) :
    ∃ kvs, H r = some (.dK kvs) ∧ kvs.length = h.length ∧ Own K N (upd H r (.dK (putK kvs (.inr k) (.ref q)))) r (h ++ [(k, t)]) := by
  obtain ⟨qs, kvs, h1, h2, h3, h4⟩ := o.ex
  have nd := List.nodup_cons.mp h3
  have hr : r ≠ q := fun z => hq' (by rw [← z]; exact h4 r List.mem_cons_self)
  have nq' : q ∉ qs := fun m => hq' (h4 q (List.mem_cons_of_mem _ m))
  refine ⟨kvs, h1, h2.len, qs ++ [q], _, upd_same, ?_, ?_, fun a m => ?_⟩
  · rw [putK_fresh (by rw [h2.keys]; exact fun z => nk (inr_mem.mp z))]
    refine (h2.snoc (k := k) e tk).keep keeps_upd (no_tup h1) fun a m z => ?_
    rw [z] at m
    rcases List.mem_append.mp m with m | m
    · exact nd.1 m
    · exact hr (List.mem_singleton.mp m)
  · refine List.nodup_cons.mpr ⟨fun m => ?_, List.nodup_append.mpr ⟨nd.2, by simp, fun a ha b hb e => nq' (by
      rw [List.mem_singleton] at hb
      rw [← hb, ← e]
      exact ha)⟩⟩
    rcases List.mem_append.mp m with m | m
    · exact nd.1 m
    · exact hr (List.mem_singleton.mp m)
  · rcases List.mem_cons.mp m with e | m
    · rw [e]
      exact sub _ (h4 r List.mem_cons_self)
    · rcases List.mem_append.mp m with m | m
      · exact sub _ (h4 a (List.mem_cons_of_mem _ m))
      · rw [List.mem_singleton.mp m]
        exact hq
/-- == of two houses, table by table -/
def eqTb (g : Hs) (p : Str × Tab) : Bool := match lk g p.1 with
  | some t => eqk (tK p.2) (tK t)
  | none => false
def eqHs (h g : Hs) : Bool := decide (srt (nms h) = srt (nms g)) && h.all (eqTb g)
/-- an entry, or none -/
abbrev En := Option Tr
def enc : En → Tr
  | some d => .tup [.bl true, d]
  | none => .tup [.bl false, .non]
def eqO (a b : En) : Bool := eqb (enc a) (enc b)
def set1 (b o t : En) : Bool × En := if eqO o t = true ∨ eqO t b = true then (false, o) else if eqO o b = true then (false, t) else (true, b)
def ent (h : Hs) (k n : Str) : En := (lk h k).bind fun t => lk t n
def tabs (k : Str) (gs : List Hs) : List Tab := gs.map fun g => (lk g k).getD []
def mN (b o t : Hs) (k : Str) : List Str := srt (uni (tabs k [b, o, t]))
def mS (b o t : Hs) (k n : Str) : Bool × En := set1 (ent b k n) (ent o k n) (ent t k n)
def mTab (b o t : Hs) (k : Str) : Tab := (mN b o t k).filterMap fun n => (mS b o t k n).2.map fun d => (n, d)
def mCon (b o t : Hs) (k : Str) : List SP := (mN b o t k).filterMap fun n => if (mS b o t k n).1 = true then some (k, n) else none
def mHs (b o t : Hs) : Hs := (nms b).map fun k => (k, mTab b o t k)
def mCs (b o t : Hs) : List SP := (nms b).flatMap fun k => mCon b o t k
theorem fm_one {α β : Type} (f : α → Option β) (x : α) : [x].filterMap f = (f x).toList := by
  cases e : f x <;> simp [e]
/-- a test, what follows it written once -/
theorem q_then {c : TT} {t u : TS} {D : Ends} {σ : L2.St} {H : Hp} (P : L2.St → Hp → Prop) (h3 : ∀ σ' H', P σ' H' → D.nx σ' H') (h1 : (∀ σ' H', P σ' H' → D.nx σ' H') → tIfS c t u D σ H) : tIfS c t u D σ H := h1 h3
/-- a statement under a test, what follows written once -/
theorem q_opt {c : Bool} {te : TE} {D : Ends} {σ : L2.St} {H : Hp} (P : Hp → Prop) (h3 : ∀ H', P H' → D.nx σ H') (h1 : (∀ H', P H' → D.nx σ H') → c = true → te σ H fun _ H' => D.nx σ H') (h2 : c = false → P H) : if c = true then tDrop te D σ H else tNext D σ H := by
  cases e : c with
  | true => exact q_t (h1 h3 e)
  | false => exact q_f (h3 H (h2 e))
theorem nms_fm (g : Str → En) : ∀ ns : List Str, (nms (ns.filterMap fun x => (g x).map fun d => (x, d))).Sublist ns
  | [] => List.Sublist.refl _
  | n :: ns => by
    rw [List.filterMap_cons]
    cases e : g n with
    | none => exact (nms_fm g ns).cons n
    | some d => exact (nms_fm g ns).cons_cons n
theorem mN_nd (b o t : Hs) (k : Str) : (mN b o t k).Nodup := (srt_perm _).nodup_iff.mpr (uni_nd _)
theorem uni_len : ∀ (ts : List Tab) (l : List Str), (ts.foldl (fun acc t => (nms t).foldl addN acc) l).length ≤ l.length + (ts.map List.length).sum
  | [], l => Nat.le_refl _
  | t :: ts, l => by
    have h1 := uni_len ts ((nms t).foldl addN l)
    have h2 := foldN_len (nms t) l
    rw [nms_len] at h2
    rw [List.foldl_cons, List.map_cons, List.sum_cons]
    omega
theorem nms_mHs (b o t : Hs) : nms (mHs b o t) = nms b := by
  unfold mHs nms
  rw [List.map_map]
  exact List.map_id' _
end TU

set_option Elab.async false
set_option linter.all false
set_option maxRecDepth 100000
namespace TU
open PySem PySem.Spec PyProof.Rows L2
/-! ### repr of trees with lists and dicts -/
/-- sys.modules stands in the heap, a dict -/
structure SysM (h : Heap) : Prop where
  ex : ∃ o es n, h.get? sysModules = some o ∧ o.data = .dict es n
theorem SysM.no_seq {h : Heap} (x : SysM h) {o : Obj} {xs : Array Value} {n : Nat} (e : h.get? sysModules = some o) (d : o.data = .seq xs n) : False := by
  obtain ⟨o2, es, m, e2, d2⟩ := x.ex
  rw [e] at e2
  cases e2
  rw [d] at d2
  cases d2
section
variable {X : Cx} {pins : List (Addr × Obj)} {σ : L2.St} {H : Hp} {s : Shared} {P : Addr → Prop}
theorem SysM.on (x : SysM X.base) (I : Inv X pins σ H s) : SysM s.heap := by
  obtain ⟨o, es, n, e, d⟩ := x.ex
  exact ⟨o, es, n, I.bk _ _ e, d⟩
mutual
/-- a tree is read, and sys.modules is none of its objects: that is a dict of the module's own -/
theorem T.reads2 (I : Inv X pins σ H s) (hS : SysM s.heap) : ∀ (d : Tr) (v : V) (u : Value), T X.K H P v d → RelV v u → ∃ as, Reads s.heap u (py d) as ∧ sysModules ∉ as
  | .non, _, _, h, r => by
    cases h
    cases r
    exact ⟨_, Reads.none, fun h => nomatch h⟩
  | .bl b, _, _, h, r => by
    cases h
    cases r
    exact ⟨_, Reads.bool b, fun h => nomatch h⟩
  | .int i, _, _, h, r => by
    cases h
    obtain ⟨t, rfl⟩ := r
    exact ⟨_, Reads.int i t, fun h => nomatch h⟩
  | .str x, _, _, h, r => by
    cases h
    obtain ⟨t, rfl⟩ := r
    exact ⟨_, Reads.str x t, fun h => nomatch h⟩
  | .lst ds, _, _, h, r => by
    cases h with
    | lst p hs ha =>
      cases r
      obtain ⟨its, rv, ⟨o, n, ho, hc, _, hd⟩, _⟩ := I.list hs
      obtain ⟨as, hr, hn⟩ := Ts.reads2 I hS ds _ its ha rv
      refine ⟨_, Reads.list ho hc hd hr, fun q => ?_⟩
      rcases List.mem_cons.mp q with e | q
      · exact hS.no_seq (by rw [e]; exact ho) hd
      · exact hn q
  | .tup ds, _, _, h, r => by
    cases h with
    | tup hs ha =>
      cases r
      obtain ⟨its, rv, ⟨o, ho, hc, n, hd⟩, _⟩ := I.tuple hs
      obtain ⟨as, hr, hn⟩ := Ts.reads2 I hS ds _ its ha rv
      exact ⟨_, Reads.tuple ho hc hd hr, hn⟩
  | .dic ds, _, _, h, r => by
    cases h with
    | @dic a kvs _ p hs ha =>
      cases r
      obtain ⟨z, hd, vs, rel, o, es, ep, ho, hx, hdat, hk, hp, nd⟩ := dk_rd I.hok hs
      have hkeys : vs.map (·.1) = ds.map (·.1) := rel.keys.symm.trans ha.keys
      obtain ⟨bs, hr, hn⟩ := Tk.reads2 I hS ds kvs vs ha rel
      have e2 : es.toList.map (·.val) = vs.map (·.2) := vals_of_pairs hp
      rw [← e2, ← pyk_snd] at hr
      have hd' : a ≠ sysModules := by simpa using hd
      refine ⟨_, Reads.dict ho hx.1 hdat (reads_keys hp hkeys) hr, ?_⟩
      simp only [List.cons_append, List.nil_append, List.mem_cons, not_or]
      exact ⟨fun z => hd' z.symm, hn⟩
theorem Ts.reads2 (I : Inv X pins σ H s) (hS : SysM s.heap) : ∀ (ds : List Tr) (vs : List V) (us : List Value), Ts X.K H P vs ds → Vals vs us → ∃ as, ReadsAll s.heap us (pys ds) as ∧ sysModules ∉ as
  | [], _, _, h, r => by
    cases h
    cases r
    exact ⟨_, ReadsAll.nil, fun h => nomatch h⟩
  | d :: ds, _, _, h, r => by
    cases h with
    | cons h1 h2 =>
      cases r with
      | cons r1 r2 =>
        obtain ⟨as, q1, n1⟩ := T.reads2 I hS d _ _ h1 r1
        obtain ⟨bs, q2, n2⟩ := Ts.reads2 I hS ds _ _ h2 r2
        refine ⟨_, ReadsAll.cons q1 q2, ?_⟩
        rw [List.mem_append, not_or]
        exact ⟨n1, n2⟩
theorem Tk.reads2 (I : Inv X pins σ H s) (hS : SysM s.heap) : ∀ (ds : List (Key × Tr)) (kvs : List (Key × V)) (vs : List (Key × Value)), Tk X.K H P kvs ds → KV kvs vs → ∃ as, ReadsAll s.heap (vs.map (·.2)) (pys (ds.map (·.2))) as ∧ sysModules ∉ as
  | [], _, _, h, r => by
    cases h
    cases r
    exact ⟨_, ReadsAll.nil, fun h => nomatch h⟩
  | d :: ds, _, _, h, r => by
    cases h with
    | cons h1 h2 =>
      cases r with
      | cons r1 r2 =>
        obtain ⟨as, q1, n1⟩ := T.reads2 I hS _ _ _ h1 r1.2
        obtain ⟨bs, q2, n2⟩ := Tk.reads2 I hS ds _ _ h2 r2
        refine ⟨_, ReadsAll.cons q1 q2, ?_⟩
        rw [List.mem_append, not_or]
        exact ⟨n1, n2⟩
end
end
def rReprS (K : PySem.W.Frag) : List V → Hp → VK → Prop := fun xs H Q => ∃ P a d, xs = [.ref a] ∧ T K H P (.ref a) d ∧ (py d).showable = true ∧ dep d ≤ 60 ∧ (py d).shown.length ≤ sizeLine ∧ Q (.str (py d).shown) H
theorem call_reprS {X : Cx} (hS : SysM X.base) (hg : X.A.guards = some []) (hu : X.A.units + 64 < cLine) : CallR X (.builtin "repr") (rReprS X.K) := by
  intro pins s σ H xs us Q I r h
  obtain ⟨P, a, d, rfl, ht, hs, hd, hz, q⟩ := h
  obtain ⟨u, rfl, rx⟩ := vals1 r
  cases (show u = Value.ref a from rx)
  obtain ⟨as, r1, na⟩ := T.reads2 I (hS.on I) d _ _ ht rfl
  exact repr_of_reads' r1 hs (fun _ => na) hg (by rw [depth_py]; omega) (fun _ _ e => e) (fun h' u tk k => ⟨.str _, H, I.kept (t' := tk) k, ⟨u, rfl⟩, q⟩) hz
theorem k_reprS {X : Cx} {K : PySem.W.Frag} (h : X.K = K) (hS : SysM X.base) (hg : X.A.guards = some []) (hu : X.A.units + 64 < cLine) : CallR X (.builtin "repr") (rReprS K) := h ▸ call_reprS hS hg hu
theorem q_reprS {K : PySem.W.Frag} {H : Hp} {Q : VK} {N : Addr → Prop} {a : Addr} {n m : Nat} {j : Bool} {d : Tr} (t : T K H N (.ref a) d) (v : Vw n m j d) (hn : n ≤ 100000) (hm : m ≤ 60) (q : Q (.str (py d).shown) H) : rReprS K [.ref a] H Q :=
  ⟨N, a, d, rfl, t, v.sh, Nat.le_trans v.dp hm, Nat.le_trans v.len (Nat.le_trans (show 15 * n + 13 ≤ 15 * 100000 + 13 by omega) (by decide)), q⟩
/-- the outermost call, where sys.modules is known to stand in the base -/
theorem sysM_of {l : PySem.W.OpenLaw} {q : Program} {loose : List Str} {XP : (Str → Option Value) → Heap → Prop} {w : World} {z0 : Shared} {mg mb : Str → Option Value} {h : Heap} (G : PySem.W.Ground q loose [] XP w z0 mg mb h) (hi : importsNone q = true) : SysM h := by
  obtain ⟨m, hm, _⟩ := (G.T.seer hi).mods
  obtain ⟨o, es, n, e, d, _⟩ := hm
  exact ⟨o, es, n, e, d⟩
end TU

set_option Elab.async false
set_option linter.all false
set_option maxRecDepth 100000
namespace TU
open PySem PySem.Spec PyProof.Rows L2
/-! ### sets: what their laying and their walk need, whatever the members -/
def fshO (w : World) : Obj := { cls := .type "set", dict := none, data := .set #[] 0 (.fresh 0 0 (!w.params.followText "set-order")) }
/-- V h v k: the value v bears the member k; M h a L: the set at a has the values and members L -/
structure SetLaw (P : Program) (w : World) {κ : Type} (V : Heap → Value → κ → Prop) (M : Heap → Addr → List (Value × κ) → Prop) : Prop where
  mo : ∀ {h h' a L}, M h a L → (∀ o, h.get? a = some o → h'.get? a = some o) → M h' a L
  vk : ∀ {h h' v x}, V h v x → (∀ b o, h.get? b = some o → h'.get? b = some o) → V h' v x
  nw : ∀ {h a}, h.get? a = some (fshO w) → M h a []
  ad : ∀ {A : Around} {E : Value → Shared → Prop} {s : Shared} {a : Addr} {L : List (Value × κ)} {v : Value} {x : κ} {Q : Bool → Shared → Prop}, M s.heap a L → (∀ z ∈ L, V s.heap z.1 z.2) → V s.heap v x → L.length + 1 < 64 → A.units < cLine →
    (∀ b h' L' tk, Heap.SameBut a s.heap h' → s.toks ≤ tk → M h' a L' → (x ∈ L.map (·.2) → L' = L) → (x ∉ L.map (·.2) → L'.Perm ((v, x) :: L)) → Q b { s with heap := h', toks := tk }) → wpAny (model P w) A (setAdd a v) Q E s
  ot : ∀ {h a L}, M h a L → ∃ o es ep t, h.get? a = some o ∧ o.ExactSet ∧ o.data = .set es ep t ∧ t.fits es.size = true ∧ es.size < scanBound ∧ Ris t.place.toList ∧ (w.params.followText "set-order" = true ∨ t.led = true) ∧ es.toList.map (·.2) = L.map (·.1)
  nd : ∀ {h a L}, M h a L → (L.map (·.2)).Nodup
/-- what came of the first i items -/
structure Gath {κ : Type} (ks : List (Value × κ)) (i : Nat) (L : List (Value × κ)) : Prop where
  sub : ∀ p ∈ L, p ∈ ks.take i
  all : ∀ p ∈ ks.take i, p.2 ∈ L.map (·.2)
  len : L.length ≤ i
section
variable {κ : Type} {ks L L' : List (Value × κ)} {i : Nat} {x : Value × κ}
theorem Gath.old (g : Gath ks i L) (h : ks[i]? = some x) (hm : x.2 ∈ L.map (·.2)) : Gath ks (i + 1) L := by
  refine ⟨fun p hp => ?_, fun p hp => ?_, Nat.le_succ_of_le g.len⟩
  · rw [take_more h]
    exact List.mem_append_left _ (g.sub p hp)
  · rw [take_more h] at hp
    rcases List.mem_append.mp hp with c | c
    · exact g.all p c
    · rw [List.mem_singleton.mp c]
      exact hm
theorem Gath.add (g : Gath ks i L) (h : ks[i]? = some x) (pm : L'.Perm (x :: L)) : Gath ks (i + 1) L' := by
  have mem : ∀ k, k ∈ L'.map (·.2) ↔ k = x.2 ∨ k ∈ L.map (·.2) := fun k => by
    rw [(pm.map (·.2)).mem_iff, List.map_cons, List.mem_cons]
  refine ⟨fun p hp => ?_, fun p hp => ?_, by rw [pm.length_eq]; exact Nat.succ_le_succ g.len⟩
  · rw [take_more h]
    rcases List.mem_cons.mp (pm.mem_iff.mp hp) with c | c
    · rw [c]
      exact List.mem_append_right _ (List.mem_singleton.mpr rfl)
    · exact List.mem_append_left _ (g.sub p c)
  · rw [take_more h] at hp
    refine (mem _).mpr ?_
    rcases List.mem_append.mp hp with c | c
    · exact .inr (g.all p c)
    · exact .inl (by rw [List.mem_singleton.mp c])
end
section
variable {P : Program} {w : World} {κ : Type} {V : Heap → Value → κ → Prop} {M : Heap → Addr → List (Value × κ) → Prop}
/-- the loop of update -/
theorem SetLaw.loop (Z : SetLaw P w V M) {A : Around} {J d : Addr} {fp wr : List Addr} {G : Array GenState → Array GenState → Prop} {n : Nat} {Pv : Nat → Value → Prop} {St : Nat → Shared → Prop} {R : Result → Shared → Prop}
    (Wk : WalksS P w A.in1 J fp wr G n Pv St) (hd : d ∉ fp) (ks : List (Value × κ)) (hn : n = ks.length) (few : ks.length < 64) (val : ∀ i v, Pv i v → ∃ p, ks[i]? = some p ∧ v = p.1)
    (h0 : Heap) (hk : ∀ p ∈ ks, V h0 p.1 p.2) (hd0 : h0.get? d = none) (hw0 : ∀ b ∈ wr, h0.get? b = none) (hu : A.in1.units < cLine) :
    ∀ (m i : Nat) (s : Shared), n - i = m → i ≤ n → St i s → (∀ b o, h0.get? b = some o → s.heap.get? b = some o) → (∃ L, M s.heap d L ∧ Gath ks i L) →
      (∀ s' L, Moved (d :: wr) G s s' → M s'.heap d L → Gath ks n L → (∀ b o, h0.get? b = some o → s'.heap.get? b = some o) → R (.ok (.ret .none)) s') →
      codeAny (model P w) A (.builtin "set.update.loop" ⟨[.ref d, .ref J], []⟩) R s := by
  have dw : d ∉ wr := fun c => hd (Wk.sub _ c)
  have up : ∀ b ∈ wr, b ∈ d :: wr := fun b c => List.mem_cons_of_mem _ c
  have kp : ∀ {s s' : Shared}, Moved wr G s s' → (∀ b o, h0.get? b = some o → s.heap.get? b = some o) → ∀ b o, h0.get? b = some o → s'.heap.get? b = some o := fun mv k b o e =>
    mv.heap b o (fun c => by rw [hw0 b c] at e; cases e) (k b o e)
  intro m
  induction m with
  | zero =>
    rintro i s hm hi st k0 ⟨L, hL, g⟩ fin
    obtain rfl : i = n := by omega
    refine codeAny_builtin PyProof.Rows.F.entry_set_update_loop ?_
    rw [Around.under_plainId PyProof.Rows.F.plain_set_update_loop _]
    show wpAny _ A.in1 (pyNext (.ref J) >>= _) _ _ s
    refine wpAny_bind (Wk.done s _ _ st fun s' mv => ?_)
    show wpAny _ A.in1 (ret Value.none) _ _ s'
    exact wpAny_pure (fin s' L (mv.mono up) (Z.mo hL fun o e => mv.heap d o dw e) g (kp mv k0))
  | succ m ih =>
    rintro i s hm hi st k0 ⟨L, hL, g⟩ fin
    have lt : i < n := by omega
    refine codeAny_builtin PyProof.Rows.F.entry_set_update_loop ?_
    rw [Around.under_plainId PyProof.Rows.F.plain_set_update_loop _]
    show wpAny _ A.in1 (pyNext (.ref J) >>= _) _ _ s
    refine wpAny_bind (Wk.item i s _ _ lt st fun v s' hP st' mv => ?_)
    obtain ⟨p, hp, rfl⟩ := val i v hP
    have k1 := kp mv k0
    have sub : ∀ q ∈ L, q ∈ ks := fun q c => List.mem_of_mem_take (g.sub q c)
    show wpAny _ A.in1 (holding [p.1] (setAdd d p.1) >>= _) _ _ s'
    refine wpAny_bind (wpAny_holding (Z.ad (Z.mo hL fun o e => mv.heap d o dw e) (fun q c => Z.vk (hk q (sub q c)) k1) (Z.vk (hk p (List.mem_of_getElem? hp)) k1) (by have := g.len; omega) hu fun b h' L' tk sb ht hL' c1 c2 => ?_))
    have g' : Gath ks (i + 1) L' := by
      rcases Classical.em (p.2 ∈ L.map (·.2)) with c | c
      · rw [c1 c]
        exact g.old hp c
      · exact g.add hp (c2 c)
    have k2 : ∀ b o, h0.get? b = some o → h'.get? b = some o := fun b o e => (sb.2 b fun c => by rw [c, hd0] at e; cases e).trans (k1 b o e)
    refine wpAny_pure ⟨plainId_quiet PyProof.Rows.F.plain_set_update_loop _, ih (i + 1) _ (by omega) lt (Wk.frame _ s' _ _ st' ht fun b hb o e => ?_) k2 ⟨L', hL', g'⟩ fun s2 L2 mv2 hL2 g2 k3 => ?_⟩
    · exact (sb.2 b fun c => hd (by rw [← c]; exact hb)).trans e
    · refine fin s2 L2 (Moved.trans Wk.gtrans ((mv.mono up).then_heap ht fun b o hb e => ?_) mv2) hL2 g2 k3
      exact (sb.2 b fun c => hb (by rw [c]; exact List.mem_cons_self)).trans e
end
end TU

set_option Elab.async false
set_option linter.all false
set_option maxRecDepth 100000
namespace TU
open PySem PySem.Spec PyProof.Rows L2
section
variable {P : Program} {w : World} {κ : Type} {V : Heap → Value → κ → Prop} {M : Heap → Addr → List (Value × κ) → Prop} {A : Around} {E : Value → Shared → Prop} {s : Shared}
theorem fresh_none (h : Heap) {b : Addr} (hb : h.objs.size ≤ b) : h.get? b = none := by
  cases e : h.get? b with
  | none => rfl
  | some o => exact absurd (Heap.lt_size e) (Nat.not_lt.mpr hb)
theorem get_push (h : Heap) {b : Addr} {o u : Obj} (e : h.get? b = some o) : (h.push u).get? b = some o := Heap.get?_push_of_some _ e
theorem size_push2 (h : Heap) (u : Obj) : (h.push u).objs.size = h.objs.size + 1 := Heap.size_push h u
theorem get_own (h : Heap) {u : Obj} (f : u.isFreed = false := by rfl) : (h.push u).get? h.objs.size = some u := Heap.get?_push_size _ f
set_option maxHeartbeats 3200000 in
/-- set(xs), xs a list -/
theorem SetLaw.call (Z : SetLaw P w V M) {l : Addr} {its : Array Value} (ks : List (Value × κ)) {Q : Value → Shared → Prop} (hh : A.handled = none) (hl : s.heap.IsList l its) (hit : its.toList = ks.map (·.1)) (hk : ∀ p ∈ ks, V s.heap p.1 p.2) (few : ks.length < 64) (hu : A.units + 3 < cLine)
    (fin : ∀ (h' : Heap) (tk : Nat) L, M h' s.heap.objs.size L → Gath ks ks.length L → (∀ b o, s.heap.get? b = some o → h'.get? b = some o) → Q (.ref s.heap.objs.size) { s with heap := h', toks := tk }) :
    wpAny (model P w) A (call (.type "set") [.ref l]) Q E s := by
  have len : its.size = ks.length := by
    have e := congrArg List.length hit
    rwa [Array.length_toList, List.length_map] at e
  obtain ⟨cc, cl, mro⟩ := PySem.F.called_set.mro
  have made := PySem.F.called_set.made
  have sub := PySem.F.called_set.sub
  refine wpAny_call (codeAny_of_tree ?_)
  show wpAny _ _ (callAny (.type "set") ⟨[.ref l], []⟩) _ _ _
  refine wpAny_pure ⟨Code.quiet_builtin _ (by decide +kernel), codeAny_builtin PySem.F.entry_type_call ?_⟩
  rw [Around.under_plain (weight_type_call_type "set" [.ref l] []) rfl]
  have nt := PySem.F.called_set.notType
  have cr := PySem.F.called_set.canCreate
  have tc := PySem.F.typeCall_set_1 (.ref l)
  repeat (any_goals (first | assumption | wp_step))
  refine codeAny_mono (code_set_led1 (.ref l) (E := E) (Q₁ := fun x z => x = .ref s.heap.objs.size ∧ z = { s with heap := s.heap.push (fshO w) }) ⟨rfl, rfl⟩) fun r z hr => ?_
  match r, hr with
  | .error e, hr => exact hr
  | .ok .next, hr => exact hr.elim
  | .ok .brk, hr => exact hr.elim
  | .ok .cont, hr => exact hr.elim
  | .ok (.ret x), ⟨ex, ez⟩ =>
    subst ex ez
    have own := get_own s.heap (u := fshO w)
    have ty : Shared.TypeIs { s with heap := s.heap.push (fshO w) } (.ref s.heap.objs.size) "set" := ⟨_, own, rfl⟩
    have li := PySem.F.called_set.init.lookup
    have bi := PySem.F.called_set.init.bind (.ref s.heap.objs.size)
    repeat (any_goals (first | assumption | wp_step))
    refine codeAny_mono (codeAny_call_builtin (R := wants (fun r z => r = .none ∧ ∃ h' tk L, z = { s with heap := h', toks := tk } ∧ M h' s.heap.objs.size L ∧ Gath ks ks.length L ∧ ∀ b o, s.heap.get? b = some o → h'.get? b = some o) E) PySem.F.called_set.init.plain PySem.F.entry_set_init (check_set_init_1 ty ?_)) fun r z hr => ?_
    · obtain ⟨ol, hol, hcl, nl, hdl⟩ := id hl
      have hol2 := get_push s.heap hol (u := fshO w)
      have sl := PySem.F.sub_list_set
      have sf := PySem.F.sub_list_frozenset
      have ne : (Value.type "list" == Value.type "dict") = false := by decide
      have hl2 : (s.heap.push (fshO w)).IsList l its := ⟨_, hol2, hcl, nl, hdl⟩
      obtain ⟨ocls, od, odata, oslots⟩ := ol
      simp only at hcl hdl
      subst hcl hdl
      unfold Builtin.«set.__init__» noKeywords Builtin.Frozenset.updateFrom
      generalize hy : pyIter = PI
      wp_walk
      subst hy
      refine wpAny_pyIter_list hl2 (wpAny_bind (wpAny_runValue ?_))
      have lt : l < s.heap.objs.size := Heap.lt_size hol
      have sz := size_push2 s.heap (fshO w)
      have nh : A.in1.in1.in1.handled = none := by simp [hh]
      have lne : l ≠ (s.heap.push (fshO w)).objs.size := by
        rw [sz]
        exact Nat.ne_of_lt (Nat.lt_succ_of_lt lt)
      have dn : s.heap.objs.size ∉ [(s.heap.push (fshO w)).objs.size, l] := by
        rw [sz]
        intro c
        rcases List.mem_cons.mp c with c | c
        · exact absurd c (Nat.ne_of_lt (Nat.lt_succ_self _))
        · exact absurd (List.mem_singleton.mp c) (Nat.ne_of_gt lt)
      refine Z.loop ((Walks.list nh _ l lne its).toS) dn ks len few (fun i v hv => ?_) s.heap hk (fresh_none _ (Nat.le_refl _)) (fun b hb => fresh_none _ (by rw [List.mem_singleton.mp hb, sz]; exact Nat.le_succ _)) hu (its.size - 0) 0 _ (by omega) (Nat.zero_le _)
        ⟨⟨_, Heap.get?_push_size _ rfl, rfl, rfl⟩, hl2.push _⟩ (fun b o e => get_push _ (get_push _ e)) ⟨[], Z.nw (get_push _ own), ⟨(fun p hp => nomatch hp), (fun p hp => nomatch hp), Nat.le_refl _⟩⟩ fun z L mv hM g k => ?_
      · have e : its.toList[i]? = some v := by rw [Array.getElem?_toList]; exact hv
        rw [hit] at e
        obtain ⟨p, hp, rfl⟩ := map_at e
        exact ⟨p, hp, rfl⟩
      · obtain ⟨h', g2, d2, tk, o2⟩ := z
        have eg : g2 = s.gens := mv.gens
        have ed : d2 = s.drawn := mv.drawn
        have eo : o2 = s.os := mv.os
        subst eg ed eo
        show wpAny _ _ _ _ _ _
        refine wpAny_pure ?_
        show wpAny _ _ (ret Value.none) _ _ _
        rw [len] at g
        exact wpAny_pure ⟨rfl, h', tk, L, rfl, hM, g, k⟩
    · match r, hr with
      | .error e, hr => exact hr
      | .ok .next, hr => exact hr.elim
      | .ok .brk, hr => exact hr.elim
      | .ok .cont, hr => exact hr.elim
      | .ok (.ret x), ⟨ex, h', tk, L, ez, hM, g, k⟩ =>
        subst ex ez
        repeat (any_goals (first | assumption | wp_step))
        exact fin _ _ _ hM g k
end
end TU

set_option Elab.async false
set_option linter.all false
set_option maxRecDepth 100000
namespace TU
open PySem PySem.Spec PyProof.Rows L2
/-- what is in another order than a list's images is the images in another order -/
theorem perm_img {α β : Type} {f : α → β} : ∀ {l : List β} {m : List α}, l.Perm (m.map f) → ∃ m' : List α, m'.Perm m ∧ l = m'.map f
  | [], m, p => by
    have : m = [] := List.length_eq_zero_iff.mp (by have := p.length_eq; rw [List.length_map] at this; exact this.symm)
    exact ⟨[], by rw [this], rfl⟩
  | y :: l, m, p => by
    obtain ⟨x, hx, rfl⟩ := List.mem_map.mp (p.mem_iff.mp List.mem_cons_self)
    obtain ⟨a, b, rfl⟩ := List.append_of_mem hx
    have q : (a ++ x :: b).Perm (x :: (a ++ b)) := List.perm_middle
    have p2 : l.Perm ((a ++ b).map f) := (p.trans (q.map f)).cons_inv
    obtain ⟨m', h1, h2⟩ := perm_img p2
    exact ⟨x :: m', (h1.cons x).trans q.symm, by rw [List.map_cons, h2]⟩
/-! ### sets of texts -/
def VT (_ : Heap) (v : Value) (x : Str) : Prop := ∃ t, v = .str x t
def rowT (P : Program) (w : World) (z : Value × Str) : Int × Value := ((strKind P w).hash z.2, z.1)
structure MTR (P : Program) (w : World) (L : List (Value × Str)) (es : Array (Int × Value)) (t : SetTable) : Prop where
  rows : es.toList = L.map (rowT P w)
  txt : ∀ z ∈ L, ∃ tk, z.1 = .str z.2 tk
  nd : (L.map (·.2)).Nodup
  few : es.size < scanBound
  fit : t.fits es.size = true
  ris : Ris t.place.toList
  led : w.params.followText "set-order" = true ∨ t.led = true
def MT (P : Program) (w : World) (h : Heap) (a : Addr) (L : List (Value × Str)) : Prop := ∃ o es ep t, h.get? a = some o ∧ o.ExactSet ∧ o.data = .set es ep t ∧ MTR P w L es t
section
variable {P : Program} {w : World} {L : List (Value × Str)} {es : Array (Int × Value)} {t : SetTable}
theorem MTR.len (R : MTR P w L es t) : es.size = L.length := by
  rw [← Array.length_toList, R.rows, List.length_map]
theorem MTR.elems (R : MTR P w L es t) : ElemsOf (strKind P w) es.toList := fun e he => by
  rw [R.rows] at he
  obtain ⟨z, hz, rfl⟩ := List.mem_map.mp he
  obtain ⟨tk, e⟩ := R.txt z hz
  refine ⟨⟨z.2, ?_, rfl⟩, ?_⟩
  · show (strKind P w).is z.2 z.1 = true
    rw [e]
    exact strKind_is P w _ _
  · show z.1.scannable = true
    rw [e]
    rfl
theorem is_txt {x y : Str} {tk : Tok} : (strKind P w).is x (.str y tk) = true ↔ y = x := by
  constructor
  · intro e
    obtain ⟨t, ev⟩ := Value.isStrOf_shape (x := x) (v := .str y tk) e
    injection ev
  · rintro rfl
    exact strKind_is P w _ _
theorem MTR.has (R : MTR P w L es t) (x : Str) : x ∈ L.map (·.2) ↔ ∃ e ∈ es.toList, (strKind P w).is x e.2 = true := by
  rw [R.rows]
  constructor
  · intro h
    obtain ⟨z, hz, rfl⟩ := List.mem_map.mp h
    obtain ⟨tk, e⟩ := R.txt z hz
    exact ⟨_, List.mem_map.mpr ⟨z, hz, rfl⟩, by show (strKind P w).is z.2 z.1 = true; rw [e]; exact strKind_is P w _ _⟩
  · rintro ⟨e, he, q⟩
    obtain ⟨z, hz, rfl⟩ := List.mem_map.mp he
    obtain ⟨tk, e⟩ := R.txt z hz
    have q2 : (strKind P w).is x z.1 = true := q
    rw [e] at q2
    exact List.mem_map.mpr ⟨z, hz, is_txt.mp q2⟩
variable {A : Around} {E : Value → Shared → Prop} {s : Shared} {a : Addr}
/-- the last steps: what is stored, laid anew where it is too full -/
theorem mt_tail {g : Bool → Sem Unit} (hg : ∀ (b : Bool) (z : Shared) (Q' : Unit → Shared → Prop), Q' () z → wpAny (model P w) A (g b) Q' E z) {o : Obj} {es : Array (Int × Value)} {ep : Nat} {t : SetTable} (hob : s.heap.get? a = some o) (hx : o.ExactSet) (hda : o.data = .set es ep t)
    {es1 : Array (Int × Value)} {t2 : SetTable} {L1 : List (Value × Str)} (R1 : MTR P w L1 es1 t2) {wd : Bool} {R : Option Bool → Shared → Prop}
    (fin : ∀ h' L', Heap.SameBut a s.heap h' → MT P w h' a L' → L'.Perm L1 → R (some true) { s with heap := h' }) :
    wpAny (model P w) A (do
        storeSet a es1 t2
        if (!wd && t2.tooFull) = true then do
            g (relayAll t2 es1 (SetTable.grown es1.size)).2.2
            storeSet a (relayAll t2 es1 (SetTable.grown es1.size)).1 (relayAll t2 es1 (SetTable.grown es1.size)).2.1
            pure (some true)
          else pure (some true)) R E s := by
  refine wpAny_bind (wpAny_storeSet_of hob hda ?_ (fits_of_scanBound R1.few))
  have ob1 := store_at (es' := es1) (t' := t2) hob hda
  have b1 := Heap.SameBut.update s.heap a (Obj.putSet es1 t2)
  split
  · have y1 := relayAll_perm t2 es1 (SetTable.grown es1.size)
    have y2 := relayAll_fits t2 es1 (SetTable.grown es1.size)
    have y3 := relayAll_ris t2 es1 (SetTable.grown es1.size)
    have y4 := relayAll_led t2 es1 (SetTable.grown es1.size)
    generalize relayAll t2 es1 (SetTable.grown es1.size) = Y at y1 y2 y3 y4 ⊢
    obtain ⟨es2, t3, gv⟩ := Y
    dsimp only at y1 y2 y3 y4 ⊢
    rw [R1.rows] at y1
    obtain ⟨L', z1, z2⟩ := perm_img y1
    have sz : es2.size = es1.size := by rw [← Array.length_toList, z2, List.length_map, z1.length_eq, R1.len]
    have R2 : MTR P w L' es2 t3 := ⟨z2, fun q hq => R1.txt q (z1.mem_iff.mp hq), (z1.map (·.2)).nodup_iff.mpr R1.nd, by rw [sz]; exact R1.few, y2, y3, R1.led.imp id fun q => by rw [y4]; exact q⟩
    refine wpAny_bind (hg _ _ _ (wpAny_bind (wpAny_storeSet_of ob1 rfl ?_ (fits_of_scanBound R2.few))))
    have ob2 := store_at (es' := es2) (t' := t3) ob1 rfl
    exact wpAny_pure (fin _ L' (b1.trans (Heap.SameBut.update _ a _)) ⟨_, es2, _, t3, ob2, hx, rfl, R2⟩ z1)
  · exact wpAny_pure (fin _ L1 b1 ⟨_, es1, _, t2, ob1, hx, rfl, R1⟩ (List.Perm.refl _))
theorem mt_add {L : List (Value × Str)} {x : Str} {tk : Tok} {Q : Bool → Shared → Prop} (hM : MT P w s.heap a L) (few : L.length + 1 < scanBound)
    (fin : ∀ b h' L', Heap.SameBut a s.heap h' → MT P w h' a L' → (x ∈ L.map (·.2) → L' = L) → (x ∉ L.map (·.2) → L'.Perm ((.str x tk, x) :: L)) → Q b { s with heap := h' }) :
    wpAny (model P w) A (setAddHashed a (.str x tk) ((strKind P w).hash x)) Q E s := by
  obtain ⟨o, es, ep, t, hob, hx, hda, R⟩ := hM
  have ky : (strKind P w).is x (.str x tk) = true := strKind_is P w _ _
  have scn : (Value.str x tk).scannable = true := rfl
  unfold setAddHashed setAddHashedIn
  refine wpAny_holding (wpAny_bind (wpAny_setState_of hob hda R.fit ?_))
  dsimp only
  rw [byScan_of scn R.few R.elems]
  simp only [↓reduceIte]
  unfold setAddByScan
  refine wpAny_bind (wpAny_bind (wpAny_rule (wpAny_bind (wpAny_setScan_of ky hob hda R.fit R.elems ?_))))
  cases fi : List.findIdx? (fun e => (strKind P w).is x e.2) es.toList with
  | some j =>
    dsimp only
    obtain ⟨hj, pj, _⟩ := List.findIdx?_eq_some_iff_getElem.mp fi
    have m : x ∈ L.map (·.2) := (R.has x).mpr ⟨_, List.getElem_mem hj, pj⟩
    exact wpAny_pure (wpAny_pure (fin false s.heap L (Heap.SameBut.refl a s.heap) ⟨o, es, ep, t, hob, hx, hda, R⟩ (fun _ => rfl) fun c => absurd m c))
  | none =>
    dsimp only
    have nm : x ∉ L.map (·.2) := fun c => by
      obtain ⟨e, he, q⟩ := (R.has x).mp c
      have c := List.findIdx?_eq_none_iff.mp fi e he
      rw [q] at c
      cases c
    have give : ∀ (b : Bool) {z : Shared} {Q' : Unit → Shared → Prop}, Q' () z → wpAny (model P w) A (match b with | true => rule "set.scan.the-table-gave-way" | false => pure ()) Q' E z := fun b z Q' q => by
      cases b <;> first | exact wpAny_pure q | exact wpAny_rule q
    have y1 := layNew_perm t es ((strKind P w).hash x) (.str x tk)
    have y2 := layNew_fits t es ((strKind P w).hash x) (.str x tk)
    have y3 := layNew_ris t es ((strKind P w).hash x) (.str x tk) R.ris
    have y4 := layNew_led t es ((strKind P w).hash x) (.str x tk)
    generalize layNew t es ((strKind P w).hash x) (.str x tk) = Y at y1 y2 y3 y4 ⊢
    obtain ⟨es1, t1, wd, gv⟩ := Y
    dsimp only at y1 y2 y3 y4 ⊢
    rw [Array.toList_push] at y1
    have y5 : es1.toList.Perm (((Value.str x tk, x) :: L).map (rowT P w)) := by
      rw [List.map_cons, ← R.rows]
      exact y1.trans (List.perm_append_singleton _ _)
    obtain ⟨L1, z1, z2⟩ := perm_img y5
    have sz : es1.size = L.length + 1 := by rw [← Array.length_toList, z2, List.length_map, z1.length_eq, List.length_cons]
    have R1 : ∀ t2 : SetTable, t2.fits es1.size = true → Ris t2.place.toList → (w.params.followText "set-order" = true ∨ t2.led = true) → MTR P w L1 es1 t2 := fun t2 f r l =>
      ⟨z2, fun q hq => by
        rcases List.mem_cons.mp (z1.mem_iff.mp hq) with c | c
        · rw [c]
          exact ⟨tk, rfl⟩
        · exact R.txt q c, (z1.map (·.2)).nodup_iff.mpr (List.nodup_cons.mpr ⟨nm, R.nd⟩), by rw [sz]; exact few, f, r, l⟩
    have lled : w.params.followText "set-order" = true ∨ t1.led = true := R.led.imp id fun q => by rw [y4]; exact q
    refine wpAny_bind (give _ ?_)
    split
    · refine wpAny_bind ?_
      rw [hashByValue_scannable 8 scn]
      refine wpAny_pure ?_
      refine mt_tail (L1 := L1) ?_ hob hx hda (R1 _ ?_ ?_ ?_) ?_
      · intro b z Q' q
        cases b <;> first | exact wpAny_pure q | exact wpAny_rule q
      · first | (split <;> first | exact y2 | exact SetTable.fits_plain_off y2) | exact y2
      · first | (split <;> exact y3) | exact y3
      · first | (split <;> exact lled) | exact lled
      · intro h' L' sb hM pm
        dsimp only
        exact wpAny_pure (fin true h' L' sb hM (fun c => absurd c nm) fun _ => pm.trans z1)
    · refine wpAny_bind (wpAny_pure ?_)
      simp only [↓reduceIte]
      refine mt_tail (L1 := L1) ?_ hob hx hda (R1 _ y2 y3 lled) ?_
      · intro b z Q' q
        cases b <;> first | exact wpAny_pure q | exact wpAny_rule q
      · intro h' L' sb hM pm
        dsimp only
        exact wpAny_pure (fin true h' L' sb hM (fun c => absurd c nm) fun _ => pm.trans z1)
end
theorem mt_law (P : Program) (w : World) : SetLaw P w VT (MT P w) where
  mo := fun ⟨o, es, ep, t, e, r⟩ k => ⟨o, es, ep, t, k o e, r⟩
  vk := fun h _ => h
  nw := fun e => ⟨_, #[], 0, _, e, ⟨rfl, rfl, rfl⟩, rfl, rfl, (fun z hz => nomatch hz), List.nodup_nil, by decide, rfl, List.Pairwise.nil, by
    show _ ∨ (!w.params.followText "set-order") = true
    cases w.params.followText "set-order"
    · exact .inr rfl
    · exact .inl rfl⟩
  ad := fun {A E s a L v x Q} hM _ hv few hu fin => by
    obtain ⟨tk, rfl⟩ := hv
    unfold setAdd
    refine wpAny_holding (wpAny_bind ((strKind P w).pyHash (k := x) (strKind_is P w _ _) ?_))
    exact mt_add (s := { s with toks := s.toks + 1 }) hM (by unfold scanBound; omega) fun b h' L' sb hM' c1 c2 => fin b h' L' _ sb (Nat.le_succ _) hM' c1 c2
  ot := fun ⟨o, es, ep, t, e, x, d, R⟩ => ⟨o, es, ep, t, e, x, d, R.fit, R.few, R.ris, R.led, by rw [R.rows, List.map_map]; rfl⟩
  nd := fun ⟨o, es, ep, t, e, x, d, R⟩ => R.nd
end TU

set_option Elab.async false
set_option linter.all false
set_option maxRecDepth 100000
namespace TU
open PySem PySem.Spec PyProof.Rows L2
/-- a set of texts: its members -/
def STO (P : Program) (w : World) (a : Addr) (ss : List Str) : HO := .ext fun h => ∃ L, MT P w h a L ∧ L.map (·.2) = ss
theorem sto_ok {P : Program} {w : World} {H : Hp} {h : Heap} {a : Addr} {L : List (Value × Str)} (m : MT P w h a L) : ObjOk P w H h a (STO P w a (L.map (·.2))) := by
  refine ⟨⟨L, m, rfl⟩, ?_, fun h1 h2 ⟨L', m', e⟩ k => ⟨L', (mt_law P w).mo m' k, e⟩⟩
  obtain ⟨o, _, _, _, e, _⟩ := m
  exact ⟨o, e⟩
theorem strs_zip : ∀ {vs : List Value} {ss : List Str}, StrsAre vs ss → ∃ ks : List (Value × Str), vs = ks.map (·.1) ∧ ss = ks.map (·.2) ∧ ∀ p ∈ ks, ∃ t, p.1 = .str p.2 t
  | _, _, .nil => ⟨[], rfl, rfl, fun _ m => nomatch m⟩
  | _, _, .cons y t r => by
    obtain ⟨ks, h1, h2, h3⟩ := strs_zip r
    refine ⟨(.str y t, y) :: ks, by rw [h1]; rfl, by rw [h2]; rfl, fun p m => ?_⟩
    rcases List.mem_cons.mp m with c | c
    · rw [c]
      exact ⟨t, rfl⟩
    · exact h3 p c
theorem zip_strs : ∀ {ks : List (Value × Str)}, (∀ p ∈ ks, ∃ t, p.1 = .str p.2 t) → StrsAre (ks.map (·.1)) (ks.map (·.2))
  | [], _ => .nil
  | p :: ks, h => by
    obtain ⟨t, e⟩ := h p List.mem_cons_self
    rw [List.map_cons, List.map_cons, e]
    exact .cons _ t (zip_strs fun q m => h q (List.mem_cons_of_mem _ m))
/-- set(xs), xs a list of texts -/
def rSetL (K : PySem.W.Frag) (P : Program) (w : World) : List V → Hp → VK → Prop := fun vs H Q => ∃ (l : Addr) (ss : List Str), vs = [.ref l] ∧ SqL K H l (ss.map V.str) ∧ ss.length < 64 ∧
  ∀ p zs, H p = none → zs.Nodup → (∀ x, x ∈ zs ↔ x ∈ ss) → zs.length ≤ ss.length → Q (.ref p) (upd H p (STO P w p zs))
theorem call_setL {X : Cx} (hc : X.calm = true) (hu : X.A.units + 64 < cLine) : CallR X (.type "set") (rSetL X.K X.prog X.w) := by
  intro pins s σ H vs us Q I r h
  obtain ⟨l, ss, rfl, hs, few, q⟩ := h
  obtain ⟨its, rv, hl, _⟩ := I.list hs
  rw [Vals.ref1 r]
  obtain ⟨ks, e1, e2, e3⟩ := strs_zip rv.strs
  subst e2
  rw [List.length_map] at few q
  refine (mt_law X.prog X.w).call (A := X.A) ks (I.ok.hd hc) hl.isList (by rw [e1]) e3 few (by omega) fun h' tk L m g k => ?_
  refine ⟨.ref _, _, I.laid (t' := tk) k (Nat.le_refl _) (sto_ok m), rfl, q _ _ (I.hok.fresh (Nat.le_refl _)) ((mt_law X.prog X.w).nd m) (fun x => ?_) (by rw [List.length_map]; exact g.len)⟩
  have tk : ks.take ks.length = ks := List.take_length
  constructor
  · intro hx
    obtain ⟨z, hz, rfl⟩ := List.mem_map.mp hx
    have := g.sub z hz
    rw [tk] at this
    exact List.mem_map.mpr ⟨z, this, rfl⟩
  · intro hx
    obtain ⟨z, hz, rfl⟩ := List.mem_map.mp hx
    exact g.all z (by rw [tk]; exact hz)
/-- sorted(s), s a set of texts -/
def rSortST (P : Program) (w : World) : List V → Hp → VK → Prop := fun vs H Q => ∃ (a : Addr) (zs : List Str), vs = [.ref a] ∧ H a = some (STO P w a zs) ∧ zs.length < 64 ∧ ∀ p, H p = none → Q (.ref p) (upd H p (.lst ((srt zs).map V.str)))
theorem call_sortST {X : Cx} (hc : X.calm = true) : CallR X (.builtin "sorted") (rSortST X.prog X.w) := by
  intro pins s σ H vs us Q I r h
  obtain ⟨a, zs, rfl, ha, few, q⟩ := h
  rw [Vals.ref1 r]
  obtain ⟨L, m, rfl⟩ := (I.hok a _ ha).1
  obtain ⟨o, es, ep, t, hob, hx, hda, fit, fw, ris, led, ev⟩ := (mt_law X.prog X.w).ot m
  have txt : ∀ p ∈ L, ∃ t, p.1 = .str p.2 t := by
    obtain ⟨_, _, _, _, _, _, _, R⟩ := m
    exact R.txt
  refine Calls.call_function_entry kind_sorted plain_sorted entry_sorted (args_sorted1 _) ?_
  unfold Builtin.«sorted»
  refine wpAny_bind (wpAny_pure ?_)
  refine wpAny_bind (collect_set (A := X.A.in1) (I.ok.hd hc) ⟨o, hob, hx.1, hda⟩ fit fw ris led fun s1 vs k1 z1 g1 o1 pm => ?_)
  rw [ev] at pm
  obtain ⟨L1, p1, e1⟩ := perm_img pm
  subst e1
  have sa : StrsAre (L1.map (·.1)) (L1.map (·.2)) := zip_strs fun p mp => txt p (p1.mem_iff.mp mp)
  have ln : L1.length < 64 := by
    rw [p1.length_eq]
    rwa [List.length_map] at few
  refine wpAny_bind (wpAny_newList ?_ (by rw [List.length_map, sizeLine_eq]; omega))
  have own := get_own s1.heap (u := seqObj "list" (L1.map (·.1)).toArray 0)
  show wpAny _ _ _ _ _ { s1 with heap := s1.heap.push (seqObj "list" (L1.map (·.1)).toArray 0) }
  refine wpAny_bind (wpAny_holding (wpAny_call_entry slot_list_sort ⟨_, own, rfl⟩ entry_list_sort (list_sort_treeK strKind_oneLt (s := { s1 with heap := s1.heap.push (seqObj "list" (L1.map (·.1)).toArray 0) }) own sa.keysOf (fun v1 v2 rest e => keyKind_strs (by rw [← e]; exact sa)) (by rw [List.length_map]; exact ln) fun st hp hs => ⟨_, rfl, ?_⟩) (args_list_sort _)))
  obtain ⟨ys, y1, y2, y3⟩ := sorted_out_str sa hp hs
  obtain ⟨n2, hn2⟩ := sortedHeap_at (vs := L1.map (·.1)) (out := (arrOf st).map (·.2)) own
  have ey : ys = srt (L.map (·.2)) := sorted_is (y2.trans (p1.map _)) y3
  have lz : (ys.map V.str).length ≤ sizeLine := by
    rw [List.length_map, y2.length_eq, List.length_map, sizeLine_eq]
    omega
  have es : s1 = { s with heap := s1.heap, gens := s1.gens, drawn := s1.drawn, toks := s1.toks } := by
    cases s1
    cases s
    cases o1
    rfl
  have old : ∀ b u, s.heap.get? b = some u → (sortedHeap (s1.heap.push (seqObj "list" (L1.map (·.1)).toArray 0)) s1.heap.objs.size (L1.map (·.1)) ((arrOf st).map (·.2))).get? b = some u := fun b u e => by
    have e2 := k1 b u e
    have hb : b < s1.heap.objs.size := Heap.lt_size e2
    rw [sortedHeap_old (Nat.ne_of_lt hb) (by rw [size_push']; exact Nat.lt_succ_of_lt hb)]
    exact get_push _ e2
  have hn : H s1.heap.objs.size = none := I.hok.fresh z1
  have J : Inv X pins σ (upd H s1.heap.objs.size (.lst (ys.map V.str))) { s with heap := sortedHeap (s1.heap.push (seqObj "list" (L1.map (·.1)).toArray 0)) s1.heap.objs.size (L1.map (·.1)) ((arrOf st).map (·.2)), gens := s1.gens, drawn := s1.drawn, toks := s1.toks } :=
    I.call (ch := []) (Un.laid old z1 hn) (I.hok.laid old z1 ⟨lz, ((arrOf st).map (·.2)).toList, n2, vals_of_strs y1, by rw [Array.toArray_toList]; exact hn2⟩) (by rw [g1]; exact I.bare) (fun _ z => nomatch z)
  refine wpAny_pure ⟨_, rfl, .ref s1.heap.objs.size, _, ?_, rfl, q _ hn⟩
  rw [← ey]
  have e3 : s1.os = s.os := o1
  rw [show ({ s1 with heap := sortedHeap (s1.heap.push (seqObj "list" (L1.map (·.1)).toArray 0)) s1.heap.objs.size (L1.map (·.1)) ((arrOf st).map (·.2)) } : Shared) = { s with heap := sortedHeap (s1.heap.push (seqObj "list" (L1.map (·.1)).toArray 0)) s1.heap.objs.size (L1.map (·.1)) ((arrOf st).map (·.2)), gens := s1.gens, drawn := s1.drawn, toks := s1.toks } from by rw [← e3]]
  exact J
section
variable {K : PySem.W.Frag} {H : Hp} {Q : VK} {P : Program} {w : World}
theorem k_setL {X : Cx} (h : X.K = K) (hp : X.prog = P) (hw : X.w = w) (hc : X.calm = true) (hu : X.A.units + 64 < cLine) : CallR X (.type "set") (rSetL K P w) := by
  subst h hp hw
  exact call_setL hc hu
theorem k_sortST {X : Cx} (hp : X.prog = P) (hw : X.w = w) (hc : X.calm = true) : CallR X (.builtin "sorted") (rSortST P w) := by
  subst hp hw
  exact call_sortST hc
end
end TU

set_option Elab.async false
set_option linter.all false
set_option maxRecDepth 100000
namespace TU
open PySem PySem.Spec PyProof.Rows L2
/-! ### classes: methods, calls that may raise, fields -/
structure Dm (P : Program) (w : World) (K : PySem.W.Frag) (mg : Str → Option Value) (base : Heap) (C : Addr) (m : Str) (ps : List Str) (k : Nat) (sp : Sp) : Prop where
  ex : ∃ f fd, FnOk P w K mg base (L2.CX P w) k f fd ps sp ∧ Meth K C m f ∧ Binds K fd ps []
structure TopM (K : PySem.W.Frag) (C : Addr) (m qual : Str) (st : Stmt) (ps : List Str) : Prop where
  ex : ∃ f fd, Fun K m qual st f fd ∧ Meth K C m f ∧ Binds K fd ps []
/-- a class: how it is made, what it has -/
structure Kl (K : PySem.W.Frag) (mg : Str → Option Value) (x : Str) (C : Addr) (fs : List Str) : Prop where
  cl : Cls K C
  g : mg x = some (.ref C)
  no : ∀ f ∈ fs, NoAttr K C f
  mks : PySem.W.makesIn K C = true
  kp : PySem.W.keepIn K (.ref C) = true
section
variable {P : Program} {w : World} {K : PySem.W.Frag} {mg : Str → Option Value} {base : Heap} {C : Addr}
theorem TopM.dm {m qual : Str} {st : Stmt} {N ps : List Str} {k : Nat} {sp : Sp} (F : TopM K C m qual st ps) (S : FnScope N ps (defScope st)) (len : ∀ vs H Q E, sp vs H Q E → vs.length = ps.length)
    (hbody : ∀ (f : Addr) (cdv : Value) (A : Around) (outer : List Env) (s : Shared) (H : Hp) (vs : List V) (Q : VK) (E : XK), Room k (A.deeper (envOfC qual (defScope st) s.heap.objs.size f cdv)) → sp vs H Q E →
      ∃ t, PSs (cxOf (L2.CX P w) P w K mg base N qual (defScope st) f cdv A outer s H E) (defBody st) t ∧ t { nx := fun _ H' => Q .non H', rt := Q } (start N vs) H) : Dm P w K mg base C m ps (k + 1) sp := by
  obtain ⟨f, fd, F0, hm, hb⟩ := F.ex
  exact ⟨f, fd, F0.okX S len fun cdv A outer s H vs Q E hr h => hbody f cdv A outer s H vs Q E hr h, hm, hb⟩
/-- o.m(e, ..), what is raised wished for at the slots -/
def tMethX (C : Addr) (m : Str) (sp : Sp) (E : L2.St → XK) (ta : TE) (t : TA) : TE := fun σ H Q => ta σ H fun x H1 => ∃ a dx fs, x = .ref a ∧ H1 a = some (.ins C dx fs) ∧ fs.lookup m = none ∧ t σ H1 fun vs H2 => sp (x :: vs) H2 Q (E σ)
end
section
variable {X : Cx} {C : Addr} {m x : Str} {k : Nat} {ps fs : List Str} {sp : Sp} {o e : Expr} {es : List Expr} {ta : TE} {t : TA} {pos apos p : Pos} {E : L2.St → XK}
theorem pe_dm {pl : Sem Bool} (he : PE X o ta) (c : Kl X.K X.mg x C fs) (F : Dm X.prog X.w X.K X.mg X.base C m ps k sp) (hr : Room k X.A) (hx : ∀ σ, PassesAt (L2.CX X.prog X.w) X σ (E σ)) (ha : PA X (e :: es) t)
    (hst : starEach (e :: es) X.env = (false, eval e X.env) :: starEach es X.env := by rfl) (hpl : (backTo pos (starEach es X.env)).any (·.1) = false := by rfl)
    (ht : eval (.Call (.Attribute o m apos) (e :: es) [] pos) X.env = (do
      let ov ← eval o X.env
      standAt apos.atName
      let (f, first) ← holding [ov] (getMethod ov m pl)
      callWith pos f first (backTo pos (starEach (e :: es) X.env)) (backToKw pos (keywordEach [] X.env))) := by rfl) :
    PE X (.Call (.Attribute o m apos) (e :: es) [] pos) (tMethX C m sp E ta t) := by
  obtain ⟨f, fd, F0, hm, hb⟩ := F.ex
  refine ⟨fun pins s σ H Q I h => PySem.W.methodCall_KW (pl := pl) (thn (he.run pins s σ H _ I h) fun u s1 ⟨x, H1, I1, rx, a, dx, fs, ex, ea, l, q⟩ => ?_) ht⟩
  subst ex
  cases (show u = Value.ref a from rx)
  refine getmeth_ok I1 ea c.cl hm l (PySem.W.callWith_K (first := [.ref a]) (h₀ := X.base) I.ok.mod.kin hm.kp (thn (ha.run pos pins s1 σ H1 _ I1 q) fun us s2 ⟨vs, H2, I2, r, q2⟩ => ⟨I2.kIn, ?_⟩) hst hpl)
  exact run_fnS (us := .ref a :: us) (vs := .ref a :: vs) F0 hr hb (hx σ) I2 (.cons rfl r) q2
theorem pe_dm0 {pl : Sem Bool} (he : PE X o ta) (c : Kl X.K X.mg x C fs) (F : Dm X.prog X.w X.K X.mg X.base C m ps k sp) (hr : Room k X.A) (hx : ∀ σ, PassesAt (L2.CX X.prog X.w) X σ (E σ))
    (ht : eval (.Call (.Attribute o m apos) [] [] pos) X.env = (do
      let ov ← eval o X.env
      standAt apos.atName
      let (f, first) ← holding [ov] (getMethod ov m pl)
      callWith pos f first (backTo pos (starEach [] X.env)) (backToKw pos (keywordEach [] X.env))) := by rfl) :
    PE X (.Call (.Attribute o m apos) [] [] pos) (tMethX C m sp E ta tNil) := by
  obtain ⟨f, fd, F0, hm, hb⟩ := F.ex
  refine ⟨fun pins s σ H Q I h => PySem.W.methodCall_KW (pl := pl) (thn (he.run pins s σ H _ I h) fun u s1 ⟨x, H1, I1, rx, a, dx, fs, ex, ea, l, q⟩ => ?_) ht⟩
  subst ex
  cases (show u = Value.ref a from rx)
  exact getmeth_ok I1 ea c.cl hm l (PySem.W.callWith_K0 (first := [.ref a]) I1.kIn hm.kp (run_fnS (us := [.ref a]) (vs := [.ref a]) F0 hr hb (hx σ) I1 (.cons rfl .nil) q))
/-- C(e, ..), nothing is raised -/
theorem pe_mkC (c : Kl X.K X.mg x C fs) (F : Dm X.prog X.w X.K X.mg X.base C "__init__" ps k sp) (hr : Room (k + 1) X.A) (ha : PA X (e :: es) t) (hg : Gl X x := by rfl)
    (hdb : (x == ("__debug__" : Str)) = false := by decide) (he : starEach (e :: es) X.env = (false, eval e X.env) :: starEach es X.env := by rfl) (hpl : (backTo pos (starEach es X.env)).any (·.1) = false := by rfl) :
    PE X (.Call (.Name x p) (e :: es) [] pos) (tMake C sp [] E0 t) := by
  obtain ⟨f, fd, F0, hm, hb⟩ := F.ex
  exact pe_make ⟨c.mks, hm.at_, hm.fn, c.kp⟩ F0 hr hg c.g hb .nil passL ha hdb he hpl
end
section
variable {K : PySem.W.Frag} {σ : L2.St} {H : Hp} {D : Ends} {Q : VK} {te ta tb tc : TE} {tr : TA} {C : Addr} {m : Str} {sp : Sp} {E : L2.St → XK}
theorem q_methX (h : ta σ H fun x H1 => ∃ a dx fs, x = .ref a ∧ H1 a = some (.ins C dx fs) ∧ fs.lookup m = none ∧ tr σ H1 fun vs H2 => sp (x :: vs) H2 Q (E σ)) : tMethX C m sp E ta tr σ H Q := h
theorem q_make {sp : Sp} (h : tr σ H fun vs H1 => ∀ x dx, H1 x = none → H1 dx = none → dx ≠ x → sp (.ref x :: (vs ++ [])) (upd (upd H1 dx (.own x)) x (.ins C dx [])) (fun v H2 => v = .non ∧ Q (.ref x) H2) E0) : tMake C sp [] E0 tr σ H Q := h
theorem q_fld {f : Str} (h : te σ H fun x H1 => ∃ a C dx fs v, x = .ref a ∧ H1 a = some (.ins C dx fs) ∧ Cls K C ∧ NoAttr K C f ∧ fs.lookup f = some v ∧ Q v H1) : tFld K te f σ H Q := h
theorem q_fldE {f : Str} {mg : Str → Option Value} {x : Str} {fl : List Str} {a dx : Addr} {fs : List (Str × V)} {v : V} {R : V → Prop} (c : Kl K mg x C fl) (e : H a = some (.ins C dx fs)) (hf : f ∈ fl) (l : fs.lookup f = some v) (q : R v) :
    ∃ b C dx fs v, V.ref a = .ref b ∧ H b = some (.ins C dx fs) ∧ Cls K C ∧ NoAttr K C f ∧ fs.lookup f = some v ∧ R v := ⟨a, C, dx, fs, v, rfl, e, c.cl, c.no f hf, l, q⟩
theorem q_sfld {f : Str} {tv : TE} (h : tv σ H fun y H1 => te σ H1 fun x H2 => ∃ a C dx fs, x = .ref a ∧ H2 a = some (.ins C dx fs) ∧ Cls K C ∧ NoAttr K C f ∧ fs.length < 1000 ∧ D.nx σ (upd H2 a (.ins C dx (putF f y fs)))) : sFld K te tv f D σ H := h
theorem q_sfldE {f : Str} {mg : Str → Option Value} {x : Str} {fl : List Str} {a dx : Addr} {fs : List (Str × V)} {v : V} {R : Hp → Prop} (c : Kl K mg x C fl) (e : H a = some (.ins C dx fs)) (hf : f ∈ fl) (l : fs.length < 1000) (q : R (upd H a (.ins C dx (putF f v fs)))) :
    ∃ b C dx fs, V.ref a = .ref b ∧ H b = some (.ins C dx fs) ∧ Cls K C ∧ NoAttr K C f ∧ fs.length < 1000 ∧ R (upd H b (.ins C dx (putF f v fs))) := ⟨a, C, dx, fs, rfl, e, c.cl, c.no f hf, l, q⟩
theorem q_chain {r r' : R2} (h : ta σ H fun x H1 => tb σ H1 fun y H2 => r x y H2 fun z H3 => ∃ k, z = .bl k ∧ (if k = true then tc σ H3 fun w' H4 => r' y w' H4 Q else Q (.bl false) H3)) : tChain r r' ta tb tc σ H Q := h
theorem q_blE {b : Bool} {R : Bool → Prop} (h : R b) : ∃ k, V.bl b = V.bl k ∧ R k := ⟨b, rfl, h⟩
theorem q_bm0 {T : String} {r : V → List V → Hp → VK → Prop} (h : ta σ H fun x H1 => tyV K T x H1 ∧ r x [] H1 Q) : tBM0 K T r ta σ H Q := h
theorem q_pop {l : Addr} {xs : List V} {y : V} (h : H l = some (.lst (xs ++ [y]))) (q : Q y (upd H l (.lst xs))) : rPop (.ref l) [] H Q := by
  refine ⟨l, xs ++ [y], y, rfl, rfl, h, ?_, ?_⟩
  · rw [List.length_append]
    show (xs ++ [y])[xs.length + 1 - 1]? = _
    rw [Nat.add_sub_cancel, List.getElem?_append_right (Nat.le_refl _), Nat.sub_self]
    rfl
  · rw [List.dropLast_concat]
    exact q
theorem q_extend {l b : Addr} {xs zs : List V} (h : H l = some (.lst xs)) (hb : H b = some (.lst zs)) (z : xs.length + zs.length ≤ sizeLine) (q : Q .non (upd H l (.lst (xs ++ zs)))) : rExtend (.ref l) [.ref b] H Q := ⟨l, b, xs, zs, rfl, rfl, h, hb, z, q⟩
end
section
variable {X : Cx} {K : PySem.W.Frag} {o e : Expr} {to : TE} {t : TA} {apos cpos pos : Pos}
theorem k_extend (h : X.K = K) (ho : PE X o to) (ha : PA X [e] t) (hbase : attributeBase o "extend" X.env (eval o X.env) = eval o X.env := by rfl)
    (hfew : ((backTo cpos (starEach [e] X.env)).all (fun x => !x.1) && (backToKw cpos (keywordEach [] X.env)).all (fun x => x.1.isSome) && decide (([e] : List Expr).length + ([] : List Keyword).length + (if ([] : List Keyword).isEmpty then 0 else 1) < 30)) = true := by rfl)
    (hline : (apos.endLine == cpos.line) = true := by rfl) (hs : starEach [e] X.env = (false, eval e X.env) :: starEach [] X.env := by rfl) (hplain : (backTo cpos (starEach [] X.env)).any (·.1) = false := by rfl) :
    PE X (.Call (.Attribute o "extend" apos) [e] [] cpos) (tBM K "list" rExtend to t) := h ▸ pe_bm PySem.F.plainAttrs_list PySem.F.slot_list_extend PySem.F.type_list_extend mt_extend ho ha hbase hfew hline hs hplain
theorem k_popL (h : X.K = K) (ho : PE X o to) (hbase : attributeBase o "pop" X.env (eval o X.env) = eval o X.env := by rfl) (hline : (apos.endLine == cpos.line) = true := by rfl) :
    PE X (.Call (.Attribute o "pop" apos) [] [] cpos) (tBM0 K "list" rPop to) := h ▸ pe_bm0 PySem.F.plainAttrs_list PySem.F.slot_list_pop PySem.F.type_list_pop mt_pop ho hbase hline
/-- a statement that is never reached -/
theorem ps_never {s : Stmt} : PS X s (fun _ _ _ => False) := ⟨fun _ _ _ _ _ _ h => h.elim⟩
theorem k_sortX {P : Program} {w : World} (h : X.K = K) (hp : X.prog = P) (hw : X.w = w) (hc : X.calm = true) : CallR X (.builtin "sorted") (fun vs H Q => rSortU K vs H Q ∨ rSortST P w vs H Q) := (k_sort h hc).or (k_sortST hp hw hc)
end
/-! ### what the top has written, of methods and classes -/
theorem top_mkM {K : PySem.W.Frag} {C : Addr} {m qual : Str} {st : Stmt} {ps : List Str} {f : Addr} {oc : Value} {od an : Option Addr} {osl : Array (Option Value)} {kV doc pm cdv ct : Value} (ha : PySem.W.findIn K (.ref C) m = some (some (.ref f))) (hi : PySem.W.isFn K (.ref f) = true)
    (hl : K.lookup f = some ⟨oc, od, .func (PySem.W.fnOf m qual (defArgs st) (defBody st) (defScope st) .none kV doc pm an cdv ct), osl⟩) (hc : PySem.W.codeIn K cdv qual = true) (hk : PySem.W.keepIn K (.ref f) = true)
    (hb : ∀ (kV doc pm : Value) (an : Option Addr) (cdv ct : Value) (us : List Value), us.length = ps.length → bindArgs (PySem.W.fnOf m qual (defArgs st) (defBody st) (defScope st) .none kV doc pm an cdv ct) ⟨us, []⟩ = pure (ps.zip us)) : TopM K C m qual st ps :=
  ⟨f, _, fun_mk hl hc hk, ⟨ha, hi, hk⟩, (fun_mk hl hc hk).binds hb⟩
theorem glob_int {K : PySem.W.Frag} {h : Heap} {mg : Str → Option Value} {x : Str} {i : Int} {t : Tok} (X : K.In h) (G : h.Ns mainGlobals mg) (ha : PySem.W.nsIn K mainGlobals x = some (some (.int i t))) : ∃ t, mg x = some (.int i t) := ⟨t, PySem.W.mg_of X G ha⟩
theorem xc_mk1 {P : Program} {w : World} {K : PySem.W.Frag} {h : Heap} {mg : Str → Option Value} {base : Heap} {x qual f1 : Str} {st : Stmt} {C f : Addr} (X : K.In h) (G : h.Ns mainGlobals mg)
    {nm q : Str} {N : Addr} {bs bm : List Value} {sn : List Str} {sub : List Value} {ab : Bool} {col : Option Bool} {dd : Option Addr} {m0 m1 m2 m3 m5 : Option Value}
    {od an : Option Addr} {sl : Array (Option Value)} {oc kV dc pm cd ct : Value} {p1 p2 p3 p4 : Pos}
    (aC : PySem.W.nsIn K mainGlobals x = some (some (.ref C))) (xL : K.lookup C = some (excClassObj nm q C N bs bm true sn sub ab col dd m0 m1 m2 m3 m5 "ValueError.__new__")) (xb : PySem.HandSPX.refsVE bm = true)
    (sa : PySem.W.findIn K (.ref C) "__setattr__" = some (some (.builtin "object.__setattr__"))) (ga : PySem.W.findIn K (.ref C) "__getattribute__" = some (some (.builtin "BaseException.__getattribute__"))) (gg : PySem.W.findIn K (.ref C) "__getattr__" = some none)
    (n1 : PySem.W.findIn K (.ref C) f1 = some none)
    (a1 : PySem.W.findIn K (.ref C) "__init__" = some (some (.ref f))) (t1 : PySem.W.typeIn K (.ref f) = some (.type "function"))
    (l1 : K.lookup f = some ⟨oc, od, .func (PySem.W.fnOf "__init__" qual (defArgs st) (defBody st) (defScope st) .none kV dc pm an cd ct), sl⟩) (c1 : PySem.W.codeIn K cd qual = true) (k1 : PySem.W.keepIn K (.ref f) = true)
    (kC : PySem.W.keepIn K (.ref C) = true) (eC : PySem.W.subIn K (.ref C) (.type "BaseException") = some true) (tC : PySem.W.typeIn K (.ref C) = some (.type "type")) (hC : PySem.W.hasDictIn K C = true) (iC : PySem.W.isClsIn K C = true) (sC : PySem.W.subIn K (.ref C) (.ref C) = some true)
    (S : FnScope ["self", f1] ["self", f1] (defScope st)) (hb : defBody st = [.Assign [.Attribute (.Name "self" p1) f1 p2] (.Name f1 p3) p4])
    (d1 : (f1 == ("__debug__" : Str)) = false) (d2 : (f1 == ("__classdict__" : Str)) = false)
    (v0 : Vis (defScope st) "self") (v1 : Vis (defScope st) f1)
    (bi : ∀ (kV doc pm : Value) (an : Option Addr) (cdv ct : Value) (us : List Value), us.length = 2 → bindArgs (PySem.W.fnOf "__init__" qual (defArgs st) (defBody st) (defScope st) .none kV doc pm an cdv ct) ⟨us, []⟩ = pure ((["self", f1] : List Str).zip us)) :
    Xc P w K mg base x [f1] C := by
  have T : OexC K C := ⟨⟨nm, q, N, bs, bm, sn, sub, ab, col, dd, m0, m1, m2, m3, m5, xL, xb⟩, sa, eC, tC, kC⟩
  have F := fun_mk (st := st) l1 c1 k1
  refine ⟨T, ⟨ga, gg, eC, hC⟩, PySem.W.mg_of X G aC, fun y hy => ?_, exm_me eC iC tC sC, f, _, a1, t1, ok_init1 F S hb T n1 d1 d2 v0 v1, F.binds bi⟩
  rw [List.mem_singleton.mp hy]
  exact n1
end TU

set_option Elab.async false
set_option linter.all false
set_option maxRecDepth 100000
namespace TU
open PySem PySem.Spec PyProof.Rows L2
theorem k_sfld {X : Cx} {K : PySem.W.Frag} {o value : Expr} {f : Str} {ta tv : TE} {pos pos' : Pos} (h : X.K = K) (ha : PE X o ta) (hv : PE X value tv) (hs : swapsWith value (some (.Attribute o f pos')) pos.line X.env = pure false) :
    PS X (.Assign [.Attribute o f pos'] value pos) (sFld K ta tv f) := h ▸ ps_fld ha hv hs
theorem no_nil {K : PySem.W.Frag} {C : Addr} : ∀ f ∈ ([] : List Str), NoAttr K C f := fun _ m => nomatch m
theorem no_cons {K : PySem.W.Frag} {C : Addr} {f : Str} {fs : List Str} (h : PySem.W.findIn K (.ref C) f = some none) (t : ∀ g ∈ fs, NoAttr K C g) : ∀ g ∈ f :: fs, NoAttr K C g := fun g m => by
  rcases List.mem_cons.mp m with c | c
  · rw [c]
    exact h
  · exact t g c
/-! ### a history at an address -/
def hfs (a b c d : V) : List (Str × V) := [("houses", a), ("labels", b), ("lists", c), ("now", d)]
section
variable {a b c d x : V}
theorem hfs_h : (hfs a b c d).lookup ("houses" : Str) = some a := by kernel_rfl
theorem hfs_b : (hfs a b c d).lookup ("labels" : Str) = some b := by kernel_rfl
theorem hfs_l : (hfs a b c d).lookup ("lists" : Str) = some c := by kernel_rfl
theorem hfs_n : (hfs a b c d).lookup ("now" : Str) = some d := by kernel_rfl
theorem hfs_sh : putF "houses" x (hfs a b c d) = hfs x b c d := by kernel_rfl
theorem hfs_sb : putF "labels" x (hfs a b c d) = hfs a x c d := by kernel_rfl
theorem hfs_sl : putF "lists" x (hfs a b c d) = hfs a b x d := by kernel_rfl
theorem hfs_sn : putF "now" x (hfs a b c d) = hfs a b c x := by kernel_rfl
theorem hfs_new : putF "now" d (putF "lists" c (putF "labels" b (putF "houses" a []))) = hfs a b c d := by kernel_rfl
theorem hfs_no {m : Str} (h : ¬ m = "houses" ∧ ¬ m = "labels" ∧ ¬ m = "lists" ∧ ¬ m = "now") : (hfs a b c d).lookup m = none := by
  have f : ∀ {y : Str}, ¬ m = y → (m == y) = false := fun h => beq_eq_false_iff_ne.mpr h
  simp only [hfs, List.lookup, f h.1, f h.2.1, f h.2.2.1, f h.2.2.2]
end
theorem putF_le (f : Str) (x : V) : ∀ fs : List (Str × V), (putF f x fs).length ≤ fs.length + 1
  | [] => Nat.le_refl _
  | p :: r => by
    have ih := putF_le f x r
    unfold putF
    split
    · exact Nat.le_succ _
    · rw [List.length_cons, List.length_cons]
      omega
theorem putF_small {f : Str} {x : V} {fs : List (Str × V)} {n : Nat} (h : fs.length ≤ n) (hn : n + 1 < 1000) : (putF f x fs).length < 1000 := by
  have := putF_le f x fs
  omega
/-- lists of lists of edits: their addresses satisfy N -/
inductive EL (K : PySem.W.Frag) (N : Addr → Prop) (H : Hp) : List V → List (List Ed) → Prop
  | nil : EL K N H [] []
  | cons {b : Addr} {zs : List V} {es : List Ed} {xs : List V} {ess : List (List Ed)} : N b → H b = some (.lst zs) → Ts K H ff zs (es.map Ed.tr) → EL K N H xs ess → EL K N H (.ref b :: xs) (es :: ess)
section
variable {K : PySem.W.Frag} {H H' : Hp} {N N' W : Addr → Prop}
theorem EL.keep (k : Keeps W H H') (nt : ∀ a xs, W a → ¬ Rd H a (.tup xs)) (hN : ∀ a, N a → N' a ∧ ¬ W a) : ∀ {xs : List V} {ess : List (List Ed)}, EL K N H xs ess → EL K N' H' xs ess
  | _, _, .nil => .nil
  | _, _, .cons n e t r => .cons (hN _ n).1 (k _ _ (hN _ n).2 e) (t.keep k nt fun _ z => z.elim) (EL.keep k nt hN r)
theorem EL.mono (s : Same H H') {xs : List V} {ess : List (List Ed)} (h : EL K N H xs ess) : EL K N H' xs ess := h.keep (W := ff) (.of_same s) (fun _ _ z => z.elim) fun _ n => ⟨n, fun z => z⟩
theorem EL.imp {xs : List V} {ess : List (List Ed)} (h : EL K N H xs ess) (i : ∀ a, N a → N' a) : EL K N' H xs ess := h.keep (W := ff) (.of_same (Same.refl H)) (fun _ _ z => z.elim) fun a n => ⟨i a n, fun z => z⟩
theorem EL.len : ∀ {xs : List V} {ess : List (List Ed)}, EL K N H xs ess → xs.length = ess.length
  | _, _, .nil => rfl
  | _, _, .cons _ _ _ r => congrArg Nat.succ (EL.len r)
theorem EL.append : ∀ {xs ys : List V} {es fs : List (List Ed)}, EL K N H xs es → EL K N H ys fs → EL K N H (xs ++ ys) (es ++ fs)
  | _, _, _, _, .nil, h => h
  | _, _, _, _, .cons n e t r, h => .cons n e t (EL.append r h)
theorem EL.at : ∀ {xs : List V} {ess : List (List Ed)} {i : Nat} {es : List Ed}, EL K N H xs ess → ess[i]? = some es → ∃ b zs, xs[i]? = some (.ref b) ∧ N b ∧ H b = some (.lst zs) ∧ Ts K H ff zs (es.map Ed.tr)
  | _, _, _, _, .nil, e => by simp at e
  | _, _, 0, _, .cons n h t r, e => by
    cases (show some _ = some _ from e)
    exact ⟨_, _, rfl, n, h, t⟩
  | _, _, i + 1, _, .cons n h t r, e => by
    obtain ⟨b, zs, h1, h2⟩ := EL.at (i := i) r (by simpa using e)
    exact ⟨b, zs, by simpa using h1, h2⟩
theorem EL.take (i : Nat) : ∀ {xs : List V} {ess : List (List Ed)}, EL K N H xs ess → EL K N H (xs.take i) (ess.take i) := by
  induction i with
  | zero => exact fun _ => .nil
  | succ i ih =>
    intro xs ess h
    cases h with
    | nil => exact .nil
    | cons n e t r => exact .cons n e t (ih r)
theorem Ts.take (i : Nat) {P : Addr → Prop} : ∀ {xs : List V} {ds : List Tr}, Ts K H P xs ds → Ts K H P (xs.take i) (ds.take i) := by
  induction i with
  | zero => exact fun _ => .nil
  | succ i ih =>
    intro xs ds h
    cases h with
    | nil => exact .nil
    | cons a b => exact .cons a (ih b)
end
/-- a version: its house, its label, its edits -/
structure Ver where
  h : Hs
  lb : Str
  es : List Ed
def vH (vs : List Ver) : List Tr := vs.map fun v => .dic (hK v.h)
def vL (vs : List Ver) : List (List Ed) := vs.map Ver.es
def vB (vs : List Ver) : List V := vs.map fun v => V.str v.lb
structure HiAt (C : Addr) (K : PySem.W.Frag) (N : Addr → Prop) (H : Hp) (p : Addr) (vs : List Ver) (now : Nat) : Prop where
  ex : ∃ dx lh ll le xh xe, H p = some (.ins C dx (hfs (.ref lh) (.ref ll) (.ref le) (.int now))) ∧ N lh ∧ N ll ∧ N le ∧ H lh = some (.lst xh) ∧ Ts K H N xh (vH vs) ∧ H ll = some (.lst (vB vs)) ∧ H le = some (.lst xe) ∧ EL K N H xe (vL vs)
  lt : now < vs.length
  few : vs.length ≤ 401
section
variable {K : PySem.W.Frag} {H H' : Hp} {N N' W : Addr → Prop} {C p : Addr} {vs : List Ver} {now : Nat}
theorem HiAt.keep (h : HiAt C K N H p vs now) (k : Keeps W H H') (nt : ∀ a xs, W a → ¬ Rd H a (.tup xs)) (hN : ∀ a, N a → N' a ∧ ¬ W a) (hp : ¬ W p) : HiAt C K N' H' p vs now := by
  obtain ⟨dx, lh, ll, le, xh, xe, h1, n1, n2, n3, h2, h3, h4, h5, h6⟩ := h.ex
  exact ⟨⟨dx, lh, ll, le, xh, xe, k _ _ hp h1, (hN _ n1).1, (hN _ n2).1, (hN _ n3).1, k _ _ (hN _ n1).2 h2, h3.keep k nt hN, k _ _ (hN _ n2).2 h4, k _ _ (hN _ n3).2 h5, h6.keep k nt hN⟩, h.lt, h.few⟩
theorem HiAt.mono (h : HiAt C K N H p vs now) (s : Same H H') : HiAt C K N H' p vs now := h.keep (W := ff) (.of_same s) (fun _ _ z => z.elim) (fun _ n => ⟨n, fun z => z⟩) fun z => z
theorem HiAt.imp (h : HiAt C K N H p vs now) (i : ∀ a, N a → N' a) : HiAt C K N' H p vs now := h.keep (W := ff) (.of_same (Same.refl H)) (fun _ _ z => z.elim) (fun a n => ⟨i a n, fun z => z⟩) fun z => z
end
end TU

set_option Elab.async false
set_option linter.all false
set_option maxRecDepth 100000
namespace TU
open PySem PySem.Spec PyProof.Rows L2
theorem cutV_to {xs : List V} {n : Nat} (h : n ≤ xs.length) : cutV xs none (some (n : Int)) = xs.take n := by
  unfold cutV
  have e1 : HT.sIx xs.length 0 none = 0 := rfl
  have e2 : HT.sIx xs.length xs.length (some (n : Int)) = n := by
    unfold HT.sIx
    have hn : ¬ (n : Int) < 0 := by omega
    simp [hn]
    omega
  rw [e1, e2, List.drop_zero, Nat.sub_zero]
theorem atI_neg {xs : List V} {u : V} : atI (xs ++ [u]) (-1) = some u := by
  have e : ixN (xs ++ [u]).length (-1) = some xs.length := by
    unfold ixN
    rw [if_neg (by decide), List.length_append]
    show (if _ then _ else _) = _
    rw [if_pos (by show -((xs.length + 1 : Nat) : Int) ≤ -1; omega)]
    refine congrArg some ?_
    show (((xs.length + 1 : Nat) : Int) + -1).toNat = xs.length
    omega
  unfold atI
  rw [e]
  simp
/-- a Stale with its version; a TooMany of versions -/
def XSt (C : Addr) (v : Int) (H : Hp) (E : XK) : Prop := ∀ d H', Same H H' → H' d = some (.xd [("version", .int v)]) → E (.ref C) (some d) H'
def XTm (C : Addr) (H : Hp) (E : XK) : Prop := ∀ d H', Same H H' → H' d = some (.xd [("limit", .int 401), ("what", .str "versions")]) → E (.ref C) (some d) H'
theorem XSt.mono {C : Addr} {v : Int} {H H' : Hp} {E : XK} (s : Same H H') (x : XSt C v H E) : XSt C v H' E := fun d H1 s1 e => x d H1 (s.trans s1) e
theorem XTm.mono {C : Addr} {H H' : Hp} {E : XK} (s : Same H H') (x : XTm C H E) : XTm C H' E := fun d H1 s1 e => x d H1 (s.trans s1) e
structure VOk (v : Ver) : Prop where
  wf : Wf v.h
  fit : Fits 20 v.h
  len : v.h.length ≤ 40
  imm : ∀ e ∈ v.es, e.Imm
  few : v.es.length ≤ 30
/-- each version comes from the one before it by its edits -/
def Chn (vs : List Ver) : Prop := (∀ v ∈ vs, VOk v) ∧ ∀ (i : Nat) (u v : Ver), vs[i]? = some u → vs[i + 1]? = some v → ∃ f, appAll (cpH u.h) v.es = .ok f ∧ cpH f = v.h
instance : Inhabited Ver := ⟨⟨[], "", []⟩⟩
def vAt (vs : List Ver) (i : Nat) : Ver := (vs[i]?).getD default
/-- the edits forwards, behind version i up to i + n; backwards, from version i on n steps -/
def wayF (vs : List Ver) (i n : Nat) : List Ed := (List.range n).flatMap fun k => (vAt vs (i + 1 + k)).es
def wayB (vs : List Ver) (i n : Nat) : List Ed := (List.range n).flatMap fun k => (invs (cpH (vAt vs (i - k - 1)).h) (vAt vs (i - k)).es).reverse
def wayE (vs : List Ver) (i j : Nat) : List Ed := wayF vs i (j - i) ++ wayB vs i (i - j)
theorem flat_succ {α : Type} (f : Nat → List α) (n : Nat) : (List.range (n + 1)).flatMap f = (List.range n).flatMap f ++ f n := by
  rw [List.range_succ, List.flatMap_append]
  simp
theorem vAt_of {vs : List Ver} {i : Nat} {v : Ver} (h : vs[i]? = some v) : vAt vs i = v := by
  unfold vAt
  rw [h]
  rfl
section
variable {K : PySem.W.Frag} {σ : L2.St} {H : Hp} {D : Ends}
theorem q_rng2 {ta : TA} {R : It → Hp → Prop} (h : ta σ H fun vs H1 => ∃ i j : Int, vs = [.int i, .int j] ∧ (-(2 ^ 62) ≤ i ∧ i < 2 ^ 62 ∧ -(2 ^ 62) ≤ j ∧ j < 2 ^ 62) ∧ R (Itr i (j - i).toNat) H1) : iRng2 ta σ H R := h
theorem q_rng3 {ta : TA} {R : It → Hp → Prop} (h : ta σ H fun vs H1 => ∃ (i j c : Int) (n : Nat), vs = [.int i, .int j, .int c] ∧ RgC i j c n ∧ R (Itc i c n) H1) : iRng3 ta σ H R := h
/-- over range(i, j, c) -/
theorem for_rngC {lo c : Int} {n : Nat} {tb : TS} {j : Nat} (Pv : Nat → L2.St → Hp → Prop) (h0 : Pv 0 σ H)
    (hs : ∀ (i : Nat) σ H, i < n → Pv i σ H → tb { D with nx := Pv (i + 1), ct := Pv (i + 1), bk := D.nx } (σ.set j (some (.int (lo + i * c)))) H) (hd : ∀ σ H, Pv n σ H → D.nx σ H) : forB (Itc lo c n) (gName j) tb D σ H :=
  for_any walk_rangeC Pv h0 (fun _ _ _ _ _ => trivial) (fun i x σ H H' hi p y => by
    obtain ⟨e, y⟩ := y
    subst e
    rw [y]
    exact hs i σ _ hi p) hd
end
end TU

set_option Elab.async false
set_option linter.all false
set_option maxRecDepth 100000
namespace TU
open PySem PySem.Spec PyProof.Rows L2
section
variable {X : Cx} {pins : List (Addr × Obj)} {σ : L2.St} {H : Hp} {s : Shared} {P P' : Addr → Prop}
theorem tree_tab (I : Inv X pins σ H s) {x y : V} {v u : Value} {t t2 : Tab} (tx : T X.K H P x (.dic (tK t))) (ty : T X.K H P' y (.dic (tK t2))) (dis : ∀ z, P z → ¬ P' z) (nd : (nms t).Nodup) (im : immT t) (sm : ∀ r ∈ t, dep r.2 ≤ 60) (ho : ord t = ord t2) (rx : RelV x v) (ry : RelV y u) : PySem.W.EqTree X.prog X.w s 61 v u true := by
  obtain ⟨q, es, ex, pq, rq, kq⟩ := tx.dicAt
  subst ex
  obtain ⟨q2, es2, ey, pq2, rq2, kq2⟩ := ty.dicAt
  subst ey
  have ev : v = .ref q := rx
  have eu : u = .ref q2 := ry
  subst ev eu
  refine tree_dict (n := 60) I rq rq2 kq kq2 ?_ (fun z => dis q pq (by rw [z]; exact pq2)) fun k d x v m tx rx => ?_
  · unfold tK
    rw [List.length_map, List.length_map, ← len_ord t, ho, len_ord]
  · obtain ⟨r, hr, er⟩ := List.mem_map.mp m
    cases er
    have l3 : lk t r.1 = some r.2 := lk_of_mem nd hr
    rw [ord_lk ho] at l3
    exact ⟨r.2, by rw [get_tK, l3], fun y u ty ry => tree_leaf I tx ty (nod_of_imm (im r hr)) (sm r hr) rx ry⟩
/-- a != b, both equal houses -/
theorem ne_house {A : Around} {E : Value → Shared → Prop} {Q : Value → Shared → Prop} (I : Inv X pins σ H s) {a b : Addr} {h g : Hs} (ta : T X.K H P (.ref a) (.dic (hK h))) (tb : T X.K H P' (.ref b) (.dic (hK g))) (dis : ∀ x, P x → ¬ P' x) (wh : Wf h) (sm : Sml h) (e : cpH h = cpH g) (hu : A.units + 64 < cLine) (k : Q (.bool false) s) :
    wpAny (model X.prog X.w) A (compareOp .NotEq (.ref a) (.ref b)) Q E s := by
  obtain ⟨a', vk, ea, pa, ra, ka⟩ := ta.dicAt
  cases ea
  obtain ⟨b', vl, eb, pb, rb, kb⟩ := tb.dicAt
  cases eb
  obtain ⟨_, ya, va, rea, xa⟩ := dk_rd I.hok ra
  obtain ⟨_, yb, vb, reb, xb⟩ := dk_rd I.hok rb
  have hits : PySem.W.KeqHitsIn X.prog X.w A.in1 s vb va (va.all fun p => (valueAt vb p.1).isSome && true) := PySem.W.KeqHitsIn.of (e := fun _ => true) va fun k v y m hv => by
    obtain ⟨x, m2, rx⟩ := kv_mem rea m
    obtain ⟨d, m3, td⟩ := Tk.mem ka m2
    obtain ⟨p, hp, ep⟩ := List.mem_map.mp m3
    cases ep
    obtain ⟨t2, l2, ho⟩ := cp_lk e (lk_of_mem wh.nd hp)
    obtain ⟨y2, z1, z2⟩ := kb.gets (k := .inr p.1) (d := .dic (tK t2)) (by rw [get_hK, l2]; rfl)
    have rr := reb.val (.inr p.1)
    rw [z1] at rr
    obtain ⟨u, hu2, ru⟩ := rr.some_of
    rw [hv] at hu2
    cases hu2
    have wt := wh.tab p hp
    exact (tree_tab I td z2 dis wt.1 wt.2 (sm p hp) ho rx ru).at A.in1 (by show A.units + 1 + 61 < cLine; omega)
  have len : va.length = vb.length := by
    rw [← rea.length, ← reb.length, ka.length, kb.length]
    unfold hK
    rw [List.length_map, List.length_map, ← len_cp h, e, len_cp]
  have all : (va.all fun p => (valueAt vb p.1).isSome && true) = true := by
    rw [List.all_eq_true]
    intro p m
    obtain ⟨x, m2, rx⟩ := kv_mem rea m
    obtain ⟨d, m3, td⟩ := Tk.mem ka m2
    obtain ⟨r, hp, ep⟩ := List.mem_map.mp m3
    have e1 : p.1 = .inr r.1 := (congrArg Prod.fst ep).symm
    obtain ⟨t2, l2, ho⟩ := cp_lk e (lk_of_mem wh.nd hp)
    obtain ⟨y2, z1, z2⟩ := kb.gets (k := .inr r.1) (d := .dic (tK t2)) (by rw [get_hK, l2]; rfl)
    have rr := reb.val (.inr r.1)
    rw [z1] at rr
    obtain ⟨u, hu2, ru⟩ := rr.some_of
    rw [e1, hu2]
    rfl
  rw [all] at hits
  refine wpAny_richCompare_same_room (op := .NotEq) xa.typeIs xb.typeIs PySem.F.slot_dict_ne (wpAny_call_entry PySem.F.slot_dict_ne xa.typeIs PySem.F.entry_dict_ne ?_ (PySem.F.args_dict_ne_2 _ _)) (by omega)
  show wpAny _ _ (Builtin.Dict.dictSlotArgs "__ne__" ⟨[.ref a, .ref b], []⟩ >>= _) _ _ s
  refine wpAny_bind ?_; unfold Builtin.Dict.dictSlotArgs
  refine wpAny_bind (wpAny_notOrdered_dict xa.typeIs ?_); show wpAny _ _ (pure (Value.ref a, Value.ref b)) _ _ s
  refine wpAny_pure (wpAny_bind (wpAny_isInstance (T := "dict") xb.typeIs PySem.F.sub_dict_dict ?_))
  simp only [Bool.not_true, Bool.false_eq_true, if_false]; refine wpAny_bind (wpAny_pure (wpAny_bind (wpAny_pure ?_)))
  refine wpAny_bind (PySem.W.keq_samePairsIn ya yb xa xb (fun _ => hits) (wpAny_pure ⟨_, rfl, (fun z => nomatch z), ?_⟩))
  rw [len]
  simpa using k
end
def rNeHs (K : PySem.W.Frag) : R2 := fun x y H Q => ∃ (a b : Addr) (h g : Hs) (N1 N2 : Addr → Prop), x = .ref a ∧ y = .ref b ∧ T K H N1 (.ref a) (.dic (hK h)) ∧ T K H N2 (.ref b) (.dic (hK g)) ∧ (∀ z, N1 z → ¬ N2 z) ∧ Wf h ∧ Sml h ∧ cpH h = cpH g ∧ Q (.bl false) H
theorem op_neHs {X : Cx} (hu : X.A.units + 64 < cLine) : OpR X (compareOp .NotEq) (rNeHs X.K) := by
  intro pins s σ H x y v u Q I rx ry h
  obtain ⟨a, b, h, g, N1, N2, rfl, rfl, ta, tb, dis, wh, sm, e, k⟩ := h
  cases (show v = Value.ref a from rx)
  cases (show u = Value.ref b from ry)
  exact ne_house I ta tb dis wh sm e hu ⟨.bl _, H, I, rfl, k⟩
/-- != of anything, of houses too -/
def rNeW (K : PySem.W.Frag) : R2 := fun x y H Q => rNeU K x y H Q ∨ rNeHs K x y H Q
theorem k_neW {X : Cx} {K : PySem.W.Frag} (h : X.K = K) (hu : X.A.units + 64 < cLine) : OpR X (compareOp .NotEq) (rNeW K) := h ▸ (op_neU hu).or (op_neHs hu)
end TU

set_option Elab.async false
set_option linter.all false
set_option maxRecDepth 100000
namespace TU
open PySem PySem.Spec PyProof.Rows L2
section
variable {K : PySem.W.Frag} {H : Hp} {P : Addr → Prop}
theorem rd_live {a : Addr} {u : HO} (h : Rd H a u) : H a ≠ none := by
  rcases h with e | ⟨o, e⟩ <;> (rw [e]; exact fun z => nomatch z)
mutual
/-- where no list lies within, all that is met stands in the heap -/
theorem T.livek : ∀ {v : V} {d : Tr}, nol d = true → T K H P v d → T K H (fun z => P z ∧ H z ≠ none) v d
  | _, _, _, .non => .non
  | _, _, _, .bl b => .bl b
  | _, _, _, .int i => .int i
  | _, _, _, .str x => .str x
  | _, _, n, .lst _ _ _ => by simp [nol] at n
  | _, _, n, .tup s t => .tup s (Ts.livek (by simpa [nol] using n) t)
  | _, _, n, .dic p r t => .dic ⟨p, rd_live r⟩ r (Tk.livek (by simpa [nol] using n) t)
theorem Ts.livek : ∀ {v : List V} {d : List Tr}, nols d = true → Ts K H P v d → Ts K H (fun z => P z ∧ H z ≠ none) v d
  | _, _, _, .nil => .nil
  | _, _, n, .cons a b => by
    simp only [nols, Bool.and_eq_true] at n
    exact .cons (T.livek n.1 a) (Ts.livek n.2 b)
theorem Tk.livek : ∀ {v : List (Key × V)} {d : List (Key × Tr)}, nolk d = true → Tk K H P v d → Tk K H (fun z => P z ∧ H z ≠ none) v d
  | _, _, _, .nil => .nil
  | _, _, n, .cons a b => by
    simp only [nolk, Bool.and_eq_true] at n
    exact .cons (T.livek n.1 a) (Tk.livek n.2 b)
end
theorem nolk_all : ∀ {ks : List (Key × Tr)}, (∀ p ∈ ks, nol p.2 = true) → nolk ks = true
  | [], _ => rfl
  | p :: ks, h => by
    have h1 := h p List.mem_cons_self
    have h2 := nolk_all fun q hq => h q (List.mem_cons_of_mem _ hq)
    simp only [nolk, h1, h2, Bool.and_self]
theorem nols_all : ∀ {ks : List Tr}, (∀ p ∈ ks, nol p = true) → nols ks = true
  | [], _ => rfl
  | p :: ks, h => by
    have h1 := h p List.mem_cons_self
    have h2 := nols_all fun q hq => h q (List.mem_cons_of_mem _ hq)
    simp only [nols, h1, h2, Bool.and_self]
theorem nol_house {h : Hs} (w : Wf h) : nol (.dic (hK h)) = true := by
  simp only [nol]
  refine nolk_all fun p hp => ?_
  obtain ⟨q, hq, rfl⟩ := List.mem_map.mp hp
  simp only [nol]
  refine nolk_all fun y hy => ?_
  obtain ⟨z, hz, rfl⟩ := List.mem_map.mp hy
  exact nol_of_imm ((w.tab q hq).2 z hz)
theorem EL.live {N : Addr → Prop} : ∀ {xs : List V} {ess : List (List Ed)}, EL K N H xs ess → EL K (fun z => N z ∧ H z ≠ none) H xs ess
  | _, _, .nil => .nil
  | _, _, .cons n e t r => .cons ⟨n, by rw [e]; exact fun z => nomatch z⟩ e t (EL.live r)
theorem HiAt.live {C p : Addr} {N : Addr → Prop} {vs : List Ver} {now : Nat} (h : HiAt C K N H p vs now) (w : ∀ v ∈ vs, Wf v.h) : HiAt C K (fun z => N z ∧ H z ≠ none) H p vs now := by
  obtain ⟨dx, lh, ll, le, xh, xe, h1, n1, n2, n3, h2, h3, h4, h5, h6⟩ := h.ex
  have ln : ∀ {z : Addr} {o : HO}, H z = some o → H z ≠ none := fun e => by rw [e]; exact fun z => nomatch z
  refine ⟨⟨dx, lh, ll, le, xh, xe, h1, ⟨n1, ln h2⟩, ⟨n2, ln h4⟩, ⟨n3, ln h5⟩, h2, h3.livek (nols_all fun d hd => ?_), h4, h5, h6.live⟩, h.lt, h.few⟩
  obtain ⟨v, hv, rfl⟩ := List.mem_map.mp hd
  exact nol_house (w v hv)
end
end TU

set_option Elab.async false
set_option linter.all false
set_option maxRecDepth 100000
namespace TU
open PySem PySem.Spec PyProof.Rows L2
/-! ### sets of tuples of texts -/
abbrev hS (P : Program) (w : World) (k : List Str) : Int := tupleKeyHash (strKind P w) k
def VP (P : Program) (w : World) (h : Heap) (v : Value) (k : List Str) : Prop := ∃ b, v = .ref b ∧ IsTupleKey (strKind P w) h k b
section
variable {P : Program} {w : World} {A : Around} {E : Value → Shared → Prop} {s : Shared}
theorem items_txt {k : List Str} {vs : List Value} (h : ItemsAre (strKind P w) k vs) : ∀ v ∈ vs, ∃ x t, v = Value.str x t := by
  intro v hv
  induction h with
  | nil => exact absurd hv (by simp)
  | @cons x u ks us e _ ih =>
    cases hv with
    | head => exact ⟨x, Value.isStrOf_shape e⟩
    | tail _ m => exact ih m
theorem VP.keep {h h' : Heap} {v : Value} {k : List Str} (x : VP P w h v k) (kp : ∀ b o, h.get? b = some o → h'.get? b = some o) : VP P w h' v k := by
  obtain ⟨b, e, o, its, n, ho, r⟩ := x
  exact ⟨b, e, o, its, n, kp b o ho, r⟩
/-- a question asked of each item that all texts answer alike -/
theorem each_txt {α : Type} {f : Value → α → Sem (ForInStep α)} {its : List Value} {z : α} (h : ∀ v ∈ its, ∃ x t, v = Value.str x t) (hf : ∀ x t, f (.str x t) z = pure (.yield z)) {Q : α → Shared → Prop} (q : Q z s) :
    wpAny (model P w) A (forIn its z f) Q E s := by
  induction its with
  | nil => exact wpAny_pure q
  | cons v r ih =>
    obtain ⟨x, t, rfl⟩ := h v List.mem_cons_self
    rw [List.forIn_cons, hf]
    exact wpAny_bind (wpAny_pure (ih fun u m => h u (List.mem_cons_of_mem _ m)))
theorem cls_txt (n : Nat) (x : Str) (t : Tok) : ofAClassStatement n (.str x t) = pure false := by cases n <;> rfl
theorem val_txt (n : Nat) (x : Str) (t : Tok) : hashByValue n (.str x t) = pure false := hashByValue_scannable n (x := .str x t) rfl
theorem first_txt {α : Type} {f : Value → α → Sem (ForInStep α)} {its : List Value} {z d : α} (h : ∀ v ∈ its, ∃ x t, v = Value.str x t) (hf : ∀ x t, f (.str x t) z = pure (.done d)) {Q : α → Shared → Prop} (q : Q z s) (q2 : Q d s) :
    wpAny (model P w) A (forIn its z f) Q E s := by
  cases its with
  | nil => exact wpAny_pure q
  | cons v r =>
    obtain ⟨x, t, rfl⟩ := h v List.mem_cons_self
    rw [List.forIn_cons, hf]
    exact wpAny_bind (wpAny_pure (wpAny_pure q2))
theorem cls_pair {k : List Str} {b : Addr} {Q : Bool → Shared → Prop} (hk : IsTupleKey (strKind P w) s.heap k b) (q : Q false s) : wpAny (model P w) A (ofAClassStatement 8 (.ref b)) Q E s := by
  have ty := hk.typeIs
  obtain ⟨o, its, n, e1, _, e3, e4⟩ := hk
  have tt := items_txt e4
  unfold ofAClassStatement
  refine wpAny_bind (wpAny_typeOf ty ?_)
  have yes : (("tuple" : String) == "tuple") = true := by decide
  simp only [yes, if_true, Bool.not_true, Bool.false_eq_true, if_false]
  try refine wpAny_bind (wpAny_pure ?_)
  refine wpAny_bind (wpAny_seqItems e1 e3 ?_)
  dsimp only
  refine wpAny_bind ?_
  rw [← Array.forIn_toList]
  refine each_txt tt (fun x t => ?_) ?_
  · rw [cls_txt]
    rfl
  · exact wpAny_pure q
theorem val_pair {k : List Str} {b : Addr} {Q : Bool → Shared → Prop} (hk : IsTupleKey (strKind P w) s.heap k b) (q : ∀ y, Q y s) : wpAny (model P w) A (hashByValue 8 (.ref b)) Q E s := by
  have ty := hk.typeIs
  obtain ⟨o, its, n, e1, _, e3, e4⟩ := hk
  have tt := items_txt e4
  unfold hashByValue
  refine wpAny_bind (wpAny_specialOf ty F.slot_tuple_hash.lookup ?_)
  refine wpAny_bind (wpAny_seqItems e1 e3 ?_)
  refine wpAny_bind ?_
  rw [← Array.forIn_toList]
  refine first_txt tt (d := (some false, ())) (fun x t => ?_) ?_ ?_
  · rw [val_txt]
    rfl
  · exact wpAny_pure (q true)
  · exact wpAny_pure (q false)
theorem all_pass {α β : Type} {f : α → β → Sem (ForInStep β)} {z : β} {Q : β → Shared → Prop} (q : Q z s) : ∀ {l : List α}, (∀ v ∈ l, ∀ Q' : ForInStep β → Shared → Prop, Q' (.yield z) s → wpAny (model P w) A (f v z) Q' E s) → wpAny (model P w) A (forIn l z f) Q E s
  | [], _ => wpAny_pure q
  | v :: r, h => by
    rw [List.forIn_cons]
    exact wpAny_bind (h v List.mem_cons_self _ (all_pass q fun u m => h u (List.mem_cons_of_mem _ m)))
/-- what is asked ahead of a search among tuples of texts shows nothing -/
theorem seen_pair {k : List Str} {b : Addr} {ys : List Value} {Q : Bool → Shared → Prop} (hk : IsTupleKey (strKind P w) s.heap k b) (hy : ∀ y ∈ ys, ∃ g, VP P w s.heap y g) (q : Q false s) : wpAny (model P w) A (searchCouldBeSeen (.ref b) ys) Q E s := by
  unfold searchCouldBeSeen
  refine wpAny_bind ?_
  refine all_pass ?_ fun y hm Q' q' => ?_
  · exact wpAny_pure q
  · obtain ⟨g, c, rfl, hc⟩ := hy y hm
    by_cases e : (b == c || (carriedByValue (.ref b) && carriedByValue (.ref c))) = true
    · exact wp_if_pos e (wpAny_pure q')
    · refine wp_if_neg e (wpAny_bind (wpAny_eqIsQuiet_tuple hk ?_))
      refine wp_if_neg (by decide) (wpAny_bind (wpAny_eqIsQuiet_tuple hc ?_))
      refine wp_if_neg (by decide) (wpAny_bind (cls_pair hk ?_))
      refine wp_if_neg (by decide) (wpAny_bind (cls_pair hc ?_))
      exact wp_if_neg (by decide) (wpAny_pure q')
/-- a table that holds the tuples L -/
structure PT (P : Program) (w : World) (L : List (Value × List Str)) (es : Array (Int × Value)) (t : SetTable) : Prop where
  rows : es.toList = L.map fun z => (hS P w z.2, z.1)
  tab : TabOk t (L.map fun z => hS P w z.2)
  nd : (L.map (·.2)).Nodup
  led : w.params.followText "set-order" = true ∨ t.led = true
  room : L.length * 5 < t.mask * 3
  few : L.length < 64
def MP (P : Program) (w : World) (h : Heap) (a : Addr) (L : List (Value × List Str)) : Prop := ∃ o es ep t, h.get? a = some o ∧ o.ExactSet ∧ o.data = .set es ep t ∧ PT P w L es t
variable {L : List (Value × List Str)} {es : Array (Int × Value)} {ep : Nat} {t : SetTable} {a : Addr}
theorem PT.sz (R : PT P w L es t) : es.size = L.length := by rw [← Array.length_toList, R.rows, List.length_map]
theorem PT.pl (R : PT P w L es t) : t.place.size = L.length := by rw [R.tab.sz, List.length_map]
theorem PT.fit (R : PT P w L es t) : t.fits es.size = true := by
  have e1 := R.pl
  have e2 := R.sz
  have e3 := R.room
  unfold SetTable.fits SetTable.fill
  rw [R.tab.dm, Bool.and_eq_true, beq_iff_eq, decide_eq_true_eq]
  constructor
  · rw [e1, e2]
  · show t.place.size + 0 ≤ t.mask
    omega
theorem PT.row (R : PT P w L es t) {i : Nat} {z : Value × List Str} (e : L[i]? = some z) : es[i]? = some (hS P w z.2, z.1) := by
  have q : es.toList[i]? = some (hS P w z.2, z.1) := by rw [R.rows, List.getElem?_map, e]; rfl
  rw [← Array.getElem?_toList]
  exact q
/-- the way of a hash, step by step -/
abbrev wayP (t : SetTable) (h : Int) (c : Nat) : SetTable.Probe := nth t.mask (runAt t.mask (SetTable.bits h % (t.mask + 1)) (SetTable.bits h)) c
theorem nth_dm (m : Nat) : ∀ (c : Nat) (p : SetTable.Probe), p.dummy = none → (nth m p c).dummy = none
  | 0, _, e => e
  | c + 1, p, e => nth_dm m c (adv m p) (by unfold adv; split <;> exact e)
/-- from the c-th step on: one of equal hash, or the empty slot K -/
theorem PT.ask (R : PT P w L es t) {h : Int} {K c : Nat} (hf : K < 10 * SetTable.turns t.mask) (hK : way t.mask h K ∉ t.place.toList) (hb : ∀ j, j < K → way t.mask h j ∈ t.place.toList) (hc : c ≤ K) :
    (∃ q i z, c ≤ q ∧ q < K ∧ L[i]? = some z ∧ t.slot (way t.mask h q) = .live i ∧ hS P w z.2 = h ∧ (∀ (j i' : Nat) y, c ≤ j → j < q → L[i']? = some y → t.place.toList[i']? = some (way t.mask h j) → hS P w y.2 ≠ h) ∧
      t.probe (fun i => (es[i]?.map (·.1)).getD 0) h (wayP t h c) = some (.candidate (way t.mask h q) i (wayP t h (q + 1)))) ∨
    ((∀ (j i' : Nat) y, c ≤ j → j < K → L[i']? = some y → t.place.toList[i']? = some (way t.mask h j) → hS P w y.2 ≠ h) ∧ t.probe (fun i => (es[i]?.map (·.1)).getD 0) h (wayP t h c) = some (.empty (way t.mask h K) none)) := by
  have at_ : ∀ q, nth t.mask (wayP t h c) q = wayP t h (c + q) := fun q => (nth_add t.mask c _ q).symm
  have val : ∀ {i : Nat} {z : Value × List Str}, L[i]? = some z → (es[i]?.map (·.1)).getD 0 = hS P w z.2 := fun e => by rw [R.row e]; rfl
  have row : ∀ {i j : Nat}, t.place.toList[i]? = some j → ∃ z, L[i]? = some z := fun {i j} e => by
    have e1 := (List.getElem?_eq_some_iff.mp e).1
    rw [Array.length_toList, R.pl] at e1
    exact ⟨_, List.getElem?_eq_getElem e1⟩
  rcases go_spec t R.tab.ris R.tab.dm (fun i => (es[i]?.map (·.1)).getD 0) h (10 * SetTable.turns t.mask) (K - c) (wayP t h c) (nth_dm _ c _ rfl) (by omega)
    (fun j hj => by rw [at_]; exact hb (c + j) (by omega)) (by rw [at_, Nat.add_sub_cancel' hc]; exact hK) with ⟨q, i, g1, g2, g3, g4, g5⟩ | ⟨g1, g2⟩
  · rw [at_] at g2
    obtain ⟨z, hz⟩ := row g2
    refine .inl ⟨c + q, i, z, Nat.le_add_right _ _, by omega, hz, slot_live R.tab.ris g2, (val hz).symm.trans g3, fun j i' y hj1 hj2 hy hp e => ?_, ?_⟩
    · refine g4 (j - c) i' (by omega) ?_ ((val hy).trans e)
      rw [at_, Nat.add_sub_cancel' hj1]
      exact hp
    · rw [at_, at_] at g5
      exact g5
  · refine .inr ⟨fun j i' y hj1 hj2 hy hp e => ?_, ?_⟩
    · refine g1 (j - c) i' (by omega) ?_ ((val hy).trans e)
      rw [at_, Nat.add_sub_cancel' hj1]
      exact hp
    · rw [at_, Nat.add_sub_cancel' hc] at g2
      exact g2
/-- the search -/
theorem look (hob : ∃ o, s.heap.get? a = some o ∧ o.ExactSet ∧ o.data = .set es ep t) (R : PT P w L es t) (hL : ∀ z ∈ L, VP P w s.heap z.1 z.2) {x : Addr} {k : List Str} (hx : IsTupleKey (strKind P w) s.heap k x) (hu : A.units < cLine) {Q : SetFound → Shared → Prop} {K : Nat}
    (hf : K < 10 * SetTable.turns t.mask) (hK : way t.mask (hS P w k) K ∉ t.place.toList) (hb : ∀ j, j < K → way t.mask (hS P w k) j ∈ t.place.toList) (yes : k ∈ L.map (·.2) → Q (.there none) s) (no : k ∉ L.map (·.2) → Q (.free (way t.mask (hS P w k) K) false) s) :
    ∀ (n c : Nat) (st : Option SetTable.Probe), st.getD (t.probeStart (hS P w k)) = wayP t (hS P w k) c → c ≤ K → K - c < n →
      (∀ (i : Nat) z, L[i]? = some z → z.2 = k → ∃ j, c ≤ j ∧ j < K ∧ t.place.toList[i]? = some (way t.mask (hS P w k) j)) → wpAny (model P w) A (setSearchFrom a (.ref x) (hS P w k) true n st) Q E s := by
  obtain ⟨o, hob, hex, hda⟩ := hob
  have odd : ¬ t.gaveWay = true := by
    unfold SetTable.gaveWay
    rw [mask_odd R.tab.mok]
    decide
  intro n
  induction n with
  | zero => exact fun c st _ _ z => absurd z (Nat.not_lt_zero _)
  | succ n ih =>
    intro c st e hc hn left
    rw [setSearchFrom_succ]
    refine wpAny_bind (wpAny_setState_of hob hda R.fit ?_)
    refine wp_if_neg odd ?_
    try refine wpAny_bind (wpAny_pure ?_)
    rw [e]
    rcases R.ask (h := hS P w k) hf hK hb hc with ⟨q, i, z, q1, q2, q3, q4, q5, q6, q7⟩ | ⟨q6, q7⟩
    · rw [q7]
      dsimp only
      have mz : z ∈ L := List.mem_of_getElem? q3
      obtain ⟨zv, zk⟩ := z
      obtain ⟨b, eb, hbk⟩ := hL _ mz
      cases (show zv = .ref b from eb)
      have go : wpAny (model P w) A (searchRest a (.ref x) (hS P w k) true n es t (way t.mask (hS P w k) q) i (wayP t (hS P w k) (q + 1))) Q E s := by
        unfold searchRest
        rw [R.row q3]
        dsimp only
        refine wpAny_bind (wpAny_holding (wpAny_eqBool_tuple hu hbk hx ?_))
        refine wpAny_bind (wpAny_setState_of hob hda R.fit ?_)
        dsimp only
        by_cases ek : zk = k
        · refine wp_if_pos (by rw [decide_eq_true ek]; rfl) (wpAny_pure (yes ?_))
          exact List.mem_map.mpr ⟨_, mz, ek⟩
        · have no1 : ¬ (true && decide (zk = k)) = true := by
            rw [decide_eq_false ek]
            decide
          refine wp_if_neg no1 ?_
          try refine wpAny_bind (wpAny_pure ?_)
          rw [sameMem]
          simp only [if_true, q4, R.row q3]
          refine wpAny_bind (wpAny_isSame_ref_self (wpAny_bind (wpAny_pure ?_)))
          simp only [if_true]
          refine wp_if_neg (by rw [decide_eq_false ek]; decide) ?_
          refine ih (q + 1) _ rfl q2 (by omega) fun i0 y h0 hy => ?_
          obtain ⟨j, j1, j2, j3⟩ := left i0 y h0 hy
          refine ⟨j, ?_, j2, j3⟩
          rcases Nat.lt_trichotomy j q with l | l | l
          · exact absurd (congrArg (hS P w) hy) (q6 j i0 y j1 l h0 j3)
          · exfalso
            rw [l] at j3
            have s0 := slot_live R.tab.ris j3
            rw [q4] at s0
            cases s0
            rw [q3] at h0
            cases h0
            exact ek hy
          · exact l
      by_cases hl : t.led = true
      · refine wp_if_neg (by rw [hl]; decide) ?_
        try refine wpAny_bind (wpAny_pure ?_)
        exact go
      · refine wp_if_pos (by rw [Bool.not_eq_true _ |>.mp hl]; rfl) ?_
        refine wpAny_bind (seen_pair hx (fun y hy => ?_) ?_)
        · obtain ⟨r, hr, er⟩ := List.mem_map.mp hy
          have m2 : r ∈ es.toList := by
            have := Array.mem_toList_iff.mp hr
            exact Array.mem_toList_iff.mpr (Array.mem_filter.mp this).1
          rw [R.rows] at m2
          obtain ⟨u, hu2, eu⟩ := List.mem_map.mp m2
          refine ⟨u.2, ?_⟩
          rw [← er, ← eu]
          exact hL u hu2
        · refine wp_if_neg (by decide) ?_
          try refine wpAny_bind (wpAny_pure ?_)
          exact go
    · rw [q7]
      refine wpAny_pure (no fun m => ?_)
      obtain ⟨z, hz, ez⟩ := List.mem_map.mp m
      obtain ⟨i, hi, ei⟩ := List.getElem_of_mem hz
      have gi : L[i]? = some z := by rw [List.getElem?_eq_getElem hi, ei]
      obtain ⟨j, j1, j2, j3⟩ := left i z gi ez
      exact q6 j i z j1 j2 gi j3 (congrArg (hS P w) ez)
end
end TU

set_option Elab.async false
set_option linter.all false
set_option maxRecDepth 100000
namespace TU
open PySem PySem.Spec PyProof.Rows L2
section
variable {P : Program} {w : World} {A : Around} {E : Value → Shared → Prop} {s : Shared}
theorem all_at {α : Type} (L : List α) : (List.range L.length).filterMap (fun i => L[i]?) = L := by
  have e : (List.range L.length).map (fun i => L[i]?) = L.map some := by
    refine List.ext_getElem (by simp) fun i h1 h2 => ?_
    simp at h1
    simp [h1]
  have z : (List.range L.length).filterMap (fun i => L[i]?) = ((List.range L.length).map fun i => L[i]?).filterMap id := by rw [List.filterMap_map]; rfl
  rw [z, e, List.filterMap_map]
  exact List.filterMap_some
/-- rows taken in another order -/
theorem rows_pick {α : Type} {f : α → Int} {g : α → Value} {L : List α} {es : Array (Int × Value)} {order : Array Nat} (hr : es.toList = L.map fun z => (f z, g z)) (hp : order.toList.Perm (List.range L.length)) :
    ∃ L2 : List α, (order.filterMap (es[·]?)).toList = L2.map (fun z => (f z, g z)) ∧ L2.Perm L ∧ L2.map f = order.toList.map fun i => (es.map (·.1)).getD i 0 := by
  have one : ∀ i, es[i]? = (L[i]?).map fun z => (f z, g z) := fun i => by rw [← Array.getElem?_toList, hr, List.getElem?_map]
  refine ⟨order.toList.filterMap fun i => L[i]?, ?_, ?_, ?_⟩
  · rw [Array.toList_filterMap, List.map_filterMap]
    exact congrArg (fun q => List.filterMap q order.toList) (funext one)
  · have q := hp.filterMap fun i => L[i]?
    rw [all_at] at q
    exact q
  · have lt : ∀ i ∈ order.toList, i < L.length := fun i m => List.mem_range.mp (hp.mem_iff.mp m)
    generalize order.toList = l at lt
    induction l with
    | nil => rfl
    | cons i l ih =>
      have hi := lt i List.mem_cons_self
      have e1 : L[i]? = some L[i] := List.getElem?_eq_getElem hi
      rw [List.filterMap_cons_some e1, List.map_cons, List.map_cons, ih fun j m => lt j (List.mem_cons_of_mem _ m)]
      have e2 : (es.map (·.1))[i]? = some (f L[i]) := by rw [Array.getElem?_map, one, e1]; rfl
      rw [Array.getD_eq_getD_getElem?, e2]
      rfl
variable {L : List (Value × List Str)} {es : Array (Int × Value)} {ep : Nat} {t : SetTable} {a : Addr}
/-- laid anew, in a larger table -/
theorem pt_relay {o : Obj} (hob : s.heap.get? a = some o) (hex : o.ExactSet) (hda : o.data = .set es ep t) (hr : es.toList = L.map fun z => (hS P w z.2, z.1)) (hz : t.place.size = es.size) (hd : t.dummies = #[]) (hm : es.size ≤ t.mask) (nd : (L.map (·.2)).Nodup)
    (ld : w.params.followText "set-order" = true ∨ t.led = true) (few : L.length < 64) {n M : Nat} (hn : SetTable.sizeAbove n = M + 1) (hM : MaskOk M) (hl : L.length * 5 < M * 3) {Q : Unit → Shared → Prop}
    (fin : ∀ h' L', Heap.SameBut a s.heap h' → MP P w h' a L' → L'.Perm L → Q () { s with heap := h' }) : wpAny (model P w) A (setRelay a n) Q E s := by
  have sz : es.size = L.length := by rw [← Array.length_toList, hr, List.length_map]
  have ft : t.fits es.size = true := by
    unfold SetTable.fits SetTable.fill
    rw [hd, Bool.and_eq_true, beq_iff_eq, decide_eq_true_eq]
    exact ⟨hz, by show t.place.size + 0 ≤ t.mask; omega⟩
  have M128 : M ≤ 127 := by
    rcases hM with e | e | e <;> omega
  obtain ⟨t2, ord2, e1, e2, e3, e4, e5, _, _⟩ := relaid_ok t (hs := es.map (·.1)) (wanted := n) (M := M) (by rw [hn]; rfl) hM (by rw [Array.size_map, sz]; omega)
  rw [Array.size_map, sz] at e2
  obtain ⟨L2, r1, r2, r3⟩ := rows_pick (f := fun z : Value × List Str => hS P w z.2) (g := fun z => z.1) hr e2
  rw [← r3] at e3
  have sz2 : (ord2.filterMap (es[·]?)).size = es.size := by rw [← Array.length_toList, r1, List.length_map, r2.length_eq, sz]
  rw [setRelay_eq]
  refine wpAny_bind (wpAny_setState_of hob hda ft ?_)
  refine wp_if_neg (by rw [hn, sizeLine_eq]; omega) ?_
  try refine wpAny_bind (wpAny_pure ?_)
  rw [e1]
  dsimp only
  refine wpAny_bind ?_
  have same : ¬ ((ord2.filterMap (es[·]?)).size != es.size) = true := by
    rw [sz2]
    simp
  refine wp_if_neg same ?_
  try refine wpAny_bind (wpAny_pure ?_)
  refine wpAny_pure ?_
  refine wpAny_storeSet_of hob hda ?_ (by rw [sz2, sz, sizeLine_eq]; omega)
  exact fin _ L2 (Heap.SameBut.update s.heap a _) ⟨_, _, _, _, store_at hob hda, hex, rfl, r1, e3, (r2.map (·.2)).nodup_iff.mpr nd, by rw [e5]; exact ld, by rw [e4, r2.length_eq]; exact hl, by rw [r2.length_eq]; exact few⟩ r2
/-- one more, laid into its slot -/
theorem PT.lay (R : PT P w L es t) {v : Value} {k : List Str} (nm : k ∉ L.map (·.2)) (few : L.length + 1 < 64) {K : Nat} (hK : way t.mask (hS P w k) K ∉ t.place.toList) (hb : ∀ j, j < K → way t.mask (hS P w k) j ∈ t.place.toList) :
    ∃ L1 : List (Value × List Str), L1.Perm ((v, k) :: L) ∧ (SetTable.insertAt es (t.put (way t.mask (hS P w k) K)).2 (hS P w k, v)).toList = L1.map (fun z => (hS P w z.2, z.1)) ∧ TabOk (t.put (way t.mask (hS P w k) K)).1 (L1.map fun z => hS P w z.2) ∧ (L1.map (·.2)).Nodup ∧
      (t.put (way t.mask (hS P w k) K)).1.mask = t.mask ∧ (t.put (way t.mask (hS P w k) K)).1.led = t.led ∧ (t.put (way t.mask (hS P w k) K)).1.fill = L1.length := by
  obtain ⟨c1, _, c3, c4, c5, _, _, _, c9⟩ := R.tab.put hK hb
  generalize hp : SetTable.below t.place (way t.mask (hS P w k) K) = p at c1 c3
  refine ⟨L.take p ++ (v, k) :: L.drop p, ?_, ?_, ?_, ?_, c4, c5, ?_⟩
  · have z : (L.take p ++ (v, k) :: L.drop p).Perm ((v, k) :: (L.take p ++ L.drop p)) := List.perm_middle
    rwa [List.take_append_drop] at z
  · rw [c1, SetTable.toList_insertAt, R.rows, List.map_append, List.map_cons, List.map_take, List.map_drop]
  · rw [List.map_append, List.map_cons, List.map_take, List.map_drop]
    exact c3
  · have z : ((L.take p ++ (v, k) :: L.drop p).map (·.2)).Perm (((v, k) :: (L.take p ++ L.drop p)).map (·.2)) := List.perm_middle.map _
    rw [List.take_append_drop] at z
    exact z.nodup_iff.mpr (List.nodup_cons.mpr ⟨nm, R.nd⟩)
  · rw [c9, len_ins _ (by
      have q : p ≤ t.place.size := by rw [← hp]; exact (below_cut R.tab.ris _).1
      rwa [R.pl] at q), List.length_map]
/-- adding a tuple of texts -/
theorem mp_add {x : Addr} {k : List Str} {Q : Bool → Shared → Prop} (hM : MP P w s.heap a L) (hL : ∀ z ∈ L, VP P w s.heap z.1 z.2) (hx : IsTupleKey (strKind P w) s.heap k x) (hu : A.units < cLine) (few : L.length + 1 < 64)
    (fin : ∀ b h' L', Heap.SameBut a s.heap h' → MP P w h' a L' → (k ∈ L.map (·.2) → L' = L) → (k ∉ L.map (·.2) → L'.Perm ((.ref x, k) :: L)) → Q b { s with heap := h' }) :
    wpAny (model P w) A (setAddHashed a (.ref x) (hS P w k)) Q E s := by
  obtain ⟨o, es, ep, t, hob, hex, hda, R⟩ := id hM
  have room := R.room
  have turn : 10 * SetTable.turns t.mask < 99999 := by
    unfold SetTable.turns
    rcases R.tab.mok with e | e | e <;> omega
  obtain ⟨K, f1, f2, f3⟩ := R.tab.first (by rw [List.length_map]; omega) (hS P w k)
  have start : ∀ (i : Nat) z, L[i]? = some z → z.2 = k → ∃ j, 0 ≤ j ∧ j < K ∧ t.place.toList[i]? = some (way t.mask (hS P w k) j) := fun i z hz ez => by
    have g1 : (L.map fun z => hS P w z.2)[i]? = some (hS P w k) := by rw [List.getElem?_map, hz, ← ez]; rfl
    have g2 := (List.getElem?_eq_some_iff.mp hz).1
    have g3 : i < t.place.toList.length := by rw [Array.length_toList, R.pl]; exact g2
    obtain ⟨j, j1, j2⟩ := R.tab.before f2 g1 (List.getElem?_eq_getElem g3)
    exact ⟨j, Nat.zero_le _, j1, by rw [j2]; exact List.getElem?_eq_getElem g3⟩
  unfold setAddHashed
  refine wpAny_holding ?_
  rw [show (100000 : Nat) = 99999 + 1 from rfl, setAddHashedIn_succ]
  refine wpAny_bind (wpAny_setState_of hob hda R.fit ?_)
  refine wp_if_neg (by simp [byScan, Value.scannable]) ?_
  try refine wpAny_bind (wpAny_pure ?_)
  refine wpAny_bind ?_
  unfold setSearch
  refine look ⟨o, hob, hex, hda⟩ R hL hx hu f1 f2 f3 (fun m => ?_) (fun nm => ?_) 100000 0 none rfl (Nat.zero_le _) (by omega) start
  · exact wpAny_pure (fin false s.heap L (Heap.SameBut.refl a s.heap) hM (fun _ => rfl) fun c => absurd m c)
  · dsimp only
    obtain ⟨L1, p1, p2, p3, p4, p5, p6, p7⟩ := R.lay (v := .ref x) nm few f2 f3
    have l1 : L1.length = L.length + 1 := p1.length_eq
    refine wpAny_bind (wpAny_setState_of hob hda R.fit ?_)
    dsimp only
    generalize t.put (way t.mask (hS P w k) K) = pt at p2 p3 p5 p6 p7
    obtain ⟨t1, p⟩ := pt
    dsimp only at p2 p3 p5 p6 p7 ⊢
    have go : ∀ y : Bool, wpAny (model P w) A (do
        storeSet a (SetTable.insertAt es p (hS P w k, .ref x)) (if y = true then t1 else { t1 with plain := false })
        if (!false && (if y = true then t1 else { t1 with plain := false }).tooFull) = true then setRelay a (SetTable.grown (es.size + 1))
        return true) Q E s := by
      intro y
      obtain ⟨t2, ht2⟩ : ∃ t2, t2 = (if y = true then t1 else { t1 with plain := false }) := ⟨_, rfl⟩
      rw [← ht2]
      have q3 : TabOk t2 (L1.map fun z => hS P w z.2) := by
        cases y
        · rw [ht2]
          exact ⟨p3.ris, p3.dm, p3.sz, p3.mok, p3.bd, p3.reach⟩
        · rw [ht2]
          exact p3
      have q5 : t2.mask = t.mask := by cases y <;> (rw [ht2]; exact p5)
      have q6 : t2.led = t.led := by cases y <;> (rw [ht2]; exact p6)
      have q7 : t2.fill = L1.length := by cases y <;> (rw [ht2]; exact p7)
      clear ht2
      have sz1 : (SetTable.insertAt es p (hS P w k, .ref x)).size = L1.length := by rw [← Array.length_toList, p2, List.length_map]
      have sb := Heap.SameBut.update s.heap a (Obj.putSet (SetTable.insertAt es p (hS P w k, .ref x)) t2)
      have ob1 := store_at (es' := SetTable.insertAt es p (hS P w k, .ref x)) (t' := t2) hob hda
      have ld1 : w.params.followText "set-order" = true ∨ t2.led = true := by rw [q6]; exact R.led
      refine wpAny_bind (wpAny_storeSet_of hob hda ?_ (by rw [sz1, sizeLine_eq]; omega))
      by_cases full : t2.tooFull = true
      · have c : L1.length * 5 ≥ t2.mask * 3 := by
          have z := full
          unfold SetTable.tooFull at z
          rw [decide_eq_true_eq, q7] at z
          exact z
        rw [q5] at c
        have grown : ∃ M, SetTable.sizeAbove (SetTable.grown (es.size + 1)) = M + 1 ∧ MaskOk M ∧ L1.length * 5 < M * 3 := by
          rw [R.sz]
          rcases R.tab.mok with e | e | e
          · rw [e] at c room
            have : L.length = 4 := by omega
            rw [this]
            exact ⟨31, size_20, .inr (.inl rfl), by omega⟩
          · rw [e] at c room
            have : L.length = 18 := by omega
            rw [this]
            exact ⟨127, size_76, .inr (.inr rfl), by omega⟩
          · rw [e] at c
            omega
        obtain ⟨M, m1, m2, m3⟩ := grown
        have yes : (!false && t2.tooFull) = true := by rw [full]; rfl
        refine wp_if_pos yes (wpAny_bind ?_)
        have pz : t2.place.size = (SetTable.insertAt es p (hS P w k, .ref x)).size := by rw [q3.sz, List.length_map, sz1]
        refine pt_relay (s := { s with heap := _ }) ob1 hex rfl p2 pz q3.dm ?_ p4 ld1 (by omega) m1 m2 m3 fun h' L' sb2 hM' pm => ?_
        · rw [sz1, q5]
          rcases R.tab.mok with e | e | e <;> omega
        · exact wpAny_pure (fin true h' L' (sb.trans sb2) hM' (fun m => absurd m nm) fun _ => pm.trans p1)
      · have c : ¬ L1.length * 5 ≥ t2.mask * 3 := fun z => full (by
          unfold SetTable.tooFull
          rw [decide_eq_true_eq, q7]
          exact z)
        have no : ¬ (!false && t2.tooFull) = true := by
          rw [Bool.not_eq_true _ |>.mp full]
          decide
        refine wp_if_neg no ?_
        try refine wpAny_bind (wpAny_pure ?_)
        exact wpAny_pure (fin true _ L1 sb ⟨_, _, _, _, ob1, hex, rfl, p2, q3, p4, ld1, by omega, by omega⟩ (fun m => absurd m nm) fun _ => p1)
    by_cases pl : t1.plain = true
    · first
        | refine wpAny_bind (wp_if_pos pl (val_pair hx fun y => ?_))
        | refine wp_if_pos pl (wpAny_bind (val_pair hx fun y => ?_))
      exact go y
    · first
        | refine wpAny_bind (wp_if_neg pl (wpAny_pure ?_))
        | refine wp_if_neg pl (wpAny_bind (wpAny_pure ?_))
      exact go true
end
/-- sets of tuples of texts, laid and walked -/
theorem mp_law (P : Program) (w : World) : SetLaw P w (VP P w) (MP P w) where
  mo := fun ⟨o, es, ep, t, e, r⟩ k => ⟨o, es, ep, t, k o e, r⟩
  vk := fun h k => h.keep k
  nw := fun e => by
    refine ⟨_, #[], 0, _, e, ⟨rfl, rfl, rfl⟩, rfl, rfl, ⟨List.Pairwise.nil, rfl, rfl, .inl rfl, (fun x m => nomatch m), fun i h j e => by simp at e⟩, List.nodup_nil, ?_, (by decide : 0 * 5 < 7 * 3), (by decide : 0 < 64)⟩
    show _ ∨ (!w.params.followText "set-order") = true
    cases w.params.followText "set-order"
    · exact .inr rfl
    · exact .inl rfl
  ad := fun {A E s a L v x Q} hM hL hv few hu fin => by
    obtain ⟨b, rfl, hb⟩ := hv
    unfold setAdd
    refine wpAny_holding (wpAny_bind (wpAny_pyHash_tuple hu hb ?_))
    exact mp_add (s := { s with toks := s.toks + (x.length + 1) }) hM hL hb hu few fun b h' L' sb hM' c1 c2 => fin b h' L' _ sb (Nat.le_add_right _ _) hM' c1 c2
  ot := fun ⟨o, es, ep, t, e, x, d, R⟩ => ⟨o, es, ep, t, e, x, d, R.fit, by
    have := R.few
    have := R.sz
    unfold scanBound
    omega, R.tab.ris, R.led, by rw [R.rows, List.map_map]; rfl⟩
  nd := fun ⟨o, es, ep, t, e, x, d, R⟩ => R.nd
end TU

set_option Elab.async false
set_option linter.all false
set_option maxRecDepth 100000
namespace TU
open PySem PySem.Spec PyProof.Rows L2
/-! ### comprehensions that may let an exception out -/
/-- behind a comprehension's block, the block's own context in hand -/
def cPost (M : Model) (A : Around) (E : Value → Shared → Prop) (Q : Value → Shared → Prop) (acc : Value) (ce : Env) (r : Result) (z : Shared) : Prop := match r with
  | .ok _ => ∃ m, z.heap.Ns ce.locals m ∧ ∀ h', Heap.SameBut ce.locals z.heap h' → Q acc { z with heap := h' }
  | .error x => ∃ m, z.heap.Ns ce.locals m ∧ ∀ h', Heap.SameBut ce.locals z.heap h' → wpAny M A (PySem.passOn "comprehension.variables-let-go" x ce : Sem Value) (fun _ _ => False) E { z with heap := h' }
theorem comp_val {M : Model} {A : Around} {E : Value → Shared → Prop} {s : Shared} {env : Env} {e : Expr} {scope : Scope} {pos : Pos} {newAcc first : Sem Value} {g : Comprehension} {gs : List Comprehension} {cl : List (Str × Addr)} {Q : Value → Shared → Prop}
    (e1 : clausesOf e = g :: gs) (e2 : ∀ x, foldedSetIterable g.iter env x = pure x) (e3 : closureFor scope env = pure cl) (e4 : scope.kind = .function) (e5 : ∀ x ∈ scope.names, x.2 = .local → scope.names.lookup x.1 = some .local)
    (h : wpAny M A first (fun x z1 => wpAny M A (pyIter x) (fun it z2 => wpAny M A newAcc (fun acc z3 => wpAny M A (newFunctionEnv scope env.globals cl [] env.qual none .none (some env)) (fun ce z4 =>
      codeAny M A (.compStart e 0 it acc { ce with scope := relabel scope env }) (cPost M A E Q acc { ce with scope := relabel scope env }) z4) E z3) E z2) E z1) E s) : wpAny M A (comprehension e scope env pos newAcc false first none) Q E s := by
  unfold comprehension
  rw [e3, e1]
  have same : ∀ (x : Value) (z : Shared), E x z → E x z := fun _ _ y => y
  refine wpAny_bind (wpAny_mono h (fun x z1 h1 => wpAny_bind (wpAny_standAt (wpAny_bind (wpAny_of_eq (e2 x) (wpAny_bind (wpAny_holding (wpAny_mono h1 (fun it z2 h2 => wpAny_standIf (wpAny_bind (wpAny_mono h2 (fun acc z3 h3 =>
    wpAny_bind (wpAny_pure (wpAny_bind (wpAny_mono h3 (fun ce z4 h4 => ?_) same)))) same))) same))))))) same)
  dsimp only
  have loc : ∀ x ∈ (scope.names.filter fun x => (x.2 == .local || x.2 == .cell) && x.1 != (".0" : Str)).reverse, x.2 = .local → Env.kindOf { ce with scope := relabel scope env } x.1 = some .local := fun x m l =>
    lookup_relabel_local (e5 x (List.mem_filter.mp (List.mem_reverse.mp m)).1 l)
  refine wpAny_holding (wpAny_bind (wpAny_attempt (wpAny_holding (wpAny_run (codeAny_mono h4 fun r z hr => ?_)))))
  cases r with
  | ok f =>
    obtain ⟨m, n, q⟩ := hr
    exact wpAny_bind (wpAny_holding (wpAny_comp_letGo (cenv := { ce with scope := relabel scope env }) e4 _ z m loc n fun h' m' _ sb => wpAny_pure (q h' sb)))
  | error x =>
    obtain ⟨m, n, q⟩ := hr
    exact wpAny_bind (wpAny_holding (wpAny_comp_letGo (cenv := { ce with scope := relabel scope env }) e4 _ z m loc n fun h' m' _ sb => wpAny_mono (q h' sb) (fun _ _ f => f.elim) same))
/-! ### what a call lets out of a block -/
section
variable {X : Cx}
def BZ (X Y : Cx) (Ew : XK) (u : Value) (z : Shared) : Prop := ∃ pins σ H s, Inv Y pins σ H s ∧ L2.CX X.prog X.w X.stack H s Ew u z
abbrev blkE (X : Cx) (s : Shared) (H : Hp) (scope : Scope) (ce : Env) (fp : List Addr) (Ew : XK) : Cx := (X.blk s H scope ce fp).wish (BZ X (X.blk s H scope ce fp) Ew)
theorem passBlk {s : Shared} {H : Hp} {scope : Scope} {ce : Env} {fp : List Addr} {Ew : XK} (σ : L2.St) : PassesAt (L2.CX X.prog X.w) (blkE X s H scope ce fp Ew) σ Ew := fun pins H' s' e z I c => ⟨pins, σ, H', s', I.unwish, c⟩
/-- what a call let out flies -/
theorem cx_flies {Y : Cx} {pins : List (Addr × Obj)} {σ : L2.St} {H : Hp} {s z : Shared} {Ew : XK} {u : Value} (I : Inv Y pins σ H s) (c : L2.CX Y.prog Y.w Y.stack H s Ew u z) :
    ∃ (a : Addr) (B : Heap) (sI : Shared) (pins : List (Addr × Obj)) (σ : L2.St) (H : Hp) (cls : Value) (d : Option Addr), u = .ref a ∧ Inv Y pins σ H sI ∧ (∀ b o, sI.heap.get? b = some o → b ∉ frs Y.stack → B.get? b = some o) ∧ sI.heap.UpToSlots z.heap ∧
      HandSPX.FlyingZ B Y.stack a (Zc cls d) z.heap ∧ H a = none ∧ z.os = sI.os ∧ AllBare z.gens ∧ Ew cls d H := by
  obtain ⟨a, B, sI, pins', σ', H', cls, d, rfl, I', nb, up, sky, na, os, ag, w⟩ := XE.of_call (W := fun cls d _ H => Ew cls d H) I (fun _ _ _ h => h) c
  obtain ⟨a2, B2, H2, cls2, d2, e2, fl, _⟩ := c
  cases e2
  obtain ⟨oe, vs, T, oT, ts, y1, _, y3, y4, _, _, y7, y8, y9⟩ := fl.2.2.2
  refine ⟨a, B, sI, pins', σ', H', cls, d, rfl, I', nb, up, ?_, na, os, ag, w⟩
  rcases sky with ⟨_, _, _, oe', vs', x1, _, x3, x4⟩ | k | ⟨_, _, _, oe', vs', T', oT', ts', x1, _, x3, x4, _, _, x7, x8, x9⟩
  · rw [y1] at x1
    cases x1
    rw [y3] at x3
    cases x3
    rw [y4] at x4
    cases x4
  · exact k
  · rw [y1] at x1
    cases x1
    rw [y3] at x3
    cases x3
    rw [y4] at x4
    cases x4
    rw [y7] at x7
    cases x7
    rw [y8] at x8
    cases x8
    rw [y9] at x9
    cases x9
/-- the exception leaves the block: noted, its variables let go, passed on -/
theorem err_out {W : WX} {Y : Cx} {ce : Env} {pins : List (Addr × Obj)} {σ : L2.St} {Ew : XK} {acc : Value} {Qf : Value → Shared → Prop} (hs : X.stack = X.env :: X.outer) (hf : X.env.frame = some X.env.locals) (hfr : X.A.frames = some X.stack) (tk : Takes X W) (hE : ∀ cls d H, Ew cls d H → W cls d σ H)
    (y1 : Y.prog = X.prog) (y2 : Y.w = X.w) (y3 : Y.stack = X.stack) (y4 : Y.env = ce) (hce : ce.frame = X.env.frame) (back : ∀ {pins' σ' H' sI}, Inv Y pins' σ' H' sI → Inv X pins σ H' sI ∧ FpOk X pins H' ce.locals) {u : Value} {z : Shared} (b : BZ X Y Ew u z) :
    notedBy (model X.prog X.w) X.A ce (fun x z' => cPost (model X.prog X.w) X.A X.xe Qf acc ce (.error x) z') u z := by
  obtain ⟨pins0, σ0, H0, s0, I0, c⟩ := b
  rw [← y1, ← y2, ← y3] at c
  obtain ⟨a, B, sI, pins1, σ1, H1, cls, d, rfl, I1, nb, up, fl, na, os, ag, w⟩ := cx_flies I0 c
  rw [y3] at nb fl
  obtain ⟨I2, fp⟩ := back I1
  obtain ⟨f0, f1, f2, f3, f4, f5⟩ := id fp
  have notF : ce.locals ∉ frs X.stack := fun m => (List.mem_cons.mp (I2.stkSub _ m)).elim f1 f2
  obtain ⟨mC, hnC, _⟩ := I1.loc
  rw [y4] at hnC
  obtain ⟨oC, hoC, dC⟩ : ∃ oC, sI.heap.get? ce.locals = some oC ∧ ∀ {h : Heap}, h.get? ce.locals = some oC → h.Ns ce.locals mC := by
    obtain ⟨o, es, ep, g, r⟩ := hnC
    exact ⟨o, g, fun e => ⟨o, es, ep, e, r⟩⟩
  have bC : B.get? ce.locals = some oC := nb _ _ hoC notF
  have hfr2 : X.A.frames = some (X.env :: X.outer) := by rw [hfr, hs]
  rw [hs] at fl
  show wpAny _ _ (noteFrame (.ref a) ce) _ _ _
  have en : (noteFrame (.ref a) ce : Sem Unit) = noteFrame (.ref a) X.env := by
    unfold noteFrame PySem.frameOf
    rw [hce]
  rw [en]
  refine HandSPX.looks_onZ Zc.steady hfr2 hf fl fun h1 held up1 => ?_
  have sC : h1.get? ce.locals = some oC := held.1 _ _ bC
  refine ⟨mC, dC sC, fun h2 sb => ?_⟩
  have neC : ∀ {b : Addr}, B.get? b = none → b ≠ ce.locals := fun e q => by
    rw [q, bC] at e
    cases e
  have hide : ∀ {g : Heap} {b : Addr} {o : Obj}, (PySem.W.hideAll g [ce.locals]).get? b = some o → b ≠ ce.locals ∧ g.get? b = some o := by
    intro g b o e
    refine ⟨fun q => ?_, PySem.W.of_hideAll _ e⟩
    rw [q, PySem.W.hideAll_none _ (List.mem_singleton.mpr rfl)] at e
    cases e
  have held2 : HandSPX.HeldZ (PySem.W.hideAll B [ce.locals]) (X.env :: X.outer) a (Zc cls d) X.env.locals h2 := by
    obtain ⟨g1, g2, g3, oe, vs, T, oT, ts, t1, t2, t3, t4, t5, t6, t7, t8, t9⟩ := held
    have noB : ∀ {b : Addr}, B.get? b = none → (PySem.W.hideAll B [ce.locals]).get? b = none := fun {b} e => by
      cases q : (PySem.W.hideAll B [ce.locals]).get? b with
      | none => rfl
      | some o =>
        have := (hide q).2
        rw [e] at this
        cases this
    refine ⟨fun b o e => ?_, noB g2, ?_, oe, vs, T, oT, ts, ?_, t2, t3, t4, noB t5, t6, ?_, t8, t9⟩
    · rw [sb.2 _ (hide e).1]
      exact g1 _ _ (hide e).2
    · have fr : ∀ {l : List Env}, (∀ L ∈ frs l, L ≠ ce.locals) → h1.FunFrames B l → h2.FunFrames (PySem.W.hideAll B [ce.locals]) l := by
        intro l
        induction l with
        | nil => exact fun _ _ => trivial
        | cons e l ih =>
          rintro n ⟨k1, ⟨L, o, k2, k3, k4, k5⟩, k6⟩
          have mL : L ∈ frs (e :: l) := List.mem_filterMap.mpr ⟨e, List.mem_cons_self, k2⟩
          refine ⟨k1, ⟨L, o, k2, noB k3, (sb.2 _ (n L mL)).trans k4, k5⟩, ih (fun q m => n q ?_) k6⟩
          obtain ⟨e', m1, m2⟩ := List.mem_filterMap.mp m
          exact List.mem_filterMap.mpr ⟨e', List.mem_cons_of_mem _ m1, m2⟩
      exact fr (fun L m e => notF (by rw [hs, ← e]; exact m)) g3
    · rw [sb.2 _ (neC g2)]
      exact t1
    · rw [sb.2 _ (neC t5)]
      exact t7
  unfold PySem.passOn
  obtain ⟨oe, vs, T, oT, ts, t1, _, t3, t4, _⟩ := held2.2.2.2
  refine wpAny_bind (wpAny_field t1 t3 t4 ?_)
  rw [if_neg (by simp)]
  try refine wpAny_bind (wpAny_pure ?_)
  rw [hce, hf]
  refine wpAny_bind (HandSPX.setFlight_onZ held2 fun h3 held3 up3 => ?_)
  refine wpAny_throw (tk _ _ ?_)
  have IX := I2.turned (h' := PySem.W.hideAll sI.heap [ce.locals]) (t' := sI.toks) (fun b o n e => PySem.W.hideAll_get _ e fun m => n (List.mem_singleton.mp m)) f0 f1 f3 f4 f5
  refine ⟨a, PySem.W.hideAll B [ce.locals], _, pins, σ, H1, cls, d, rfl, IX, fun b o e n => ?_, fun b o e n => ?_, ?_, na, os, ag, hE _ _ _ w⟩
  · have q := hide e
    exact PySem.W.hideAll_get _ (nb _ _ q.2 n) fun m => q.1 (List.mem_singleton.mp m)
  · have q := hide e
    obtain ⟨sl, e1⟩ := up b o q.2 n
    obtain ⟨sl2, e2⟩ := up1 b _ e1 n
    have e3 : h2.get? b = some { o with slots := sl2 } := (sb.2 _ q.1).trans e2
    exact up3 b { o with slots := sl2 } e3 n
  · rw [hs]
    exact .inr (.inr held3)
end
end TU

set_option Elab.async false
set_option linter.all false
set_option maxRecDepth 100000
namespace TU
open PySem PySem.Spec PyProof.Rows L2
/-! ### comprehensions whatever they fill -/
/-- the turns of a block: node with its element, target and tests; bn: what takes an element -/
def LoopR (M : Model) (node elt tg : Expr) (ifs : List Expr) (bn : String) : Prop := ∀ (A : Around) (R : Result → Shared → Prop) (z0 : Shared) (it acc : Value) (env : Env) (I : Nat → Shared → Prop), (∀ n z, I n z → wpAny M A (pyNext it) (fun r z1 => match r with | none => R (.ok .next) z1 | some v => wpAny M A (letOwnedTupleGo tg it v) (fun _ z2 => wpAny M A (assign tg env v) (fun _ z3 => wpAny M A (forIn ifs true fun c r => if r = true then do let ok ← isTrue c env (eval c env); pure (ForInStep.yield ok) else pure (ForInStep.yield r)) (fun ok z4 => if ok = true then wpAny M A (eval elt env) (fun x z5 => wpAny M A (call (.builtin bn) [acc, x]) (fun _ z6 => ∃ m, m < n ∧ I m z6) (notedBy M A env fun e s' => R (.error e) s') z5) (notedBy M A env fun e s' => R (.error e) s') z4 else ∃ m, m < n ∧ I m z4) (notedBy M A env fun e s' => R (.error e) s') z3) (notedBy M A env fun e s' => R (.error e) s') z2) (notedBy M A env fun e s' => R (.error e) s') z1) (notedBy M A env fun e s' => R (.error e) s') z) → ∀ n, I n z0 → codeAny M A (.compLoop node 0 it acc env) R z0
def StartR (M : Model) (node : Expr) : Prop := ∀ (A : Around) (R : Result → Shared → Prop) (z : Shared) (it acc : Value) (env : Env), codeAny M A (.compLoop node 0 it acc env) R z →
  wpAny M A (pyIter it) (fun it' z' => codeAny M A (.compLoop node 0 it' acc env) R z') (notedBy M A env fun x z' => R (.error x) z') z → codeAny M A (.compStart node 0 it acc env) R z
section
variable {P : Program} {w : World} {elt tg iter : Expr} {ifs : List Expr} {scope : Scope} {pos : Pos}
theorem loop_lst : LoopR (model P w) (.ListComp elt [⟨tg, iter, ifs, 0⟩] scope pos) elt tg ifs "list.append" := fun A R z it acc env I turn n h => compLoop_any I turn n h
theorem loop_set : LoopR (model P w) (.SetComp elt [⟨tg, iter, ifs, 0⟩] scope pos) elt tg ifs "set.add" := fun A R z it acc env I turn n h => PpSet.compLoopS_any I turn n h
theorem start_lst : StartR (model P w) (.ListComp elt [⟨tg, iter, ifs, 0⟩] scope pos) := fun A R z it acc env h0 h => codeAny_compStart_list h0 h
theorem start_set : StartR (model P w) (.SetComp elt [⟨tg, iter, ifs, 0⟩] scope pos) := fun A R z it acc env h0 h => PpSet.codeAny_compStart_set h0 h
end
/-- what takes an element, at the tracked heap -/
def PutR (bn : String) (Pt : Addr → V → Hp → (Hp → Prop) → Prop) (P : Program) (w : World) : Prop := ∀ (Y : Cx) (pins : List (Addr × Obj)) (σ : L2.St) (H : Hp) (s : Shared) (D : Addr) (y : V) (z : Value) (Nx : Hp → Prop) (Q : Value → Shared → Prop) (E : Value → Shared → Prop),
  Y.prog = P → Y.w = w → Y.A.units + 64 < cLine → Inv Y pins σ H s → RelV y z → Pt D y H Nx → (∀ s' H', Inv Y pins σ H' s' → Nx H' → Q .none s') → wpAny (model Y.prog Y.w) Y.A (call (.builtin bn) [.ref D, z]) Q E s
/-- a block's meaning: O0 the new object, Pt what an element's taking wants -/
def tBlk (O0 : Addr → HO) (Pt : Addr → V → Hp → (Hp → Prop) → Prop) (wi : TI) (g : TG) (tt : L2.St → TT) (te : L2.St → TE) (vs : List Nat) : TE := fun σ H Q => wi σ H fun J H1 => ∀ D, H1 D = none → ∃ W : Nat → Nat → Hp → Prop, (∃ m, W 0 m (upd H1 D (O0 D))) ∧ ∀ i m H, W i m H → (J.stop i H ∧ Q (.ref D) H) ∨ (J.go i H ∧
  ∃ Nx : Hp → Prop, (∀ H', Nx H' → ∃ m', m' < m ∧ W (i + 1) m' H') ∧ ∀ x H', J.yld i H x H' → g x (wipe σ vs) H' fun σ2 H2 => wipe σ2 vs = wipe σ vs ∧ tt σ σ2 H2 fun b H3 => if b = true then te σ σ2 H3 fun y H4 => Pt D y H4 Nx else Nx H3)
section
variable {X : Cx}
theorem blk_core {pins : List (Addr × Obj)} {s : Shared} {σ : L2.St} {H : Hp} {Q : VK} {node elt tg iter : Expr} {ifs : List Expr} {scope : Scope} {own : List (PySem.Str × Nat)} {pos : Pos} {wi : TI} {g : TG} {tt : L2.St → TT} {te : L2.St → TE} {Qf : Value → Shared → Prop} {W : WX}
    {O0 : Addr → HO} {o0 : Obj} {Pt : Addr → V → Hp → (Hp → Prop) → Prop} {bn : String} {nw : Sem Value} (hst : X.stack = X.env :: X.outer) (hfm : X.env.frame = some X.env.locals) (tk : Takes X W) (hu : X.A.units + 64 < cLine)
    (c1 : clausesOf node = [⟨tg, iter, ifs, 0⟩]) (c2 : LoopR (model X.prog X.w) node elt tg ifs bn) (c3 : StartR (model X.prog X.w) node) (c4 : PutR bn Pt X.prog X.w) (n1 : ∀ {A : Around} {E : Value → Shared → Prop} {z : Shared} {Q : Value → Shared → Prop}, Q (.ref z.heap.objs.size) { z with heap := z.heap.push o0 } → wpAny (model X.prog X.w) A nw Q E z)
    (n2 : ∀ {h : Heap} {H : Hp}, ObjOk X.prog X.w H (h.push o0) h.objs.size (O0 h.objs.size)) (hc : X.calm = true) (hN : X.N.Nodup) (I : Inv X pins σ H s) (hi : PI X tg iter wi) (ok : BlkOk X.N X.env.scope scope own)
    (hg : ∀ (s : Shared) (H : Hp) (C : Addr) (cl : List (PySem.Str × Addr)) (fp : List Addr) (σ : L2.St), PG (blkE X s H scope (compEnvC scope cl C X.env) fp (WE W σ)) tg g) (ht : ∀ (s : Shared) (H : Hp) (C : Addr) (cl : List (PySem.Str × Addr)) (fp : List Addr) (σ : L2.St), PTs (blkE X s H scope (compEnvC scope cl C X.env) fp (WE W σ)) ifs (tt σ))
    (he : ∀ (s : Shared) (H : Hp) (C : Addr) (cl : List (PySem.Str × Addr)) (fp : List Addr) (σ : L2.St), PE (blkE X s H scope (compEnvC scope cl C X.env) fp (WE W σ)) elt (te σ)) (hsx : ∀ x, foldedSetIterable iter X.env x = pure x) (h : tBlk O0 Pt wi g tt te (own.map (·.2)) σ H Q)
    (fin : ∀ D C z m H', Inv X pins σ H' z → Q (.ref D) H' → z.heap.Ns C m → FpOk X pins H' C → ∀ h', Heap.SameBut C z.heap h' → Qf (.ref D) { z with heap := h' }) : wpAny (model X.prog X.w) X.A (comprehension node scope X.env pos nw false (eval iter X.env) none) Qf X.xe s := by
  have free : ∀ y ∈ scope.names, y.2 = .free → ∃ c, X.env.cells.lookup y.1 = some c := fun y m e => (ok.free y m e).elim (fun k => I.ok.has _ (.inl k)) fun k => I.ok.has _ (.inr k)
  refine comp_val c1 hsx (closure_ok free) ok.kind (fun y m e => by rw [ok.uniq y m, e]) (thn (hi.run pins s σ H _ I h) fun xv z1 hx => thn hx fun itv z2 h2 => ?_)
  obtain ⟨it, fp, tn, J, H2, rfl, I2, T, t2, k2, q⟩ := h2
  refine n1 (newEnv_comp ?_)
  obtain ⟨D, hD⟩ : ∃ D, D = z2.heap.objs.size := ⟨_, rfl⟩
  have hn : H2 D = none := I2.hok.fresh (Nat.le_of_eq hD.symm)
  obtain ⟨Wi, ⟨m0, w0⟩, turn⟩ := q D hn
  have old2 : ∀ b o, z2.heap.get? b = some o → (z2.heap.push o0).get? b = some o := fun b o e => get_push _ e
  have I3 : Inv X pins σ (upd H2 D (O0 D)) { z2 with heap := z2.heap.push o0 } := by
    rw [hD]
    exact I2.laid (t' := z2.toks) old2 (Nat.le_refl _) n2
  obtain ⟨z3, hz3⟩ : ∃ z3 : Shared, z3 = { z2 with heap := z2.heap.push o0 } := ⟨_, rfl⟩
  rw [← hz3] at I3
  have e3 : z3.heap = z2.heap.push o0 := by rw [hz3]
  have k3 : ∀ b ∈ fp, FpOk X pins (upd H2 D (O0 D)) b ∧ b < z3.heap.objs.size := fun b m => by
    obtain ⟨o, eo, _⟩ := T.obj _ _ t2 b m
    have lt := Heap.lt_size eo
    refine ⟨⟨?_, (k2 b m).2⟩, by rw [e3, Heap.size_push]; exact Nat.lt_succ_of_lt lt⟩
    rw [upd_ne (by rw [hD]; exact Nat.ne_of_lt lt)]
    exact (k2 b m).1
  have t3 : tn 0 z3.heap := T.keep _ _ _ t2 fun b _ o e => by rw [e3]; exact old2 b o e
  have I4 := block_start I3 ok hN k3
  obtain ⟨ce, hce⟩ : ∃ ce, ce = compEnvC scope (cellsFrom (z3.heap.objs.size + 1) scope.names (cloFrom X.env.cells scope.names [])) z3.heap.objs.size X.env := ⟨_, rfl⟩
  have pg := hg z3 (upd H2 D (O0 D)) z3.heap.objs.size (cellsFrom (z3.heap.objs.size + 1) scope.names (cloFrom X.env.cells scope.names [])) fp σ
  have pt := ht z3 (upd H2 D (O0 D)) z3.heap.objs.size (cellsFrom (z3.heap.objs.size + 1) scope.names (cloFrom X.env.cells scope.names [])) fp σ
  have pe := he z3 (upd H2 D (O0 D)) z3.heap.objs.size (cellsFrom (z3.heap.objs.size + 1) scope.names (cloFrom X.env.cells scope.names [])) fp σ
  show codeAny _ _ (.compStart node 0 (.ref it) (.ref z2.heap.objs.size) _) _ { ({ z2 with heap := z2.heap.push o0 } : Shared) with heap := pushCells ((z2.heap.push o0).push { cls := .type "dict", data := .dict #[] }) scope.names }
  rw [← hD]
  have ez : ({ ({ z2 with heap := z2.heap.push o0 } : Shared) with heap := pushCells ((z2.heap.push o0).push { cls := .type "dict", data := .dict #[] }) scope.names } : Shared) = { z3 with heap := pushCells (z3.heap.push { cls := .type "dict", data := .dict #[] }) scope.names } := by rw [hz3]
  have ecc : (compEnvC scope (cellsFrom ((z2.heap.push o0).objs.size + 1) scope.names (cloFrom X.env.cells scope.names [])) (z2.heap.push o0).objs.size X.env) = ce := by rw [hce, e3]
  rw [ez]
  show codeAny _ _ (.compStart node 0 (.ref it) (.ref D) (compEnvC scope (cellsFrom ((z2.heap.push o0).objs.size + 1) scope.names (cloFrom X.env.cells scope.names [])) (z2.heap.push o0).objs.size X.env)) (cPost (model X.prog X.w) X.A X.xe Qf (.ref D) (compEnvC scope (cellsFrom ((z2.heap.push o0).objs.size + 1) scope.names (cloFrom X.env.cells scope.names [])) (z2.heap.push o0).objs.size X.env)) _
  rw [ecc]
  rw [← hce] at I4 pg pt pe
  have eL : ce.locals = z3.heap.objs.size := by rw [hce]; rfl
  have eF : ce.frame = X.env.frame := by rw [hce]; rfl
  have no3 : ∀ b ∈ fp, (upd H2 D (O0 D)) b = none := fun b m => (k3 b m).1.1
  generalize upd H2 D (O0 D) = H3 at I3 I4 pg pt pe w0 no3 k3
  obtain ⟨z4, hz4⟩ : ∃ z4 : Shared, z4 = { z3 with heap := pushCells (z3.heap.push { cls := .type "dict", data := .dict #[] }) scope.names } := ⟨_, rfl⟩
  rw [← hz4] at I4 ⊢
  have t4 : tn 0 z4.heap := T.keep _ _ _ t3 fun b _ o e => by rw [hz4]; exact pushCells_keeps _ _ _ _ (get_push _ e)
  have hfr : X.A.frames = some X.stack := I3.ok.frames
  -- what stands of the def's own context
  have home : ∀ {pins' σ' H' z}, Inv (X.blk z3 H3 scope ce fp) pins' σ' H' z → Inv X pins σ H' z ∧ FpOk X pins H' ce.locals := fun {pins' σ' H' z} J => by
    have a := I3.call' (ch := fp) J.os J.base J.hok J.bare fun b m => ⟨(k3 b m).1.2.2.2.1, (k3 b m).1.2.1, (k3 b m).1.2.2.2.2.1, (k3 b m).1.2.2.2.2.2⟩
    exact ⟨a, by rw [eL]; exact I3.fpOk (Nat.le_refl _) (by rw [← eL]; exact J.free)⟩
  have bad : ∀ {u z}, BZ X (X.blk z3 H3 scope ce fp) (WE W σ) u z → notedBy (model X.prog X.w) X.A ce (fun x z' => cPost (model X.prog X.w) X.A X.xe Qf (.ref D) ce (.error x) z') u z := fun {u z} b => err_out (Y := X.blk z3 H3 scope ce fp) (ce := ce) hst hfm hfr tk (fun _ _ _ w => w) rfl rfl rfl rfl eF (fun J => home J) b
  have stat : ∀ {σ' : L2.St} {H' : Hp} {z : Shared}, Inv (X.blk z3 H3 scope ce fp) [] σ' H' z → (∀ b ∈ fp, H' b = none) → ∀ b ∈ fp, FpOk (blkE X z3 H3 scope ce fp (WE W σ)) [] H' b := fun {σ' H' z} J n b m => ⟨n b m, (J.ok.exf b m).1, J.ok.exfs b m, .inl m, fun x c e => (J.ok.exf b m).2 x c e, fun p hp => absurd (show p ∈ ([] : List (Addr × Obj)) ++ [] from hp) (by simp)⟩
  have loop : codeAny (model X.prog X.w) X.A (.compLoop node 0 (.ref it) (.ref D) ce) (cPost (model X.prog X.w) X.A X.xe Qf (.ref D) ce) z4 := by
    refine c2 X.A _ z4 _ _ ce (fun n z => ∃ i H', Inv (X.blk z3 H3 scope ce fp) [] (wipe σ (own.map (·.2))) H' z ∧ tn i z.heap ∧ (∀ b ∈ fp, H' b = none) ∧ Wi i n H') ?_ m0 ⟨0, H3, I4, t4, no3, w0⟩
    rintro n z5 ⟨i, H5, I5, t5, n5, w5⟩
    have J5 : Inv (blkE X z3 H3 scope ce fp (WE W σ)) [] (wipe σ (own.map (·.2))) H5 z5 := I5.wish _
    rcases turn i n H5 w5 with ⟨stop, qq⟩ | ⟨go, Nx, hNx, step⟩
    · refine thnF (T.done (blkE X z3 H3 scope ce fp (WE W σ)) rfl rfl rfl hc i [] z5 _ H5 (fun _ _ => False) J5 (stat I5 n5) t5 stop) fun r z6 ⟨hr, J6⟩ => ?_
      rw [hr]
      have I6 := J6.unwish
      obtain ⟨a, f⟩ := home I6
      obtain ⟨m, hm, _⟩ := I6.loc
      exact ⟨m, hm, fun h' sb => fin D ce.locals z6 m H5 a qq hm f h' sb⟩
    · refine thnF (T.item (blkE X z3 H3 scope ce fp (WE W σ)) rfl rfl rfl hc i [] z5 _ H5 (fun _ _ => False) J5 (stat I5 n5) t5 go) fun r z6 ⟨u, hr, h6⟩ => ?_
      rw [hr]
      refine thnF h6 fun _ z7 ⟨x, H7, I7, r7, y7, t7, n7⟩ => ?_
      have P7 := I7.pinned (stat I7.unwish n7) (T.obj _ _ t7)
      refine wpAny_mono (pg.run _ z7 _ H7 x u _ P7 r7 (step x H7 y7)) (fun _ z8 ⟨σ8, H8, I8, w8, q8⟩ => ?_) fun _ _ b => bad b
      refine wpAny_mono (pt.run _ z8 σ8 H8 _ I8 q8) (fun b z9 ⟨H9, I9, q9⟩ => ?_) fun _ _ b => bad b
      have next : ∀ {z : Shared} {H' : Hp}, Inv (blkE X z3 H3 scope ce fp (WE W σ)) ([] ++ pinsAt fp z7.heap) σ8 H' z → Nx H' → ∃ m, m < n ∧ ∃ i H', Inv (X.blk z3 H3 scope ce fp) [] (wipe σ (own.map (·.2))) H' z ∧ tn i z.heap ∧ (∀ b ∈ fp, H' b = none) ∧ Wi i m H' := fun {z H'} J nx => by
        obtain ⟨m', lt, wm⟩ := hNx H' nx
        have pin : ∀ b ∈ fp, ∀ o, z7.heap.get? b = some o → z.heap.get? b = some o ∧ H' b = none := fun b m o e => ⟨(J.pin (b, o) (List.mem_append_right _ (List.mem_append_right _ (mem_pinsAt m e)))).1, (J.pin (b, o) (List.mem_append_right _ (List.mem_append_right _ (mem_pinsAt m e)))).2.1⟩
        refine ⟨m', lt, i + 1, H', ((J.unwish).unpinned (pins := [])).weak (by rw [← w8, wipe_length]) (fun j v e => (wipe_some (by rw [w8]; exact e)).1), T.keep _ _ _ t7 fun b m o e => (pin b m o e).1, fun b m => ?_, wm⟩
        obtain ⟨o, e, _⟩ := T.obj _ _ t7 b m
        exact (pin b m o e).2
      cases b with
      | false => exact next I9 q9
      | true =>
        refine wpAny_mono (pe.run _ z9 σ8 H9 _ I9 q9) (fun v z10 ⟨y, H10, I10, r10, p10⟩ => ?_) fun _ _ b => bad b
        exact c4 (blkE X z3 H3 scope ce fp (WE W σ)) _ σ8 H10 z10 D y v Nx _ _ rfl rfl hu I10 r10 p10 fun z' H' J nx => next J nx
  exact c3 X.A _ z4 _ _ ce loop (T.self X.A 0 _ _ _ t4 loop)
end
end TU

set_option Elab.async false
set_option linter.all false
set_option maxRecDepth 100000
namespace TU
open PySem PySem.Spec PyProof.Rows L2
/-! ### lists and sets of pairs made by a comprehension -/
def PtL : Addr → V → Hp → (Hp → Prop) → Prop := fun D y H4 Nx => ∃ acc, H4 D = some (.lst acc) ∧ acc.length < sizeLine ∧ Nx (upd H4 D (.lst (acc ++ [y])))
theorem put_lst {P : Program} {w : World} : PutR "list.append" PtL P w := fun Y pins σ H s D y z Nx Q E _ _ _ I r p fin => by
  obtain ⟨acc, e1, e2, e3⟩ := p
  exact app_ok I e1 e2 r fun s' I' => fin s' _ I' e3
def tLcX (wi : TI) (g : TG) (tt : L2.St → TT) (te : L2.St → TE) (vs : List Nat) : TE := tBlk (fun _ => .lst []) PtL wi g tt te vs
theorem q_lcX {wi : TI} {g : TG} {tt : L2.St → TT} {te : L2.St → TE} {sl : List Nat} {σ : L2.St} {H : Hp} {Q : VK} (h : wi σ H fun J H1 => ∀ d, H1 d = none → lcB J g (tt σ) (te σ) sl σ H1 d Q) : tLcX wi g tt te sl σ H Q := h
/-- a set of pairs of texts: its members' places and texts -/
def SPO (P : Program) (w : World) (a : Addr) (L : List (Addr × SP)) : HO := .ext fun h => MP P w h a (L.map fun z => (.ref z.1, [z.2.1, z.2.2]))
def PairO (p : SP) : HO := .tup [.str p.1, .str p.2]
theorem spo_ok {P : Program} {w : World} {H : Hp} {h : Heap} {a : Addr} {L : List (Addr × SP)} (m : MP P w h a (L.map fun z => (.ref z.1, [z.2.1, z.2.2]))) : ObjOk P w H h a (SPO P w a L) := by
  refine ⟨m, ?_, fun h1 h2 m' k => (mp_law P w).mo m' k⟩
  obtain ⟨o, _, _, _, e, _⟩ := m
  exact ⟨o, e⟩
theorem pair_vp {Y : Cx} {pins : List (Addr × Obj)} {σ : L2.St} {H : Hp} {s : Shared} (I : Inv Y pins σ H s) {b : Addr} {p : SP} (e : H b = some (PairO p)) : VP Y.prog Y.w s.heap (.ref b) [p.1, p.2] := by
  obtain ⟨_, its, r2, o, ho, hc, n, hd⟩ := I.hok _ _ e
  obtain ⟨u1, u2, rfl, ri, rj⟩ := vals2 r2
  obtain ⟨k1, rfl⟩ := ri
  obtain ⟨k2, rfl⟩ := rj
  exact ⟨b, rfl, o, _, n, ho, hc, hd, .cons (strKind_is _ _ _ _) (.cons (strKind_is _ _ _ _) .nil)⟩
theorem two_inj : ∀ {L : List (Addr × SP)} {p : SP}, [p.1, p.2] ∈ (L.map fun z => ((Value.ref z.1, [z.2.1, z.2.2]) : Value × List Str)).map (·.2) ↔ p ∈ L.map (·.2) := fun {L p} => by
  rw [List.map_map]
  constructor
  · intro m
    obtain ⟨z, hz, e⟩ := List.mem_map.mp m
    have e1 : [z.2.1, z.2.2] = [p.1, p.2] := e
    have a := List.cons.inj e1
    have b := List.cons.inj a.2
    exact List.mem_map.mpr ⟨z, hz, Prod.ext a.1 b.1⟩
  · intro m
    obtain ⟨z, hz, rfl⟩ := List.mem_map.mp m
    exact List.mem_map.mpr ⟨z, hz, rfl⟩
def PtP (P : Program) (w : World) : Addr → V → Hp → (Hp → Prop) → Prop := fun D y H4 Nx => ∃ (b : Addr) (p : SP) (L : List (Addr × SP)), y = .ref b ∧ H4 b = some (PairO p) ∧ H4 D = some (SPO P w D L) ∧ (∀ z ∈ L, H4 z.1 = some (PairO z.2)) ∧ L.length + 1 < 64 ∧
  ∀ L', (p ∈ L.map (·.2) → L' = L) → (p ∉ L.map (·.2) → L'.Perm ((b, p) :: L)) → Nx (upd H4 D (SPO P w D L'))
theorem put_pair {P : Program} {w : World} : PutR "set.add" (PtP P w) P w := fun Y pins σ H s D y z Nx Q E y1 y2 hu I r pt fin => by
  subst y1 y2
  obtain ⟨b, p, L, rfl, hb, hD, hL, few, nx⟩ := pt
  cases (show z = .ref b from r)
  have m : MP Y.prog Y.w s.heap D (L.map fun z => (.ref z.1, [z.2.1, z.2.2])) := (I.hok D _ hD).1
  have ty : s.TypeIs (.ref D) "set" := by
    obtain ⟨o, es, ep, t, e, x, _⟩ := m
    exact ⟨o, e, x.1⟩
  refine wpAny_call_entry F.slot_set_add ty F.entry_set_add ?_ (F.args_set_add_2 _ _)
  unfold Builtin.«set.add» Builtin.Frozenset.oneOther
  simp only [List.isEmpty_nil, bind_assoc]
  unfold Builtin.Frozenset.addrOf
  refine wpAny_bind (wpAny_pure ?_)
  try dsimp only
  refine wpAny_bind (wpAny_pure ?_)
  try dsimp only
  refine wpAny_bind ?_
  refine (mp_law Y.prog Y.w).ad m (fun q hq => ?_) (pair_vp I hb) (by rw [List.length_map]; exact few) (by show _ + 1 < _; omega) fun x h' L' tk sb ht m' c1 c2 => ?_
  · obtain ⟨z, hz, rfl⟩ := List.mem_map.mp hq
    exact pair_vp I (hL z hz)
  · show wpAny _ _ (ret Value.none) _ _ _
    have new : ∃ L2 : List (Addr × SP), L' = L2.map (fun z => ((Value.ref z.1, [z.2.1, z.2.2]) : Value × List Str)) ∧ (p ∈ L.map (·.2) → L2 = L) ∧ (p ∉ L.map (·.2) → L2.Perm ((b, p) :: L)) := by
      by_cases c : p ∈ L.map (·.2)
      · exact ⟨L, c1 (two_inj.mpr c), fun _ => rfl, fun n => absurd c n⟩
      · have q := c2 fun m => c (two_inj.mp m)
        have q2 : L'.Perm (((b, p) :: L).map fun z => ((Value.ref z.1, [z.2.1, z.2.2]) : Value × List Str)) := q
        obtain ⟨L2, z1, z2⟩ := perm_img q2
        exact ⟨L2, z2, fun m => absurd m c, fun _ => z1⟩
    obtain ⟨L2, rfl, d1, d2⟩ := new
    have there : ∃ u, h'.get? D = some u := by
      obtain ⟨o, _, _, _, e, _⟩ := m'
      exact ⟨o, e⟩
    refine wpAny_pure ⟨_, rfl, fin _ _ ?_ (nx L2 d1 d2)⟩
    exact I.write (e := D) (t' := tk) (by rw [hD]; trivial) (.inl rfl) (fun q u n e => (sb.2 q n).trans e) there (spo_ok m')
def tScP (P : Program) (w : World) (wi : TI) (g : TG) (tt : L2.St → TT) (te : L2.St → TE) (vs : List Nat) : TE := tBlk (fun D => SPO P w D []) (PtP P w) wi g tt te vs
section
variable {X : Cx} {K : PySem.W.Frag} {P : Program} {w : World} {elt tg iter : Expr} {ifs : List Expr} {scope : Scope} {own : List (PySem.Str × Nat)} {pos : Pos} {wi : TI} {g : TG} {tt : L2.St → TT} {te : L2.St → TE} {W : WX}
theorem pe_lcX (hst : X.stack = X.env :: X.outer) (hfm : X.env.frame = some X.env.locals) (tk : Takes X W) (hu : X.A.units + 64 < cLine) (hc : X.calm = true) (hN : X.N.Nodup) (hi : PI X tg iter wi) (ok : BlkOk X.N X.env.scope scope own)
    (hg : ∀ (s : Shared) (H : Hp) (C : Addr) (cl : List (PySem.Str × Addr)) (fp : List Addr) (σ : L2.St), PG (blkE X s H scope (compEnvC scope cl C X.env) fp (WE W σ)) tg g) (ht : ∀ (s : Shared) (H : Hp) (C : Addr) (cl : List (PySem.Str × Addr)) (fp : List Addr) (σ : L2.St), PTs (blkE X s H scope (compEnvC scope cl C X.env) fp (WE W σ)) ifs (tt σ))
    (he : ∀ (s : Shared) (H : Hp) (C : Addr) (cl : List (PySem.Str × Addr)) (fp : List Addr) (σ : L2.St), PE (blkE X s H scope (compEnvC scope cl C X.env) fp (WE W σ)) elt (te σ)) (hs : ∀ x, foldedSetIterable iter X.env x = pure x := by intro _; rfl) :
    PE X (.ListComp elt [⟨tg, iter, ifs, 0⟩] scope pos) (tLcX wi g tt te (own.map (·.2))) := by
  refine ⟨fun pins s σ H Q I h => ?_⟩
  rw [eval_ListComp]
  refine blk_core (O0 := fun _ => .lst []) (o0 := { cls := .type "list", data := .seq ([] : List Value).toArray }) hst hfm tk hu rfl loop_lst start_lst put_lst (fun {A E z Q} q => wpAny_newObj_type q (by show 0 ≤ sizeLine; decide)) (fun {h H} => ⟨Nat.zero_le _, [], 0, .nil, Heap.get?_push_size _ rfl⟩) hc hN I hi ok hg ht he hs h fun D C z m H' J q _ f h' sb => ?_
  obtain ⟨f0, f1, f2, f3, f4, f5⟩ := f
  exact ⟨.ref D, H', J.turned (t' := z.toks) (fun b o n e => (sb.2 b n).trans e) f0 f1 f3 f4 f5, rfl, q⟩
theorem pe_scP (hp : X.prog = P) (hw : X.w = w) (hst : X.stack = X.env :: X.outer) (hfm : X.env.frame = some X.env.locals) (tk : Takes X W) (hu : X.A.units + 64 < cLine) (hc : X.calm = true) (hN : X.N.Nodup) (hi : PI X tg iter wi) (ok : BlkOk X.N X.env.scope scope own)
    (hg : ∀ (s : Shared) (H : Hp) (C : Addr) (cl : List (PySem.Str × Addr)) (fp : List Addr) (σ : L2.St), PG (blkE X s H scope (compEnvC scope cl C X.env) fp (WE W σ)) tg g) (ht : ∀ (s : Shared) (H : Hp) (C : Addr) (cl : List (PySem.Str × Addr)) (fp : List Addr) (σ : L2.St), PTs (blkE X s H scope (compEnvC scope cl C X.env) fp (WE W σ)) ifs (tt σ))
    (he : ∀ (s : Shared) (H : Hp) (C : Addr) (cl : List (PySem.Str × Addr)) (fp : List Addr) (σ : L2.St), PE (blkE X s H scope (compEnvC scope cl C X.env) fp (WE W σ)) elt (te σ)) (hs : ∀ x, foldedSetIterable iter X.env x = pure x := by intro _; rfl) :
    PE X (.SetComp elt [⟨tg, iter, ifs, 0⟩] scope pos) (tScP P w wi g tt te (own.map (·.2))) := by
  subst hp hw
  refine ⟨fun pins s σ H Q I h => ?_⟩
  rw [PpSet.eval_SetComp]
  refine blk_core (O0 := fun D => SPO X.prog X.w D []) (o0 := fshO X.w) hst hfm tk hu rfl loop_set start_set put_pair (fun {A E z Q} q => PpSet.newSet_ok q) (fun {h H} => spo_ok ((mp_law X.prog X.w).nw (Heap.get?_push_size _ rfl))) hc hN I hi ok hg ht he hs h fun D C z m H' J q _ f h' sb => ?_
  obtain ⟨f0, f1, f2, f3, f4, f5⟩ := f
  exact ⟨.ref D, H', J.turned (t' := z.toks) (fun b o n e => (sb.2 b n).trans e) f0 f1 f3 f4 f5, rfl, q⟩
end
end TU

set_option Elab.async false
set_option linter.all false
set_option maxRecDepth 100000
namespace TU
open PySem PySem.Spec PyProof.Rows L2
/-! ### dicts whose keys are pairs of texts -/
def pk (p : SP) : List Key := [.inr p.1, .inr p.2]
def PairAt (H : Hp) (v : V) (p : SP) : Prop := ∃ b, v = .ref b ∧ H b = some (.tup [.str p.1, .str p.2])
inductive Prs (H : Hp) : List V → List SP → Prop
  | nil : Prs H [] []
  | cons {v : V} {vs : List V} {p : SP} {ps : List SP} : PairAt H v p → Prs H vs ps → Prs H (v :: vs) (p :: ps)
theorem pk_inj {p q : SP} (h : pk p = pk q) : p = q := by
  obtain ⟨a, b⟩ := p
  obtain ⟨c, d⟩ := q
  have h1 := List.cons.inj h
  have h2 := List.cons.inj h1.2
  have e1 : a = c := Sum.inr.inj h1.1
  have e2 : b = d := Sum.inr.inj h2.1
  rw [e1, e2]
theorem PairAt.mono {H H' : Hp} {v : V} {p : SP} (s : Same H H') (x : PairAt H v p) : PairAt H' v p := by
  obtain ⟨b, e, h⟩ := x
  exact ⟨b, e, s _ _ h⟩
theorem Prs.mono {H H' : Hp} (s : Same H H') : ∀ {vs : List V} {ps : List SP}, Prs H vs ps → Prs H' vs ps
  | _, _, .nil => .nil
  | _, _, .cons h t => .cons (h.mono s) (Prs.mono s t)
theorem PairAt.T {K : PySem.W.Frag} {H : Hp} {P : Addr → Prop} {v : V} {p : SP} (x : PairAt H v p) : TU.T K H P v (pr p) := by
  obtain ⟨b, rfl, h⟩ := x
  exact .tup (.inl (.inl h)) (.cons (.str _) (.cons (.str _) .nil))
theorem Prs.ts {K : PySem.W.Frag} {H : Hp} {P : Addr → Prop} : ∀ {vs : List V} {ps : List SP}, Prs H vs ps → Ts K H P vs (ps.map pr)
  | _, _, .nil => .nil
  | _, _, .cons h t => .cons h.T (Prs.ts t)
theorem Prs.len {H : Hp} : ∀ {vs : List V} {ps : List SP}, Prs H vs ps → vs.length = ps.length
  | _, _, .nil => rfl
  | _, _, .cons _ t => congrArg Nat.succ (Prs.len t)
theorem Prs.at {H : Hp} : ∀ {vs : List V} {ps : List SP} {i : Nat} {v : V}, Prs H vs ps → vs[i]? = some v → ∃ p, ps[i]? = some p ∧ PairAt H v p
  | _, _, 0, _, .cons h _, e => by
    cases (show some _ = some _ from e)
    exact ⟨_, rfl, h⟩
  | _, _, i + 1, _, .cons _ t, e => Prs.at (i := i) t (by simpa using e)
theorem Prs.append {H : Hp} {vs ws : List V} {ps qs : List SP} (x : Prs H vs ps) (y : Prs H ws qs) : Prs H (vs ++ ws) (ps ++ qs) := by
  induction x with
  | nil => exact y
  | cons h _ ih => exact .cons h ih
section
variable {X : Cx} {pins : List (Addr × Obj)} {σ : L2.St} {H : Hp} {s : Shared}
theorem PairAt.isPS (I : Inv X pins σ H s) {x : V} {v : Value} {p : SP} (t : PairAt H x p) (r : RelV x v) : IsPS s.heap v p := by
  obtain ⟨b, rfl, h⟩ := t
  have e : v = .ref b := r
  subst e
  obtain ⟨_, its, r2, o, ho, hc, n, hd⟩ := I.hok _ _ h
  obtain ⟨u1, u2, rfl, ri, rj⟩ := vals2 r2
  obtain ⟨k1, rfl⟩ := ri
  obtain ⟨k2, rfl⟩ := rj
  exact ⟨b, o, k1, k2, n, rfl, ho, hc, hd⟩
end
/-- what a sort of such values needs -/
theorem prs_vals {X : Cx} {pins : List (Addr × Obj)} {σ : L2.St} {H : Hp} {s : Shared} (I : Inv X pins σ H s) : ∃ k : Value → SP, ∀ {xs : List V} {its : List Value} {ps : List SP}, Vals xs its → Prs H xs ps → its.map k = ps ∧ (∀ v ∈ its, IsPS s.heap v (k v)) ∧ ∀ v ∈ its, PairAt H (backV v) (k v) := by
  haveI dec : ∀ v, Decidable (∃ p, IsPS s.heap v p) := fun v => Classical.propDecidable _
  refine ⟨fun v => if c : ∃ p, IsPS s.heap v p then Classical.choose c else ("", ""), ?_⟩
  have kis : ∀ {v p}, IsPS s.heap v p → (if c : ∃ p, IsPS s.heap v p then Classical.choose c else ("", "")) = p := fun {v p} x => by
    have c : ∃ p, IsPS s.heap v p := ⟨p, x⟩
    rw [dif_pos c]
    exact (Classical.choose_spec c).uniq x
  intro xs its ps rv
  induction rv generalizing ps with
  | nil =>
    intro h
    cases h
    exact ⟨rfl, (fun v m => nomatch m), fun v m => nomatch m⟩
  | @cons x u xs its r1 r2 ih =>
    intro h
    cases h with
    | @cons _ _ p ps t1 t2 =>
      have ip := t1.isPS I r1
      obtain ⟨i1, i2, i3⟩ := ih t2
      obtain ⟨b, eb, hb⟩ := id t1
      subst eb
      have eu : u = .ref b := r1
      subst eu
      have ek := kis ip
      refine ⟨?_, fun v m => ?_, fun v m => ?_⟩
      · rw [List.map_cons, ek, i1]
      · rcases List.mem_cons.mp m with c | c
        · rw [c]
          show IsPS s.heap (.ref b) (if c : ∃ p, IsPS s.heap (.ref b) p then Classical.choose c else ("", ""))
          rw [ek]
          exact ip
        · exact i2 v c
      · rcases List.mem_cons.mp m with c | c
        · rw [c]
          show PairAt H (.ref b) (if c : ∃ p, IsPS s.heap (.ref b) p then Classical.choose c else ("", ""))
          rw [ek]
          exact t1
        · exact i3 v c
theorem kt_prs {H : Hp} {kvs : List (List Key × V)} {ks : List (List Key × Addr × Value)} (r : KT H kvs ks) : ∀ {ps : List SP}, kvs.map (·.1) = ps.map pk → Prs H (ks.map fun x => V.ref x.2.1) ps := by
  unfold KT at r
  induction r with
  | nil =>
    intro ps e
    cases ps with
    | nil => exact .nil
    | cons p ps => exact nomatch e
  | @cons p q ps0 qs h t ih =>
    intro ps e
    cases ps with
    | nil => exact nomatch e
    | cons x ps =>
      have e2 := List.cons.inj e
      obtain ⟨h1, h2, _⟩ := h
      refine .cons ⟨q.2.1, rfl, ?_⟩ (ih e2.2)
      rw [h2, show p.1 = pk x from e2.1]
      rfl
theorem vals_addr {α : Type} (f : α → Addr) : ∀ l : List α, Vals (l.map fun x => V.ref (f x)) (l.map fun x => Value.ref (f x))
  | [] => .nil
  | x :: l => .cons rfl (vals_addr f l)
/-- sorted(d), d a dict whose keys are pairs of texts -/
def rSortT : List V → Hp → VK → Prop := fun vs H Q => ∃ (d : Addr) (kvs : List (List Key × V)) (ps : List SP), vs = [.ref d] ∧ Rd H d (.dT kvs) ∧ kvs.map (·.1) = ps.map pk ∧ ∀ ys p, Prs H ys (srtP ps) → H p = none → Q (.ref p) (upd H p (.lst ys))
theorem call_sortT {X : Cx} (hc : X.calm = true) : CallR X (.builtin "sorted") rSortT := by
  intro pins s σ H vs us Q I r h
  obtain ⟨d, kvs, ps, rfl, hd, hk, q⟩ := h
  obtain ⟨u, rfl, rx⟩ := vals1 r
  cases (show u = Value.ref d from rx)
  obtain ⟨z, hs, ks, kt, o, es, ep, ho, hx, hdt, he, hn⟩ := (show ObjOk X.prog X.w H s.heap d (.dT kvs) from hd.ok I.hok)
  have l1 : es.size = ks.length := by
    have := congrArg List.length he
    rw [List.length_map, Array.length_toList] at this
    exact this
  have l2 : kvs.length = ks.length := kt.length
  have prs := kt_prs kt hk
  obtain ⟨k, kall⟩ := prs_vals I
  obtain ⟨a1, a2, a3⟩ := kall (vals_addr (fun x : List Key × Addr × Value => x.2.1) ks) prs
  refine Calls.call_function_entry kind_sorted plain_sorted entry_sorted (args_sorted1 _) ?_
  unfold Builtin.«sorted»
  refine wpAny_bind (m := checkCount "sorted" 1 1 _) (wpAny_pure ?_)
  refine wpAny_bind (PySem.W.kdu_collect (A := X.A.in1) (kdl_raw hs hx hdt) (I.ok.hd hc) ho (by omega) fun h' tk acc kp it => ?_)
  have ea : acc.toList = ks.map fun x => Value.ref x.2.1 := by
    have hl : acc.toList.length = ks.length := by rw [Array.length_toList, it.1]; exact l1
    refine List.ext_getElem? fun j => ?_
    rw [List.getElem?_map]
    cases hj : acc.toList[j]? with
    | none =>
      rw [List.getElem?_eq_none (by rw [← hl]; exact List.getElem?_eq_none_iff.mp hj)]
      rfl
    | some v =>
      obtain ⟨en, hen, hv⟩ := it.2 j v (by rw [← Array.getElem?_toList]; exact hj)
      have qe := entry_at he j
      rw [hen] at qe
      cases hb : ks[j]? with
      | none =>
        rw [hb] at qe
        cases qe
      | some y =>
        rw [hb] at qe
        have e2 : en = entryOfKey (tupleKind (mixKind X.prog X.w)) y := Option.some.inj qe
        rw [hv, e2]
        rfl
  generalize acc.toList = its at ea
  subst ea
  have hz : (ks.map fun x => Value.ref x.2.1).length ≤ sizeLine := by rw [List.length_map]; omega
  refine wpAny_bind (wpAny_newList ?_ hz)
  have hoL : (h'.push (seqObj "list" (ks.map fun x => Value.ref x.2.1).toArray 0)).get? h'.objs.size = some (seqObj "list" (ks.map fun x => Value.ref x.2.1).toArray 0) := Heap.get?_push_size _ rfl
  have up : ∀ b o, s.heap.get? b = some o → (h'.push (seqObj "list" (ks.map fun x => Value.ref x.2.1).toArray 0)).get? b = some o := fun b o e => Heap.get?_push_of_some _ (kp b o e)
  show wpAny _ _ _ _ _ { s with heap := h'.push (seqObj "list" (ks.map fun x => Value.ref x.2.1).toArray 0), toks := tk }
  refine wpAny_bind (wpAny_holding (wpAny_call_entry slot_list_sort ⟨_, hoL, rfl⟩ entry_list_sort (SrtO.list_sort_ord (s := { s with heap := h'.push (seqObj "list" (ks.map fun x => Value.ref x.2.1).toArray 0), toks := tk }) (swo_lexS k) hoL hz (fun h2 => ?_) fun out o1 o2 => ⟨_, rfl, ?_⟩) (args_list_sort _)))
  · refine pairS_sortable (s := { s with heap := h'.push (seqObj "list" (ks.map fun x => Value.ref x.2.1).toArray 0), toks := tk }) (by omega) (fun v m => (a2 v m).keeps fun b o e _ => up b o e) fun o e c => ?_
    have e2 : some o = some (seqObj "list" (ks.map fun x => Value.ref x.2.1).toArray 0) := e.symm.trans hoL
    cases e2
    exact absurd (Value.type.inj c) (by decide)
  · have mem : ∀ v ∈ out, v ∈ ks.map fun x => Value.ref x.2.1 := fun v m => o2.perm.mem_iff.mp m
    have ok : out.map k = srtP ps := by
      refine srtP_is ?_ (List.pairwise_map.mpr o1)
      rw [← a1]
      exact o2.perm.map k
    have build : ∀ {l : List Value}, (∀ v ∈ l, v ∈ ks.map fun x => Value.ref x.2.1) → Prs H (l.map backV) (l.map k) := by
      intro l
      induction l with
      | nil => exact fun _ => .nil
      | cons v l ih => exact fun m => .cons (a3 v (m v List.mem_cons_self)) (ih fun y hy => m y (List.mem_cons_of_mem _ hy))
    have tb := build mem
    rw [ok] at tb
    have refs : ∀ v ∈ out, ∃ b, v = Value.ref b := fun v m => by
      obtain ⟨x, _, e⟩ := List.mem_map.mp (mem v m)
      exact ⟨_, e.symm⟩
    have I1 : Inv X pins σ H { s with heap := h', toks := tk } := I.kept kp
    obtain ⟨n, hn2⟩ := sortedHeap_at (vs := ks.map fun x => Value.ref x.2.1) (out := out.toArray) hoL
    refine wpAny_pure ⟨_, rfl, .ref h'.objs.size, upd H h'.objs.size (.lst (out.map backV)), I1.laid (t' := tk) (fun b u e => ?_) (Nat.le_refl _) ⟨?_, out, n, vals_back refs, hn2⟩, rfl, q _ _ tb (I1.hok.fresh (Nat.le_refl _))⟩
    · have hb : b < h'.objs.size := Heap.lt_size e
      rw [sortedHeap_old (Nat.ne_of_lt hb) (by rw [size_push']; exact Nat.lt_succ_of_lt hb)]
      exact Heap.get?_push_of_some _ e
    · rw [List.length_map, o2.perm.length_eq]
      exact hz
end TU

set_option Elab.async false
set_option linter.all false
set_option maxRecDepth 100000
namespace TU
open PySem PySem.Spec PyProof.Rows L2
/-! ### lists of pairs that are tracked -/
theorem PairAt.upd {H : Hp} {v : V} {p : SP} {q : Addr} {o o' : HO} (x : PairAt H v p) (e : H q = some o) (n : ∀ xs, o ≠ .tup xs) : PairAt (L2.upd H q o') v p := by
  obtain ⟨b, rfl, h⟩ := x
  refine ⟨b, rfl, ?_⟩
  rw [upd_ne (ne_of h e (Ne.symm (n _)))]
  exact h
theorem Prs.upd {H : Hp} {q : Addr} {o o' : HO} (e : H q = some o) (n : ∀ xs, o ≠ .tup xs) : ∀ {vs : List V} {ps : List SP}, Prs H vs ps → Prs (L2.upd H q o') vs ps
  | _, _, .nil => .nil
  | _, _, .cons h t => .cons (h.upd e n) (Prs.upd e n t)
theorem PairAt.un {H H' Hl : Hp} {a : Addr} {kvs : List (Key × V)} {od : Obj} {un : Hp → Hp} {v : V} {p : SP} (l : Lkd H Hl a kvs od un) (e : H' a = some (.frz od (.dK kvs))) (x : PairAt H' v p) : PairAt (un H') v p := by
  obtain ⟨b, rfl, h⟩ := x
  refine ⟨b, rfl, ?_⟩
  rw [l.un _ _ (ne_of h e fun z => nomatch z)]
  exact h
theorem Prs.un {H H' Hl : Hp} {a : Addr} {kvs : List (Key × V)} {od : Obj} {un : Hp → Hp} (l : Lkd H Hl a kvs od un) (e : H' a = some (.frz od (.dK kvs))) : ∀ {vs : List V} {ps : List SP}, Prs H' vs ps → Prs (un H') vs ps
  | _, _, .nil => .nil
  | _, _, .cons h t => .cons (h.un l e) (Prs.un l e t)
theorem PairAt.new {H : Hp} {q : Addr} {a b : Str} : PairAt (L2.upd H q (.tup [.str a, .str b])) (.ref q) (a, b) := ⟨q, rfl, upd_same⟩
/-- sorted(c), c a list of tracked pairs of texts -/
def rSortQ (K : PySem.W.Frag) : List V → Hp → VK → Prop := fun vs H Q => ∃ (a : Addr) (xs : List V) (ps : List SP), vs = [.ref a] ∧ SqL K H a xs ∧ Prs H xs ps ∧ ∀ ys p, Prs H ys (srtP ps) → H p = none → Q (.ref p) (L2.upd H p (.lst ys))
theorem call_sortQ {X : Cx} : CallR X (.builtin "sorted") (rSortQ X.K) := by
  intro pins s σ H vs us Q I r h
  obtain ⟨a, xs, ps, rfl, hs, ht, q⟩ := h
  obtain ⟨its, rv, hl, hz⟩ := I.list hs
  obtain ⟨u, rfl, ru⟩ := vals1 r
  obtain rfl : u = Value.ref a := ru
  obtain ⟨k, kall⟩ := prs_vals I
  obtain ⟨a1, a2, a3⟩ := kall rv ht
  have refs : ∀ v ∈ its, ∃ b, v = Value.ref b := fun v m => by
    obtain ⟨b, _, _, _, _, e, _⟩ := a2 v m
    exact ⟨b, e⟩
  refine SrtO.sorted_ord (swo_lexS k) hl.isList (by rw [← rv.length]; exact hz) (fun h2 h1 d hd kk => ?_) fun out o1 o2 => ?_
  · refine pairS_sortable (s := { s with heap := h1 }) (by omega) (fun v m => (a2 v m).keeps fun b o e _ => (kk b o e).2) fun o e c => ?_
    have e2 : some o = some (seqObj "list" its.toArray 0) := e.symm.trans hd
    cases e2
    exact absurd (Value.type.inj c) (by decide)
  · have mem : ∀ v ∈ out, v ∈ its := fun v m => o2.perm.mem_iff.mp m
    have ok : out.map k = srtP ps := by
      refine srtP_is ?_ (List.pairwise_map.mpr o1)
      rw [← a1]
      exact o2.perm.map k
    have build : ∀ {l : List Value}, (∀ v ∈ l, v ∈ its) → Prs H (l.map backV) (l.map k) := by
      intro l
      induction l with
      | nil => exact fun _ => .nil
      | cons v l ih => exact fun m => .cons (a3 v (m v List.mem_cons_self)) (ih fun y hy => m y (List.mem_cons_of_mem _ hy))
    have tb := build mem
    rw [ok] at tb
    have hd : s.heap.objs.size ≤ s.heap.objs.size + 1 := Nat.le_succ _
    obtain ⟨n, hn⟩ := sortedAll_at s.heap its out.toArray
    refine ⟨.ref (s.heap.objs.size + 1), L2.upd H (s.heap.objs.size + 1) (.lst (out.map backV)), I.laid (t' := s.toks) (fun b o e => sortedAll_old e) hd ⟨?_, out, n, vals_back fun v m => refs v (mem v m), hn⟩, rfl, q _ _ tb (I.hok.fresh hd)⟩
    rw [List.length_map, o2.perm.length_eq, ← rv.length]
    exact hz
theorem k_sortQ {X : Cx} {K : PySem.W.Frag} (h : X.K = K) : CallR X (.builtin "sorted") (rSortQ K) := h ▸ call_sortQ
theorem q_sortQ {K : PySem.W.Frag} {H : Hp} {Q : VK} {a : Addr} {xs : List V} {ps : List SP} (h : SqL K H a xs) (t : Prs H xs ps) (q : ∀ ys p, Prs H ys (srtP ps) → H p = none → Q (.ref p) (L2.upd H p (.lst ys))) : rSortQ K [.ref a] H Q := ⟨a, xs, ps, rfl, h, t, q⟩
/-! ### a dict keyed by pairs: its content by the plain list -/
/-- the dict's cells say this list -/
def PdAt (H : Hp) (a : Addr) (kvs : List (List Key × V)) (l : List (SP × V)) : Prop := H a = some (.dT kvs) ∧ kvs = l.map fun x => (pk x.1, x.2)
def lkP (l : List (SP × V)) (p : SP) : Option V := (l.find? fun x => decide (x.1 = p)).map (·.2)
theorem valV_pd (p : SP) : ∀ l : List (SP × V), valV (l.map fun x => (pk x.1, x.2)) (pk p) = lkP l p
  | [] => rfl
  | x :: l => by
    unfold valV lkP
    rw [List.map_cons, List.find?_cons, List.find?_cons]
    by_cases h : x.1 = p
    · have h2 : decide (pk x.1 = pk p) = true := decide_eq_true (by rw [h])
      have h3 : decide (x.1 = p) = true := decide_eq_true h
      rw [h3]
      simp [h2]
    · have h2 : decide (pk x.1 = pk p) = false := decide_eq_false fun z => h (pk_inj z)
      have h3 : decide (x.1 = p) = false := decide_eq_false h
      have ih := valV_pd p l
      unfold valV lkP at ih
      rw [h3]
      simp only [h2]
      exact ih
end TU

set_option Elab.async false
set_option linter.all false
set_option maxRecDepth 100000
namespace TU
open PySem PySem.Spec PyProof.Rows L2
/-- a global tuple of the text -/
theorem glob_tup {K : PySem.W.Frag} {h : Heap} {mg : Str → Option Value} {x : Str} {a : Addr} {dd : Option Addr} {its : Array Value} {n : Nat} {sl : Array (Option Value)} {vs : List V} (X : K.In h) (G : h.Ns mainGlobals mg) (ha : PySem.W.nsIn K mainGlobals x = some (some (.ref a)))
    (hl : K.lookup a = some ⟨.type "tuple", dd, .seq its n, sl⟩) (hz : its.size ≤ sizeLine) (hv : Vals vs its.toList) : ∃ A, mg x = some (.ref A) ∧ ∀ H, SqT K H A vs :=
  ⟨a, PySem.W.mg_of X G ha, fun _ => .inr ⟨_, its, n, hl, rfl, rfl, hz, hv⟩⟩
/-! ### picks: a dict from pairs to words -/
abbrev Pks := List (SP × Str)
def lkS (l : Pks) (p : SP) : Option Str := (l.find? fun x => decide (x.1 = p)).map (·.2)
def pkK (l : Pks) : List (List Key × V) := l.map fun x => (pk x.1, V.str x.2)
theorem valV_pk (p : SP) : ∀ l : Pks, valV (pkK l) (pk p) = (lkS l p).map V.str
  | [] => rfl
  | x :: l => by
    have ih := valV_pk p l
    unfold valV pkK lkS at ih ⊢
    rw [List.map_cons, List.find?_cons, List.find?_cons]
    by_cases h : x.1 = p
    · have h2 : decide (pk x.1 = pk p) = true := decide_eq_true (by rw [h])
      rw [decide_eq_true h]
      simp [h2]
    · have h2 : decide (pk x.1 = pk p) = false := decide_eq_false fun z => h (pk_inj z)
      rw [decide_eq_false h]
      simp only [h2]
      exact ih
section
variable {K : PySem.W.Frag} {H : Hp} {Q : VK} {d b : Addr} {l : Pks} {p : SP}
theorem dget_pk (hd : Rd H d (.dT (pkK l))) (hb : H b = some (.tup [.str p.1, .str p.2])) : DGet H d (.ref b) ((lkS l p).map V.str) := .inr ⟨pkK l, pk p, b, hd, rfl, hb, (valV_pk p l).symm⟩
theorem q_inP (hd : Rd H d (.dT (pkK l))) (hb : H b = some (.tup [.str p.1, .str p.2])) (q : Q (.bl (lkS l p).isSome) H) : rInU false K (.ref b) (.ref d) H Q := .inl ⟨d, _, rfl, dget_pk hd hb, by
  have e : ((lkS l p).map V.str).isSome = (lkS l p).isSome := by cases lkS l p <;> rfl
  show Q (.bl (if false = true then !((lkS l p).map V.str).isSome else ((lkS l p).map V.str).isSome)) H
  rw [if_neg Bool.false_ne_true, e]
  exact q⟩
theorem q_ninP (hd : Rd H d (.dT (pkK l))) (hb : H b = some (.tup [.str p.1, .str p.2])) (q : Q (.bl (!(lkS l p).isSome)) H) : rInU true K (.ref b) (.ref d) H Q := .inl ⟨d, _, rfl, dget_pk hd hb, by
  have e : ((lkS l p).map V.str).isSome = (lkS l p).isSome := by cases lkS l p <;> rfl
  show Q (.bl (if true = true then !((lkS l p).map V.str).isSome else ((lkS l p).map V.str).isSome)) H
  rw [if_pos rfl, e]
  exact q⟩
theorem q_ixP {w : Str} (hd : Rd H d (.dT (pkK l))) (hb : H b = some (.tup [.str p.1, .str p.2])) (hw : lkS l p = some w) (q : Q (.str w) H) : rIxU K (.ref d) (.ref b) H Q := .inr (.inr (.inr ⟨d, .str w, rfl, by
  have g := dget_pk hd hb
  rw [hw] at g
  exact g, q⟩))
end
end TU

set_option Elab.async false
set_option linter.all false
set_option maxRecDepth 100000
namespace TU
open PySem PySem.Spec PyProof.Rows L2
/-- sorted(s), s a set of pairs of texts -/
def rSortSP (P : Program) (w : World) : List V → Hp → VK → Prop := fun vs H Q => ∃ (a : Addr) (L : List (Addr × SP)), vs = [.ref a] ∧ H a = some (SPO P w a L) ∧ (∀ z ∈ L, H z.1 = some (PairO z.2)) ∧ L.length < 64 ∧ ∀ ys p, Prs H ys (srtP (L.map (·.2))) → H p = none → Q (.ref p) (upd H p (.lst ys))
theorem prs_refs {H : Hp} : ∀ {L : List (Addr × SP)}, (∀ z ∈ L, H z.1 = some (PairO z.2)) → Prs H (L.map fun z => V.ref z.1) (L.map (·.2))
  | [], _ => .nil
  | z :: L, h => .cons ⟨z.1, rfl, h z List.mem_cons_self⟩ (prs_refs fun q m => h q (List.mem_cons_of_mem _ m))
theorem call_sortSP {X : Cx} (hc : X.calm = true) : CallR X (.builtin "sorted") (rSortSP X.prog X.w) := by
  intro pins s σ H vs us Q I r h
  obtain ⟨a, L, rfl, ha, hL, few, q⟩ := h
  rw [Vals.ref1 r]
  have m : MP X.prog X.w s.heap a (L.map fun z => (.ref z.1, [z.2.1, z.2.2])) := (I.hok a _ ha).1
  obtain ⟨o, es, ep, t, hob, hx, hda, fit, fw, ris, led, ev⟩ := (mp_law X.prog X.w).ot m
  refine Calls.call_function_entry kind_sorted plain_sorted entry_sorted (args_sorted1 _) ?_
  unfold Builtin.«sorted»
  refine wpAny_bind (wpAny_pure ?_)
  refine wpAny_bind (collect_set (A := X.A.in1) (I.ok.hd hc) ⟨o, hob, hx.1, hda⟩ fit fw ris led fun s1 vs k1 z1 g1 o1 pm => ?_)
  rw [ev, List.map_map] at pm
  obtain ⟨L1, p1, e1⟩ := perm_img pm
  have e1 : vs = L1.map fun z => Value.ref z.1 := e1
  subst e1
  obtain ⟨k, kall⟩ := prs_vals I
  obtain ⟨a1, a2, a3⟩ := kall (vals_addr (fun z : Addr × SP => z.1) L1) (prs_refs fun z mz => hL z (p1.mem_iff.mp mz))
  have ln : L1.length < 64 := by rw [p1.length_eq]; exact few
  have hz : (L1.map fun z => Value.ref z.1).length ≤ sizeLine := by rw [List.length_map, sizeLine_eq]; omega
  refine wpAny_bind (wpAny_newList ?_ hz)
  have own := get_own s1.heap (u := seqObj "list" (L1.map fun z => Value.ref z.1).toArray 0)
  have up : ∀ b o, s.heap.get? b = some o → (s1.heap.push (seqObj "list" (L1.map fun z => Value.ref z.1).toArray 0)).get? b = some o := fun b o e => get_push _ (k1 b o e)
  show wpAny _ _ _ _ _ { s1 with heap := s1.heap.push (seqObj "list" (L1.map fun z => Value.ref z.1).toArray 0) }
  refine wpAny_bind (wpAny_holding (wpAny_call_entry slot_list_sort ⟨_, own, rfl⟩ entry_list_sort (SrtO.list_sort_ord (s := { s1 with heap := s1.heap.push (seqObj "list" (L1.map fun z => Value.ref z.1).toArray 0) }) (swo_lexS k) own hz (fun h2 => ?_) fun out b1 b2 => ⟨_, rfl, ?_⟩) (args_list_sort _)))
  · refine pairS_sortable (s := { s1 with heap := s1.heap.push (seqObj "list" (L1.map fun z => Value.ref z.1).toArray 0) }) (by omega) (fun v mv => (a2 v mv).keeps fun b o e _ => up b o e) fun o e c => ?_
    have e2 : some o = some (seqObj "list" (L1.map fun z => Value.ref z.1).toArray 0) := e.symm.trans own
    cases e2
    exact absurd (Value.type.inj c) (by decide)
  · have mem : ∀ v ∈ out, v ∈ L1.map fun z => Value.ref z.1 := fun v mv => b2.perm.mem_iff.mp mv
    have good : out.map k = srtP (L.map (·.2)) := by
      refine srtP_is ?_ (List.pairwise_map.mpr b1)
      refine List.Perm.trans (b2.perm.map k) ?_
      rw [a1]
      exact p1.map _
    have build : ∀ {l : List Value}, (∀ v ∈ l, v ∈ L1.map fun z => Value.ref z.1) → Prs H (l.map backV) (l.map k) := by
      intro l
      induction l with
      | nil => exact fun _ => .nil
      | cons v l ih => exact fun mv => .cons (a3 v (mv v List.mem_cons_self)) (ih fun y hy => mv y (List.mem_cons_of_mem _ hy))
    have tb := build mem
    rw [good] at tb
    have refs : ∀ v ∈ out, ∃ b, v = Value.ref b := fun v mv => by
      obtain ⟨z, _, e⟩ := List.mem_map.mp (mem v mv)
      exact ⟨_, e.symm⟩
    obtain ⟨n, hn2⟩ := sortedHeap_at (vs := L1.map fun z => Value.ref z.1) (out := out.toArray) own
    have old : ∀ b u, s.heap.get? b = some u → (sortedHeap (s1.heap.push (seqObj "list" (L1.map fun z => Value.ref z.1).toArray 0)) s1.heap.objs.size (L1.map fun z => Value.ref z.1) out.toArray).get? b = some u := fun b u e => by
      have e2 := k1 b u e
      have hb : b < s1.heap.objs.size := Heap.lt_size e2
      rw [sortedHeap_old (Nat.ne_of_lt hb) (by rw [size_push']; exact Nat.lt_succ_of_lt hb)]
      exact get_push _ e2
    have hn : H s1.heap.objs.size = none := I.hok.fresh z1
    have lz : (out.map backV).length ≤ sizeLine := by
      rw [List.length_map, b2.perm.length_eq]
      exact hz
    have J : Inv X pins σ (upd H s1.heap.objs.size (.lst (out.map backV))) { s with heap := sortedHeap (s1.heap.push (seqObj "list" (L1.map fun z => Value.ref z.1).toArray 0)) s1.heap.objs.size (L1.map fun z => Value.ref z.1) out.toArray, gens := s1.gens, drawn := s1.drawn, toks := s1.toks } :=
      I.call (ch := []) (Un.laid old z1 hn) (I.hok.laid old z1 ⟨lz, out, n, vals_back refs, hn2⟩) (by rw [g1]; exact I.bare) fun _ z => nomatch z
    refine wpAny_pure ⟨_, rfl, .ref s1.heap.objs.size, _, ?_, rfl, q _ _ tb hn⟩
    have e3 : s1.os = s.os := o1
    have es : ({ s1 with heap := sortedHeap (s1.heap.push (seqObj "list" (L1.map fun z => Value.ref z.1).toArray 0)) s1.heap.objs.size (L1.map fun z => Value.ref z.1) out.toArray } : Shared) = { s with heap := sortedHeap (s1.heap.push (seqObj "list" (L1.map fun z => Value.ref z.1).toArray 0)) s1.heap.objs.size (L1.map fun z => Value.ref z.1) out.toArray, gens := s1.gens, drawn := s1.drawn, toks := s1.toks } := by rw [← e3]
    rw [es]
    exact J
theorem k_sortSP {X : Cx} {P : Program} {w : World} (hp : X.prog = P) (hw : X.w = w) (hc : X.calm = true) : CallR X (.builtin "sorted") (rSortSP P w) := by
  subst hp hw
  exact call_sortSP hc
end TU

set_option Elab.async false
set_option linter.all false
set_option maxRecDepth 100000
namespace TU
open PySem PySem.Spec PyProof.Rows L2
/-! ### the outermost call, sys.modules known to stand -/
theorem top_walkS {l : PySem.W.OpenLaw} {q : Program} {loose : List Str} {XP : (Str → Option Value) → Heap → Prop} {YP : World → Heap → Prop} {d : DefRec} {K : Params → PySem.W.Frag} (hn : l.most = some 63) (hdf : d.params.defaults = []) (hi : importsNone q = true)
    (hY : ∀ (w : World) (h : Heap), YP w h → (K w.params).In h)
    (F : ∀ (w : World) (mg : Str → Option Value) (fa : Addr) (h : Heap), (K w.params).In h → h.Ns mainGlobals mg → mg d.name = some (.ref fa) →
      ∀ base : Heap, (K w.params).In base → base.Ns mainGlobals mg → SysM base → TopOk l.prog w (K w.params) mg base fa (spLaw (K w.params))) :
    PySem.W.WalkO q loose XP YP l.row.toRowW d [] (fun f vs => PySem.call f vs) := by
  refine Att.attach_call hn hdf fun w z0 z mg mb fa o pm cd doc a vs ns G Y ho hd hcd hmg hobj hints hlen hg => ?_
  have kin := hY w _ Y
  have size : ns.length ≤ sizeLine := Nat.le_trans hlen (by decide)
  have rel := vals_ints hints
  have obj : ObjOk l.prog w (fun b => if b = a then some (HO.frz { cls := .type "list", data := .seq vs.toArray } (.lst (ns.map V.int))) else none) z.heap a (.frz { cls := .type "list", data := .seq vs.toArray } (.lst (ns.map V.int))) := ⟨hobj, by rw [List.length_map]; exact size, vs, _, rel, hobj⟩
  -- the tracked heap: the script alone, or nothing where the module knows it
  obtain ⟨T, t1, t2, t3, t4⟩ : ∃ T : Hp, SqL (K w.params) T a (ns.map V.int) ∧ HOk l.prog w T z.heap ∧ (∀ b u, T b = some u → b = a ∧ ∃ o xs, u = .frz o (.lst xs)) ∧ (T a ≠ none → (K w.params).lookup a = none) := by
    cases lk : (K w.params).lookup a with
    | none =>
      refine ⟨fun b => if b = a then some (HO.frz { cls := .type "list", data := .seq vs.toArray } (.lst (ns.map V.int))) else none, .inl (.inr ⟨{ cls := .type "list", data := .seq vs.toArray }, if_pos rfl⟩), fun b u e => ?_, fun b u e => ?_, fun _ => rfl⟩
      all_goals
        by_cases c : b = a
        · have e2 := (if_pos c).symm.trans e
          cases e2
          subst c
          first | exact obj | exact ⟨rfl, _, _, rfl⟩
        · have e2 := (if_neg c).symm.trans e
          cases e2
    | some u =>
      have e := kin a u lk
      rw [hobj] at e
      cases e
      exact ⟨fun _ => none, .inr ⟨_, vs.toArray, _, lk, rfl, rfl, rfl, by rw [List.size_toArray, hints.length]; exact size, by simpa using rel⟩, (fun _ _ e => nomatch e), (fun _ _ e => nomatch e), fun c => absurd rfl c⟩
  have dic : ∀ {b : Addr} {ob : Obj} {es : Array DictEntry} {n : Nat}, z.heap.get? b = some ob → ob.data = .dict es n → T b = none := fun {b ob es n} e1 e2 => by
    cases c : T b with
    | none => rfl
    | some u =>
      have e3 := (t3 b u c).1
      subst e3
      rw [hobj] at e1
      cases e1
      exact nomatch e2
  have ns1 : ∀ {b : Addr} {m : Str → Option Value}, z.heap.Ns b m → (hidT z.heap T).Ns b m := fun ⟨ob, es, n, e1, e2, r⟩ => ⟨ob, es, n, hidT_get e1 (dic e1 e2), e2, r⟩
  have kin1 : (K w.params).In (hidT z.heap T) := fun b ob e => hidT_get (kin b ob e) (by
    cases c : T b with
    | none => rfl
    | some u =>
      have e3 := (t3 b u c).1
      subst e3
      rw [t4 (by rw [c]; exact fun z => nomatch z)] at e
      cases e)
  have env : Env0 l.prog w (K w.params) mg (hidT z.heap T) callerA [] z T := by
    refine ⟨rfl, ⟨kin1, ns1 G.T.g, ⟨mb, ns1 G.T.b, G.T.builtins⟩, ?_⟩, fun b ob e => of_hidT e, Nat.le_of_eq (hidT_size _ _), trivial, (fun b m => nomatch (show b ∈ ([] : List Addr) from m)), t2, .of_eq hg⟩
    obtain ⟨mc, h1, h2⟩ := G.T.nolimit
    exact ⟨mc, ns1 h1, h2⟩
  have sys : SysM (hidT z.heap T) := by
    obtain ⟨o, es, n, e, d⟩ := (sysM_of (l := l) G hi).ex
    exact ⟨o, es, n, hidT_get e (dic e d), d⟩
  refine codeAny_mono (F w mg fa _ kin G.T.g hmg _ kin1 (ns1 G.T.g) sys z T a (fun v _ => v = .bl true) (fun _ _ _ => False) env ⟨a, ns, rfl, t1, hlen, fun _ => rfl⟩) fun r z2 hr => ?_
  match r, hr with
  | .error e, hr => exact False.elim (by
      obtain ⟨_, _, _, _, _, _, _, _, _, _, _, _, x⟩ := hr
      exact x)
  | .ok .next, hr => exact hr.elim
  | .ok .brk, hr => exact hr.elim
  | .ok .cont, hr => exact hr.elim
  | .ok (.ret u), ⟨v, T2, os, bare, un, ok2, rv, hv⟩ =>
    have hv2 : v = .bl true := hv
    subst hv2
    have e : u = Value.bool true := rv
    subst e
    refine ⟨rfl, OldK.of_keep fun b ob e => ?_, os, bare⟩
    cases c : T b with
    | none => exact un.keep b ob e c (fun m => nomatch (show b ∈ ([] : List Addr) from m)) (fun m => nomatch (show b ∈ ([] : List Addr) from m))
    | some u =>
      obtain ⟨_, o2, xs, rfl⟩ := t3 b u c
      obtain ⟨g1, _⟩ := t2 b _ c
      obtain ⟨g2, _⟩ := ok2 b _ (un.frzs b o2 _ c)
      rw [e] at g1
      cases g1
      exact g2

theorem Vw.nj {n m : Nat} {j : Bool} {d : Tr} (v : Vw n m j d) : Vw n m false d := ⟨v.sh, v.sl, v.bk, v.dp, fun z => nomatch z⟩
section
variable {K : PySem.W.Frag} {σ : L2.St} {H : Hp} {Q : VK} {D : Ends}
theorem q_dnewT (h : ∀ p, H p = none → Q (.ref p) (upd H p (.dT []))) : tDNewT σ H Q := h
theorem q_setT {a b : Addr} {v : V} {kvs : List (List Key × V)} {R : Hp → Prop} (k : List Key) (e : H a = some (.dT kvs)) (eb : H b = some (.tup (k.map kV))) (hl : kvs.length < sizeLine) (q : R (upd H a (.dT (putK kvs k v)))) : rSetU (.ref a) (.ref b) v H R := .inr ⟨a, _, rfl, DPut.t e eb hl, q⟩
theorem q_rng1 {ta : TA} {R : It → Hp → Prop} (h : ta σ H fun vs H1 => ∃ j : Int, vs = [.int j] ∧ -(2 ^ 62) ≤ j ∧ j < 2 ^ 62 ∧ R (Itr 0 j.toNat) H1) : iRng1 ta σ H R := h
theorem q_cont (h : D.ct σ H) : tCont D σ H := h
/-- the turns of a set comprehension -/
def scB (P : Program) (w : World) (J : It) (g : TG) (tt : TT) (te : TE) (vs : List Nat) (σ : L2.St) (H1 : Hp) (d : Addr) (Q : VK) : Prop := ∃ W : Nat → Nat → Hp → Prop, (∃ m, W 0 m (upd H1 d (SPO P w d []))) ∧ ∀ i m H, W i m H → (J.stop i H ∧ Q (.ref d) H) ∨ (J.go i H ∧
  ∃ Nx : Hp → Prop, (∀ H', Nx H' → ∃ m', m' < m ∧ W (i + 1) m' H') ∧ ∀ x H', J.yld i H x H' → g x (wipe σ vs) H' fun σ2 H2 => wipe σ2 vs = wipe σ vs ∧ tt σ2 H2 fun b H3 => if b = true then te σ2 H3 fun y H4 => PtP P w d y H4 Nx else Nx H3)
theorem q_scP {P : Program} {w : World} {wi : TI} {g : TG} {tt : L2.St → TT} {te : L2.St → TE} {vs : List Nat} (h : wi σ H fun J H1 => ∀ d, H1 d = none → scB P w J g (tt σ) (te σ) vs σ H1 d Q) : tScP P w wi g tt te vs σ H Q := h
theorem sc_any {P : Program} {w : World} {J : It} {n : Nat} {G : Hp → Prop} {Y : Nat → Hp → V → Hp → Prop} (Wk : Walk J n G Y) {g : TG} {tt : TT} {te : TE} {vs : List Nat} {d : Addr} {H1 : Hp} (Pv : Nat → Hp → Prop) (h0 : Pv 0 (upd H1 d (SPO P w d []))) (hG : ∀ i H, i ≤ n → Pv i H → G H)
    (hs : ∀ i x H H', i < n → Pv i H → Y i H x H' → g x (wipe σ vs) H' fun σ2 H2 => wipe σ2 vs = wipe σ vs ∧ tt σ2 H2 fun b H3 => if b = true then te σ2 H3 fun y H4 => PtP P w d y H4 (Pv (i + 1)) else Pv (i + 1) H3) (hd : ∀ H, Pv n H → Q (.ref d) H) : scB P w J g tt te vs σ H1 d Q := by
  refine ⟨fun i m H => m + i = n ∧ Pv i H, ⟨n, Nat.add_zero n, h0⟩, fun i m H p => ?_⟩
  obtain ⟨e, p⟩ := p
  have q := hG i H (by omega) p
  by_cases lt : i < n
  · exact .inr ⟨Wk.goes i H lt q, Pv (i + 1), fun H' p' => ⟨m - 1, by omega, by omega, p'⟩, fun x H' y => hs i x H H' lt p (Wk.yields i H x H' lt q y)⟩
  · obtain rfl : i = n := by omega
    exact .inl ⟨Wk.stops H q, hd H p⟩
end
end TU

set_option Elab.async false
set_option linter.all false
set_option maxRecDepth 100000
namespace TU
open PySem PySem.Spec PyProof.Rows L2
/-! ### errors whose context is known to be None -/
structure DfN (P : Program) (w : World) (K : PySem.W.Frag) (mg : Str → Option Value) (base : Heap) (x : Str) (ps : List Str) (k : Nat) (sp : Sp) : Prop where
  ex : ∃ f fd, FnOk P w K mg base (L2N.CX P w) k f fd ps sp ∧ mg x = some (.ref f) ∧ PySem.W.keepIn K (.ref f) = true ∧ Binds K fd ps []
structure DmN (P : Program) (w : World) (K : PySem.W.Frag) (mg : Str → Option Value) (base : Heap) (C : Addr) (m : Str) (ps : List Str) (k : Nat) (sp : Sp) : Prop where
  ex : ∃ f fd, FnOk P w K mg base (L2N.CX P w) k f fd ps sp ∧ Meth K C m f ∧ Binds K fd ps []
/-- a promise with the context told is one without -/
theorem cx_of_n {P : Program} {w : World} {outer : List Env} {H : Hp} {s : Shared} {E : XK} {u : Value} {s' : Shared} (c : L2N.CX P w outer H s E u s') : L2.CX P w outer H s E u s' := by
  obtain ⟨a, B, H', cls, d, e, ⟨f1, f2, f3, oe, vs, T, oT, ts, t1, t2, t3⟩, r⟩ := c
  exact ⟨a, B, H', cls, d, e, ⟨f1, f2, f3, oe, vs, T, oT, ts, t1, L2N.Zn.zc t2, t3⟩, r⟩
section
variable {P : Program} {w : World} {K : PySem.W.Frag} {mg : Str → Option Value} {base : Heap}
theorem fn_of_n {k : Nat} {f : Addr} {fd : FuncData} {ps : List Str} {sp : Sp} (F : FnOk P w K mg base (L2N.CX P w) k f fd ps sp) : FnOk P w K mg base (L2.CX P w) k f fd ps sp :=
  ⟨F.len, fun A outer s H args us vs Q E hr e0 b r h => codeAny_mono (F.run A outer s H args us vs Q E hr e0 b r h) fun r s' hq => by
    cases r with
    | error e => exact cx_of_n hq
    | ok fl =>
      cases fl <;> exact hq⟩
theorem DfN.df {x : Str} {ps : List Str} {k : Nat} {sp : Sp} (F : DfN P w K mg base x ps k sp) : Df P w K mg base x ps k sp := by
  obtain ⟨f, fd, F0, r⟩ := F.ex
  exact ⟨f, fd, fn_of_n F0, r⟩
theorem DmN.dm {C : Addr} {m : Str} {ps : List Str} {k : Nat} {sp : Sp} (F : DmN P w K mg base C m ps k sp) : Dm P w K mg base C m ps k sp := by
  obtain ⟨f, fd, F0, r⟩ := F.ex
  exact ⟨f, fd, fn_of_n F0, r⟩
theorem okN {x qual : Str} {st : Stmt} {f : Addr} {fd : FuncData} {N ps : List Str} {k : Nat} {sp : Sp} (F : Fun K x qual st f fd) (S : FnScope N ps (defScope st)) (len : ∀ vs H Q E, sp vs H Q E → vs.length = ps.length)
    (hbody : ∀ (cdv : Value) (A : Around) (outer : List Env) (s : Shared) (H : Hp) (vs : List V) (Q : VK) (E : XK), Room k (A.deeper (envOfC qual (defScope st) s.heap.objs.size f cdv)) → sp vs H Q E →
      ∃ t, PSs (cxOf (L2N.CX P w) P w K mg base N qual (defScope st) f cdv A outer s H E) (defBody st) t ∧ t { nx := fun _ H' => Q .non H', rt := Q } (L2.start N vs) H) : FnOk P w K mg base (L2N.CX P w) (k + 1) f fd ps sp := by
  obtain ⟨oc, od, kV, doc, pm, an, cdv, ct, osl, rfl, lk, hcd⟩ := F.ex
  exact fn_of lk hcd S len fun A outer s H vs Q E hr h => hbody cdv A outer s H vs Q E hr h
theorem TopF.dfN {x : Str} {st : Stmt} {N ps : List Str} {k : Nat} {sp : Sp} (F : TopF K mg x st ps) (S : FnScope N ps (defScope st)) (len : ∀ vs H Q E, sp vs H Q E → vs.length = ps.length)
    (hbody : ∀ (f : Addr) (cdv : Value) (A : Around) (outer : List Env) (s : Shared) (H : Hp) (vs : List V) (Q : VK) (E : XK), Room k (A.deeper (envOfC x (defScope st) s.heap.objs.size f cdv)) → sp vs H Q E →
      ∃ t, PSs (cxOf (L2N.CX P w) P w K mg base N x (defScope st) f cdv A outer s H E) (defBody st) t ∧ t { nx := fun _ H' => Q .non H', rt := Q } (L2.start N vs) H) : DfN P w K mg base x ps (k + 1) sp := by
  obtain ⟨f, fd, F0, hm, hb⟩ := F.ex
  exact ⟨f, fd, okN F0 S len fun cdv A outer s H vs Q E hr h => hbody f cdv A outer s H vs Q E hr h, hm, F0.kp, hb⟩
theorem TopM.dmN {C : Addr} {m qual : Str} {st : Stmt} {N ps : List Str} {k : Nat} {sp : Sp} (F : TopM K C m qual st ps) (S : FnScope N ps (defScope st)) (len : ∀ vs H Q E, sp vs H Q E → vs.length = ps.length)
    (hbody : ∀ (f : Addr) (cdv : Value) (A : Around) (outer : List Env) (s : Shared) (H : Hp) (vs : List V) (Q : VK) (E : XK), Room k (A.deeper (envOfC qual (defScope st) s.heap.objs.size f cdv)) → sp vs H Q E →
      ∃ t, PSs (cxOf (L2N.CX P w) P w K mg base N qual (defScope st) f cdv A outer s H E) (defBody st) t ∧ t { nx := fun _ H' => Q .non H', rt := Q } (L2.start N vs) H) : DmN P w K mg base C m ps (k + 1) sp := by
  obtain ⟨f, fd, F0, hm, hb⟩ := F.ex
  exact ⟨f, fd, okN F0 S len fun cdv A outer s H vs Q E hr h => hbody f cdv A outer s H vs Q E hr h, hm, hb⟩
end
section
variable {X : Cx} {k : Nat} {ps : List Str} {sp : Sp} {x : Str} {p pos : Pos} {e : Expr} {es : List Expr} {t : TA}
theorem pe_dfN {E : L2.St → XK} (F : DfN X.prog X.w X.K X.mg X.base x ps k sp) (hr : Room k X.A) (hx : ∀ σ, PassesAt (L2N.CX X.prog X.w) X σ (E σ)) (ha : PA X (e :: es) t) (hg : Gl X x := by rfl) (hdb : (x == ("__debug__" : Str)) = false := by decide)
    (he : starEach (e :: es) X.env = (false, eval e X.env) :: starEach es X.env := by rfl) (hpl : (backTo pos (starEach es X.env)).any (·.1) = false := by rfl) : PE X (.Call (.Name x p) (e :: es) [] pos) (tCallS sp E t) := by
  obtain ⟨f, fd, F0, hm, hk, hb⟩ := F.ex
  exact pe_callS F0 hr hg hm hk hb hx ha hdb he hpl
end
/-! ### own errors with fields -/
structure XcN (P : Program) (w : World) (K : PySem.W.Frag) (mg : Str → Option Value) (base : Heap) (x : Str) (fs : List Str) (C : Addr) : Prop where
  T : OexC K C
  xf : XfC K C
  g : mg x = some (.ref C)
  no : ∀ f ∈ fs, PySem.W.findIn K (.ref C) f = some none
  te : PySem.W.exmOne K (.ref C) (.ref C) = some true
  ini : ∃ fI fd, PySem.W.findIn K (.ref C) "__init__" = some (some (.ref fI)) ∧ PySem.W.typeIn K (.ref fI) = some (.type "function") ∧ FnOk P w K mg base (L2N.CX P w) 1 fI fd ("self" :: fs) (spXI C fs) ∧ Binds K fd ("self" :: fs) []
theorem XcN.xc {P : Program} {w : World} {K : PySem.W.Frag} {mg : Str → Option Value} {base : Heap} {x : Str} {fs : List Str} {C : Addr} (X : XcN P w K mg base x fs C) : Xc P w K mg base x fs C := by
  obtain ⟨fI, fd, h1, h2, h3, h4⟩ := X.ini
  exact ⟨X.T, X.xf, X.g, X.no, X.te, fI, fd, h1, h2, fn_of_n h3, h4⟩
/-- an error's __init__ is the same work in both kinds -/
theorem initN {P : Program} {w : World} {K : PySem.W.Frag} {mg : Str → Option Value} {base : Heap} {k : Nat} {f C : Addr} {fd : FuncData} {fs : List Str} (F : FnOk P w K mg base (L2.CX P w) k f fd ("self" :: fs) (spXI C fs)) : FnOk P w K mg base (L2N.CX P w) k f fd ("self" :: fs) (spXI C fs) :=
  ⟨F.len, fun A outer s H args us vs Q E hr e0 b r h => codeAny_mono (F.run A outer s H args us vs Q (fun _ _ _ => False) hr e0 b r h) fun r s' hq => by
    cases r with
    | error e =>
      obtain ⟨_, _, _, _, _, _, _, _, _, _, _, _, z⟩ := hq
      exact z.elim
    | ok fl =>
      cases fl <;> exact hq⟩
theorem Xc.n {P : Program} {w : World} {K : PySem.W.Frag} {mg : Str → Option Value} {base : Heap} {x : Str} {fs : List Str} {C : Addr} (X : Xc P w K mg base x fs C) : XcN P w K mg base x fs C := by
  obtain ⟨fI, fd, h1, h2, h3, h4⟩ := X.ini
  exact ⟨X.T, X.xf, X.g, X.no, X.te, fI, fd, h1, h2, initN h3, h4⟩
/-- what raises nothing is of both kinds -/
theorem fn_n {P : Program} {w : World} {K : PySem.W.Frag} {mg : Str → Option Value} {base : Heap} {k : Nat} {f : Addr} {fd : FuncData} {ps : List Str} {sp : Sp} (q : ∀ vs H Q E, sp vs H Q E → sp vs H Q (fun _ _ _ => False)) (F : FnOk P w K mg base (L2.CX P w) k f fd ps sp) : FnOk P w K mg base (L2N.CX P w) k f fd ps sp :=
  ⟨F.len, fun A outer s H args us vs Q E hr e0 b r h => codeAny_mono (F.run A outer s H args us vs Q (fun _ _ _ => False) hr e0 b r (q _ _ _ _ h)) fun r s' hq => by
    cases r with
    | error e =>
      obtain ⟨_, _, _, _, _, _, _, _, _, _, _, _, z⟩ := hq
      exact z.elim
    | ok fl =>
      cases fl <;> exact hq⟩
end TU

set_option Elab.async false
set_option linter.all false
set_option maxRecDepth 100000
namespace TU
open PySem PySem.Spec PyProof.Rows L2
section
variable {X : Cx} {C : Addr} {x : Str} {fs : List Str} {p pos : Pos} {e : Expr} {es : List Expr} {ta : TA}
/-- x(e, ..) is made, to be raised: its context is None -/
theorem pmk_xcN (T : XcN X.prog X.w X.K X.mg X.base x fs C) (hr : Room 2 X.A) (ha : PA X (e :: es) ta) (hg : Gl X x := by rfl) (hdb : (x == ("__debug__" : Str)) = false := by decide)
    (he : starEach (e :: es) X.env = (false, eval e X.env) :: starEach es X.env := by rfl) (hpl : (backTo pos (starEach es X.env)).any (·.1) = false := by rfl) : L2N.PMk X (.Call (.Name x p) (e :: es) [] pos) (tMkO C (spXI C fs) [] ta) := by
  obtain ⟨fI, fd, iC, tI, FI, hb⟩ := T.ini
  intro pins s σ H Q I h
  obtain ⟨nm, q, N, bs, bm, sn, sub, ab, col, dd, k0, k1, k2, k3, k5, hC, hbm⟩ := T.T.cls
  refine wpAny_Call_Name_kw (ld_glob I hg T.g ?_ hdb)
  refine PySem.W.callWith_K (h₀ := X.base) I.ok.mod.kin T.T.kC (thn (ha.run pos pins s σ H _ I h) fun us z ⟨vs, H1, I1, r1, _, q1⟩ => ⟨I1.kIn, ?_⟩) he hpl
  show wpAny _ _ (call (.ref C) us) _ _ _
  obtain ⟨hp, g, dr, tk, os⟩ := z
  have old : ∀ b o, hp.get? b = some o → ((hp.push (PySem.W.kdv_tup us)).push (PySem.HandSPX.excO C hp.objs.size)).get? b = some o := fun b o e => get_push _ (get_push _ e)
  have le : hp.objs.size ≤ hp.objs.size + 1 := Nat.le_succ _
  have want := q1 (hp.objs.size + 1) (I1.hok.fresh le)
  rw [List.append_nil] at want
  have made : ((hp.push (PySem.W.kdv_tup us)).push (PySem.HandSPX.excO C hp.objs.size)).get? (hp.objs.size + 1) = some (PySem.HandSPX.excO C hp.objs.size) := by heap_get
  have J : Inv X pins σ (upd H1 (hp.objs.size + 1) (exo (hp.objs.size + 1) C none)) ⟨(hp.push (PySem.W.kdv_tup us)).push (PySem.HandSPX.excO C hp.objs.size), g, dr, tk, os⟩ := I1.laid (t' := tk) (a := hp.objs.size + 1) (o := exo (hp.objs.size + 1) C none) (h' := (hp.push (PySem.W.kdv_tup us)).push (PySem.HandSPX.excO C hp.objs.size)) old le (exo_ok made)
  have rel : Vals (V.ref (hp.objs.size + 1) :: vs) (Value.ref (hp.objs.size + 1) :: us) := .cons rfl r1
  have len : (Value.ref (hp.objs.size + 1) :: us ++ []).length = ("self" :: fs : List Str).length := by
    have e := rel.length
    rw [FI.len _ _ _ _ want] at e
    rw [List.append_nil]
    exact e.symm
  have bd := hb _ (Value.ref (hp.objs.size + 1) :: us) J.kIn len
  rw [List.append_nil] at bd
  have few : us.length ≤ sizeLine := by
    have e := Paired.length r1
    rw [sizeLine_eq]
    omega
  refine wpAny_call (PySem.HandSPX.call_own F.excBase_ValueError (fun Y => PySem.HandSPX.refsVE_contains Y bm hbm) (I1.kIn _ _ hC) (PySem.W.looks_findIn I1.kIn iC) (fun self => PySem.W.bind_fn I1.kIn self tI) few ?_)
  refine codeAny_mono (FI.run _ X.stack _ _ ⟨Value.ref (hp.objs.size + 1) :: us, []⟩ (Value.ref (hp.objs.size + 1) :: us) _ _ (fun _ _ _ => False) (hr.make C us []) (J.env0.make C us []) bd rel want) fun r z hq => ?_
  match r, hq with
  | .error er, hq =>
    obtain ⟨_, _, _, _, _, _, _, _, _, _, _, _, bad⟩ := hq
    exact bad.elim
  | .ok .next, hq => exact hq.elim
  | .ok .brk, hq => exact hq.elim
  | .ok .cont, hq => exact hq.elim
  | .ok (.ret u), hq =>
    obtain ⟨v, H2, o2, b2, n2, k2', rv, ev, d, fx, ea, ed, hd, q2⟩ := hq
    subst ev
    obtain ⟨h2, g2, d2, t2, os2⟩ := z
    obtain ⟨t0, G, J2, kG, ge, hoe, na⟩ := mk_end0 (d2 := d2) (t2 := t2) I1 le old n2 k2' o2 b2 ea ed hd
    exact ⟨rv, hp.objs.size + 1, _, _, ⟨G, g2, d2, t2, os2⟩, _, .ref C, some d, rfl, J2, kG, ge, hoe, ⟨rfl, rfl, fun vs hv => by cases hv; rfl⟩, rfl, rfl, na, rfl, b2, raises_own T.T.exC T.T.tyC, q2⟩
theorem ps_rzN {W : WX} {pos2 : Pos} (hc : X.calm = true) (T : XcN X.prog X.w X.K X.mg X.base x fs C) (hr : Room 2 X.A) (tk : L2N.Takes X W) (ha : PA X (e :: es) ta) (hg : Gl X x := by rfl) (hdb : (x == ("__debug__" : Str)) = false := by decide)
    (he : starEach (e :: es) X.env = (false, eval e X.env) :: starEach es X.env := by rfl) (hpl : (backTo pos (starEach es X.env)).any (·.1) = false := by rfl) : PS X (.Raise (some (.Call (.Name x p) (e :: es) [] pos)) none pos2) (tRz C fs W ta) := L2N.ps_raise hc tk (pmk_xcN T hr ha hg hdb he hpl)
end
end TU

set_option Elab.async false
set_option linter.all false
set_option maxRecDepth 100000
set_option maxHeartbeats 2000000
namespace TU
open PySem PySem.Spec PyProof.Rows L2 HotX
/-! ### the end of an iterator where an exception is handled -/
section
variable {prog : Program} {w : World} {A : Around} {E : Value → Shared → Prop} {s : Shared}
theorem ref_none (l : Addr) : ¬ ((Value.ref l == Value.none) = true) := fun z => Bool.false_ne_true z
/-- StopIteration is made and raised: what stood stands -/
theorem stop_hot {α : Type} {x1 : Addr} {Q : α → Shared → Prop} (hot : HotAt A x1 s.heap) (q : ∀ a h', (∀ b o, s.heap.get? b = some o → h'.get? b = some o) → ({ s with heap := h' } : Shared).TypeIs (.ref a) "StopIteration" → E (.ref a) { s with heap := h' }) :
    wpAny (model prog w) A (newExc (.type "StopIteration") [] >>= fun e => (raiseNew e : Sem α)) Q E s := by
  obtain ⟨hnd, ob, fs, there, dat, ctx⟩ := hot
  refine wpAny_bind ?_
  simp only [newExc, newTuple]
  refine wpAny_bind (wpAny_newObj_type ?_ (by size_fits))
  refine wpAny_bind (m := firstArgMember _ _) (wpAny_of_eq (a := .none) (by first | rfl | (simp only [firstArgMember] <;> rfl)) ?_)
  refine wpAny_newObj_type ?_ (by size_fits)
  have up : ∀ (o1 o2 : Obj) b o, s.heap.get? b = some o → ((s.heap.push o1).push o2).get? b = some o := fun o1 o2 b o e => get_push _ (get_push _ e)
  refine raiseNew_hot ⟨hnd, ob, fs, up _ _ _ _ there, dat, ctx⟩ (Nat.ne_of_lt (Heap.lt_size (get_push _ there))) (Heap.get?_push_size _ rfl) rfl (by first | (simp; done) | (simp; omega) | (simp only [Array.size_append]; simp; omega)) (q _ _ (fun b o e => ?_) ?_)
  · rw [Heap.get?_update_other _ _ (Nat.ne_of_gt (Heap.lt_size (get_push _ e)))]
    exact up _ _ _ _ e
  · exact ⟨_, Heap.get?_update_self _ (Heap.get?_push_size _ rfl) rfl, rfl⟩
theorem list_end_hot {it l x1 : Addr} {i : Nat} {xs : Array Value} {Q : Option Value → Shared → Prop} (hot : HotAt A x1 s.heap) (hne : x1 ≠ it) (hi : s.heap.IsListIter it l i) (hl : s.heap.IsList l xs) (hx : xs[i]? = none)
    (q : ∀ h', Heap.ExtBut it s.heap h' → Q none { s with heap := h' }) : wpAny (model prog w) A (pyNext (.ref it)) Q E s := by
  obtain ⟨oi, gi, ci, di⟩ := id hi
  obtain ⟨ol, gl, _, cap, dl⟩ := hl
  unfold pyNext
  refine wpAny_bind (wpAny_attempt (wpAny_callSpecial?_slot (name := Str.ofString "__next__") hi.typeIs slot_listiter_next (wpAny_call_entry slot_listiter_next hi.typeIs entry_listiter_next ?_ (args_listiter_next _))))
  show wpAny _ _ (field (.ref it) 0 >>= _) _ _ s
  refine wpAny_bind (wpAny_field gi di (x := .ref l) rfl ?_)
  show wpAny _ _ (if (Value.ref l == Value.none) = true then _ else _) _ _ s
  rw [if_neg (ref_none l)]
  show wpAny _ _ (field (.ref it) 1 >>= _) _ _ s
  refine wpAny_bind (wpAny_field gi di (x := .int i 0) rfl ?_)
  show wpAny _ _ (seqItems? (.ref l) >>= _) _ _ s
  refine wpAny_bind (wpAny_seqItems gl dl ?_)
  simp only [Int.toNat_natCast, hx]
  refine wpAny_bind (wpAny_rule (wpAny_bind (wpAny_setField gi di (by simp) ?_)))
  obtain ⟨hnd, ob, fs, there, dat, ctx⟩ := hot
  refine stop_hot ⟨hnd, ob, fs, (Heap.get?_update_other _ _ (Ne.symm hne)).trans there, dat, ctx⟩ fun a h' kp ty => ?_
  refine wpAny_bind (wpAny_isInstance (T := "StopIteration") (b := true) ty isSubtype_stop ?_)
  exact wpAny_pure (q _ fun b o hb e => kp b o ((Heap.get?_update_other _ _ (Ne.symm hb)).trans e))
theorem keys_end_hot {it d x1 : Addr} {i n ep : Nat} {od : Obj} {es : Array DictEntry} {Q : Option Value → Shared → Prop} (hot : HotAt A x1 s.heap) (hne : x1 ≠ it) (hi : s.heap.IsKeyIter it d i n ep) (gd : s.heap.get? d = some od) (dd : od.data = .dict es ep)
    (hsz : es.size = n) (hge : n ≤ i) (q : ∀ h', Heap.ExtBut it s.heap h' → Q none { s with heap := h' }) : wpAny (model prog w) A (pyNext (.ref it)) Q E s := by
  obtain ⟨oi, gi, ci, di⟩ := id hi
  unfold pyNext
  refine wpAny_bind (wpAny_attempt (wpAny_callSpecial?_slot (name := Str.ofString "__next__") hi.typeIs F.slot_dict_keyiterator_next (wpAny_call_entry F.slot_dict_keyiterator_next hi.typeIs F.entry_dict_keyiterator_next ?_ (F.args_dict_keyiterator_next_1 _))))
  refine wpAny_bind (wpAny_pure ?_)
  refine wpAny_bind ?_
  refine wpAny_bind ?_
  first | refine wpAny_bind (wpAny_typeNameOfWhole_keyiter hi.typeIs (wpAny_pure ?_)) | refine wpAny_bind (wpAny_typeNameOf_keyiter hi.typeIs (wpAny_pure ?_))
  refine wpAny_bind (wpAny_fieldsOf gi di ?_)
  have own : Builtin.Dict_items.ownsTuple "dict_keyiterator" = false := by decide
  simp only [own, Bool.false_eq_true, if_false]
  show wpAny _ _ (if (Value.ref d == Value.none) = true then _ else _) _ _ s
  rw [if_neg (ref_none d)]
  refine wpAny_bind (wpAny_pure ?_)
  refine wpAny_bind (wpAny_dictEntries gd dd ?_)
  rw [if_neg (by rw [hsz]; simp)]
  refine wpAny_bind (wpAny_pure ?_)
  refine wpAny_bind (wpAny_dictEpoch gd dd ?_)
  rw [if_neg (by simp)]
  refine wpAny_pure ?_
  have far : es.size ≤ i := by rw [hsz]; exact hge
  simp only [show ¬ ((i : Int) < 0) from by omega, if_false, Int.toNat_natCast, Array.getElem?_eq_none far]
  refine wpAny_bind ?_
  first | refine wpAny_bind (wpAny_typeNameOfWhole_keyiter hi.typeIs (wpAny_pure ?_)) | refine wpAny_bind (wpAny_typeNameOf_keyiter hi.typeIs (wpAny_pure ?_))
  show wpAny _ _ (setField (.ref it) 0 .none >>= _) _ _ s
  refine wpAny_bind (wpAny_setField gi di (by simp) ?_)
  obtain ⟨hnd, ob, fs, there, dat, ctx⟩ := hot
  refine stop_hot ⟨hnd, ob, fs, (Heap.get?_update_other _ _ (Ne.symm hne)).trans there, dat, ctx⟩ fun a h' kp ty => ?_
  refine wpAny_bind (wpAny_isInstance (T := "StopIteration") (b := true) ty isSubtype_stop ?_)
  exact wpAny_pure (q _ fun b o hb e => kp b o ((Heap.get?_update_other _ _ (Ne.symm hb)).trans e))
end
end TU

set_option Elab.async false
set_option linter.all false
set_option maxRecDepth 100000
set_option maxHeartbeats 2000000
namespace TU
open PySem PySem.Spec PyProof.Rows L2 HotX L2H
section
variable {prog : Program} {w : World} {A : Around} {E : Value → Shared → Prop} {s : Shared}
theorem tup_end_hot {it l x1 : Addr} {i : Nat} {xs : Array Value} {Q : Option Value → Shared → Prop} (hot : HotAt A x1 s.heap) (hne : x1 ≠ it) (hi : s.heap.IsTupleIter it l i) (hl : s.heap.IsTuple l xs) (hx : xs[i]? = none)
    (q : ∀ h', Heap.ExtBut it s.heap h' → Q none { s with heap := h' }) : wpAny (model prog w) A (pyNext (.ref it)) Q E s := by
  obtain ⟨oi, gi, ci, di⟩ := id hi
  obtain ⟨ol, gl, _, cap, dl⟩ := hl
  unfold pyNext
  refine wpAny_bind (wpAny_attempt (wpAny_callSpecial?_slot (name := Str.ofString "__next__") hi.typeIs F.slot_tuple_iterator_next (wpAny_call_entry F.slot_tuple_iterator_next hi.typeIs F.entry_tuple_iterator_next ?_ (F.args_tuple_iterator_next_1 _))))
  show wpAny _ _ (field (.ref it) 0 >>= _) _ _ s
  refine wpAny_bind (wpAny_field gi di (x := .ref l) rfl ?_)
  show wpAny _ _ (if (Value.ref l == Value.none) = true then _ else _) _ _ s
  rw [if_neg (ref_none l)]
  show wpAny _ _ (field (.ref it) 1 >>= _) _ _ s
  refine wpAny_bind (wpAny_field gi di (x := .int i 0) rfl ?_)
  show wpAny _ _ (seqItems? (.ref l) >>= _) _ _ s
  refine wpAny_bind (wpAny_seqItems gl dl ?_)
  simp only [Int.toNat_natCast, hx]
  refine wpAny_bind (wpAny_rule (wpAny_bind (wpAny_setField gi di (by simp) ?_)))
  obtain ⟨hnd, ob, fs, there, dat, ctx⟩ := hot
  refine stop_hot ⟨hnd, ob, fs, (Heap.get?_update_other _ _ (Ne.symm hne)).trans there, dat, ctx⟩ fun a h' kp ty => ?_
  refine wpAny_bind (wpAny_isInstance (T := "StopIteration") (b := true) ty isSubtype_stop ?_)
  exact wpAny_pure (q _ fun b o hb e => kp b o ((Heap.get?_update_other _ _ (Ne.symm hb)).trans e))
end
/-- the handled exception is none of the iterator's objects -/
theorem hot_at {X : Cx} {pins : List (Addr × Obj)} {σ : L2.St} {H : Hp} {s : Shared} {it : Addr} (c : HotC X) (I : Inv X pins σ H s) (f : FpOk X pins H it) : ∃ x1, HotAt X.A x1 s.heap ∧ x1 ≠ it := by
  obtain ⟨p, ⟨hh, v1, e1, c1⟩, hp⟩ := c
  exact ⟨p.1, ⟨hh, p.2, v1, (I.pin p (List.mem_append_left _ hp)).1, e1, c1⟩, f.2.2.2.2.2 p (List.mem_append_left _ hp)⟩
section
variable {P : Program} {w : World} {K : PySem.W.Frag} {tg : Expr}
theorem turnH_list (a it : Addr) : TurnH P w K tg (Itl K a) [it] it (fun i h => h.IsListIter it a i) where
  mem := (turn_list (P := P) (w := w) (K := K) (tg := tg) a it).mem
  obj := (turn_list (P := P) (w := w) (K := K) (tg := tg) a it).obj
  keep := (turn_list (P := P) (w := w) (K := K) (tg := tg) a it).keep
  self := (turn_list (P := P) (w := w) (K := K) (tg := tg) a it).self
  item := by
    intro X eP ew eK hc i pins s σ H E I fr st ⟨xs, x, sq, hx⟩
    subst eP ew eK
    obtain ⟨its, rv, p, _⟩ := I.list sq
    obtain ⟨u, hu, ru⟩ := rv.get hx
    have f := fr it (by simp)
    refine wpAny_pyNext_list_item st p.isList (x := u) (by simpa using hu) fun h1 st1 sb => ?_
    have I1 : Inv X pins σ H { s with heap := h1 } := I.turned (t' := s.toks) (fun b o ne e => (sb.2 b ne).trans e) f.1 f.2.1 f.2.2.2.1 f.2.2.2.2.1 f.2.2.2.2.2
    obtain ⟨o, e, c, d⟩ := id st1
    exact ⟨u, rfl, go_of (s := { s with heap := h1 }) e c d (by decide) ⟨x, H, I1, ru, ⟨rfl, fun ys hy => by rw [I.list_inj hy sq]; exact hx⟩, st1, fun b m => (fr b m).1⟩⟩
  done := by
    intro X eP ew eK hc i pins s σ H E I fr st ⟨xs, sq, hx⟩
    subst eP ew eK
    obtain ⟨its, rv, p, _⟩ := I.list sq
    have f := fr it (by simp)
    obtain ⟨x1, hot, ne⟩ := hot_at hc I f
    have l := rv.length
    exact list_end_hot hot ne st p.isList (by simp; omega) fun h1 eb => ⟨rfl, I.turned (t' := s.toks) (fun b o ne e => eb b o ne e) f.1 f.2.1 f.2.2.2.1 f.2.2.2.2.1 f.2.2.2.2.2⟩
theorem turnH_tup (a it : Addr) : TurnH P w K tg (Itt K a) [it] it (fun i h => h.IsTupleIter it a i) where
  mem := (turn_tuple (P := P) (w := w) (K := K) (tg := tg) a it).mem
  obj := (turn_tuple (P := P) (w := w) (K := K) (tg := tg) a it).obj
  keep := (turn_tuple (P := P) (w := w) (K := K) (tg := tg) a it).keep
  self := (turn_tuple (P := P) (w := w) (K := K) (tg := tg) a it).self
  item := by
    intro X eP ew eK hc i pins s σ H E I fr st ⟨xs, x, sq, hx⟩
    subst eP ew eK
    obtain ⟨its, rv, p, _⟩ := I.tuple sq
    obtain ⟨u, hu, ru⟩ := rv.get hx
    have f := fr it (by simp)
    have p1 : s.heap.IsTuple a its.toArray := p
    refine wpAny_pyNext_tuple_item st p1 (x := u) (by simpa using hu) fun h1 st1 sb => ?_
    have I1 : Inv X pins σ H { s with heap := h1 } := I.turned (t' := s.toks) (fun b o ne e => (sb.2 b ne).trans e) f.1 f.2.1 f.2.2.2.1 f.2.2.2.2.1 f.2.2.2.2.2
    obtain ⟨o, e, c, d⟩ := id st1
    exact ⟨u, rfl, go_of (s := { s with heap := h1 }) e c d (by decide) ⟨x, H, I1, ru, ⟨rfl, fun ys hy => by rw [I.tuple_inj hy sq]; exact hx⟩, st1, fun b m => (fr b m).1⟩⟩
  done := by
    intro X eP ew eK hc i pins s σ H E I fr st ⟨xs, sq, hx⟩
    subst eP ew eK
    obtain ⟨its, rv, p, _⟩ := I.tuple sq
    have f := fr it (by simp)
    obtain ⟨x1, hot, ne⟩ := hot_at hc I f
    have l := rv.length
    have p1 : s.heap.IsTuple a its.toArray := p
    exact tup_end_hot hot ne st p1 (by simp; omega) fun h1 eb => ⟨rfl, I.turned (t' := s.toks) (fun b o ne e => eb b o ne e) f.1 f.2.1 f.2.2.2.1 f.2.2.2.2.1 f.2.2.2.2.2⟩
variable {d : Addr} {o : Obj} {es : Array DictEntry} {ep : Nat}
theorem turnH_keys {kvs : List (Key × V)} (it : Addr) (hod : o.data = .dict es ep) : TurnH P w K tg (Itk d o kvs) [it] it (fun i h => h.IsKeyIter it d i kvs.length ep) where
  mem := (turn_keys (P := P) (w := w) (K := K) (tg := tg) (d := d) (kvs := kvs) it hod).mem
  obj := (turn_keys (P := P) (w := w) (K := K) (tg := tg) (d := d) (kvs := kvs) it hod).obj
  keep := (turn_keys (P := P) (w := w) (K := K) (tg := tg) (d := d) (kvs := kvs) it hod).keep
  self := (turn_keys (P := P) (w := w) (K := K) (tg := tg) (d := d) (kvs := kvs) it hod).self
  item := by
    intro X eP ew eK hc i pins s σ H E I fr st ⟨hd, hi⟩
    subst eP ew eK
    have f := fr it (by simp)
    obtain ⟨_, gd, _, es1, ep1, vs, hdt, hsz, kv, hm⟩ := I.frzK hd
    obtain ⟨rfl, rfl⟩ := dict_ep hod hdt
    obtain ⟨⟨k, v⟩, hkv⟩ : ∃ p, kvs[i]? = some p := ⟨_, List.getElem?_eq_getElem hi⟩
    obtain ⟨u, hu, ru⟩ := kv_get kv hkv
    have el : kvs.length = vs.length := Paired.length kv
    rw [el] at st
    refine wpAny_pyNext_dict_item st hm hu fun key h1 hkey st1 sb => ?_
    have I1 : Inv X pins σ H { s with heap := h1 } := I.turned (t' := s.toks) (fun b ob ne e => (sb.2 b ne).trans e) f.1 f.2.1 f.2.2.2.1 f.2.2.2.2.1 f.2.2.2.2.2
    obtain ⟨oi, e, c, dd⟩ := id st1
    refine ⟨key, rfl, go_of (s := { s with heap := h1 }) e c dd (by decide) ⟨kV k, H, I1, relV_key (show keyIs k key = true from hkey), ⟨rfl, k, v, hkv, rfl⟩, ?_, fun b m => (fr b m).1⟩⟩
    show h1.IsKeyIter it d (i + 1) kvs.length _
    rw [el]
    exact st1
  done := by
    intro X eP ew eK hc i pins s σ H E I fr st ⟨hd, hi⟩
    subst eP ew eK
    have f := fr it (by simp)
    obtain ⟨_, gd, _, es1, ep1, vs, hdt, hsz, kv, hm⟩ := I.frzK hd
    obtain ⟨rfl, rfl⟩ := dict_ep hod hdt
    obtain ⟨x1, hot, ne⟩ := hot_at hc I f
    exact keys_end_hot hot ne st gd hdt hsz hi fun h1 eb => ⟨rfl, I.turned (t' := s.toks) (fun b ob ne e => eb b ob ne e) f.1 f.2.1 f.2.2.2.1 f.2.2.2.2.1 f.2.2.2.2.2⟩
theorem turnH_keysT {kvs : List (List Key × V)} (it : Addr) (hod : o.data = .dict es ep) : TurnH P w K tg (Itkt d o kvs) [it] it (fun i h => h.IsKeyIter it d i kvs.length ep) where
  mem := (turn_keysT (P := P) (w := w) (K := K) (tg := tg) (d := d) (kvs := kvs) it hod).mem
  obj := (turn_keysT (P := P) (w := w) (K := K) (tg := tg) (d := d) (kvs := kvs) it hod).obj
  keep := (turn_keysT (P := P) (w := w) (K := K) (tg := tg) (d := d) (kvs := kvs) it hod).keep
  self := (turn_keysT (P := P) (w := w) (K := K) (tg := tg) (d := d) (kvs := kvs) it hod).self
  item := by
    intro X eP ew eK hc i pins s σ H E I fr st ⟨hd, hi⟩
    subst eP ew eK
    have f := fr it (by simp)
    obtain ⟨_, gd, _, es1, ep1, hdt, hsz, ent⟩ := I.frzT hd
    obtain ⟨rfl, rfl⟩ := dict_ep hod hdt
    obtain ⟨⟨k, v⟩, hkv⟩ : ∃ p, kvs[i]? = some p := ⟨_, List.getElem?_eq_getElem hi⟩
    obtain ⟨en, q, hen, hkey, hq⟩ := ent i k v hkv
    refine next_key_item st gd hdt hsz hen fun h1 st1 sb => ?_
    have I1 : Inv X pins σ H { s with heap := h1 } := I.turned (t' := s.toks) (fun b ob ne e => (sb.2 b ne).trans e) f.1 f.2.1 f.2.2.2.1 f.2.2.2.2.1 f.2.2.2.2.2
    obtain ⟨oi, e, c, dd⟩ := id st1
    exact ⟨en.key, rfl, go_of (s := { s with heap := h1 }) e c dd (by decide) ⟨.ref q, H, I1, hkey, ⟨rfl, k, v, q, hkv, rfl, hq⟩, st1, fun b m => (fr b m).1⟩⟩
  done := by
    intro X eP ew eK hc i pins s σ H E I fr st ⟨hd, hi⟩
    subst eP ew eK
    have f := fr it (by simp)
    obtain ⟨_, gd, _, es1, ep1, hdt, hsz, ent⟩ := I.frzT hd
    obtain ⟨rfl, rfl⟩ := dict_ep hod hdt
    obtain ⟨x1, hot, ne⟩ := hot_at hc I f
    exact keys_end_hot hot ne st gd hdt hsz hi fun h1 eb => ⟨rfl, I.turned (t' := s.toks) (fun b ob ne e => eb b ob ne e) f.1 f.2.1 f.2.2.2.1 f.2.2.2.2.1 f.2.2.2.2.2⟩
end
section
variable {X : Cx} {tg : Expr}
theorem pih_one {pins : List (Addr × Obj)} {σ : L2.St} {H : Hp} {s : Shared} {R : It → Hp → Prop} {J : It} {tn : Nat → Heap → Prop} (I : Inv X pins σ H s) (o : Obj) (T : TurnH X.prog X.w X.K tg J [s.heap.objs.size] s.heap.objs.size tn) (st : tn 0 (s.heap.push o)) (q : R J H) :
    PIEH X pins σ tg R (.ref s.heap.objs.size) { s with heap := s.heap.push o } :=
  ⟨s.heap.objs.size, [s.heap.objs.size], tn, J, H, rfl, I.kept (t' := s.toks) fun b ob e => get_push _ e, T, st, fun b m => by
    obtain rfl : b = s.heap.objs.size := by simpa using m
    exact I.fpOk (Nat.le_refl _) (I.hok.fresh (Nat.le_refl _)), q⟩
theorem pi_anyH {e : Expr} {te : TE} (he : PE X e te) : PIH X tg e (iAny X.K te) := by
  refine ⟨fun pins s σ H R I h => ?_⟩
  rcases h with h | h | h
  · refine thn (he.run pins s σ H _ I h) fun u s1 ⟨x, H1, I1, rx, a, ex, ⟨xs, sq⟩, q⟩ => ?_
    subst ex
    obtain rfl : u = Value.ref a := rx
    obtain ⟨its, rv, p, _⟩ := I1.list sq
    exact wpAny_pyIter_list p.isList (pih_one I1 _ (turnH_list a _) ⟨_, Heap.get?_push_size _ rfl, rfl, rfl⟩ q)
  · refine thn (he.run pins s σ H _ I h) fun u s1 ⟨x, H1, I1, rx, a, ex, ⟨xs, sq⟩, q⟩ => ?_
    subst ex
    obtain rfl : u = Value.ref a := rx
    obtain ⟨its, rv, p, _⟩ := I1.tuple sq
    have p1 : s1.heap.IsTuple a its.toArray := p
    exact wpAny_pyIter_tuple p1 (pih_one I1 _ (turnH_tup a _) ⟨_, Heap.get?_push_size _ rfl, rfl, rfl⟩ q)
  · refine thn (he.run pins s σ H _ I h) fun u s1 ⟨x, H1, I1, rx, d, o, ex, q⟩ => ?_
    subst ex
    obtain rfl : u = Value.ref d := rx
    rcases q with ⟨kvs, hd, q⟩ | ⟨kvs, hd, q⟩
    · obtain ⟨hs, gd, hx, es, ep, vs, hdt, hsz, kv, hm⟩ := I1.frzK hd
      refine iter_keys hs gd hx hdt (pih_one I1 _ (turnH_keys _ hdt) ⟨_, Heap.get?_push_size _ rfl, rfl, ?_⟩ q)
      rw [hsz] <;> rfl
    · obtain ⟨hs, gd, hx, es, ep, hdt, hsz, ent⟩ := I1.frzT hd
      refine iter_keys hs gd hx hdt (pih_one I1 _ (turnH_keysT _ hdt) ⟨_, Heap.get?_push_size _ rfl, rfl, ?_⟩ q)
      rw [hsz] <;> rfl
theorem k_walkH {K : PySem.W.Frag} {e : Expr} {te : TE} (h : X.K = K) (he : PE X e te) : PIH X tg e (iAny K te) := h ▸ pi_anyH he
end
end TU

set_option Elab.async false
set_option linter.all false
set_option maxRecDepth 100000
set_option maxHeartbeats 2000000
namespace TU
open PySem PySem.Spec PySem.Calls PyProof.Rows L2 HotX L2H
/-! ### a dict's keys collected while an exception is handled -/
/-- x1's object is handled, its context is None -/
structure HotO (A : Around) (x1 : Addr) (o1 : Obj) : Prop where
  hd : A.handled = some (.ref x1)
  cx : ∃ vs : Array Value, o1.data = .fields vs ∧ vs[2]? = some .none
section
variable {prog : Program} {w : World} {A : Around} {E : Value → Shared → Prop} {s : Shared} {x1 d : Addr} {o1 : Obj} {kvs : List (Key × Value)} {knd : KeyKind prog w Key} {ep : Nat}
theorem HotO.at (c : HotO A x1 o1) {h : Heap} (g : h.get? x1 = some o1) : HotAt A x1 h := by
  obtain ⟨hd, vs, e1, e2⟩ := c
  exact ⟨hd, o1, vs, g, e1, e2⟩
theorem HotO.in1 (c : HotO A x1 o1) : HotO A.in1 x1 o1 := ⟨c.hd, c.cx⟩
def KeyAt (knd : KeyKind prog w Key) (kvs : List (Key × Value)) (i : Nat) (v : Value) : Prop := ∃ k x, kvs[i]? = some (k, x) ∧ knd.is k v = true
theorem walks_keysH (c : HotO A x1 o1) (I : Addr) (hd : d ≠ I) (hx : x1 ≠ I) : Walks prog w A I [I, d, x1] [I] kvs.length (KeyAt knd kvs) (fun i h => h.IsKeyIter I d i kvs.length ep ∧ h.DictAt knd d kvs ep ∧ h.get? x1 = some o1) where
  sub := fun b m => by
    obtain rfl : b = I := by simpa using m
    simp
  frame := fun i h h1 st kp => ⟨st.1.at fun o e => kp I (by simp) o e, st.2.1.at' fun o e => kp d (by simp) o e, kp x1 (by simp) _ st.2.2⟩
  item := fun i s Q E lt st q => by
    obtain ⟨⟨k, x⟩, hk⟩ : ∃ p, kvs[i]? = some p := ⟨_, List.getElem?_eq_getElem lt⟩
    refine wpAny_pyNext_dict_item st.1 st.2.1 hk fun key h1 is st1 sb => ?_
    exact q key h1 s.toks ⟨k, x, hk, is⟩ ⟨st1, st.2.1.extBut sb.extBut hd, sb.extBut x1 _ hx st.2.2⟩ fun b o nb e => sb.extBut b o (fun z => nb (by simp [z])) e
  done := fun s Q E st q => by
    obtain ⟨od, es, gd, _, dd, _, pr, _⟩ := id st.2.1
    have sz : es.size = kvs.length := by
      have e := pr.length
      rwa [Array.length_toList] at e
    exact keys_end_hot (c.at st.2.2) hx st.1 gd dd sz (Nat.le_refl _) fun h1 eb => q h1 s.toks fun b o nb e => eb b o (fun z => nb (by simp [z])) e
  self := fun _ _ _ _ st q => wpAny_pyIter_keyiter st.1 q
/-- list.extend of an empty list by the dict's keys -/
theorem extend_keysH {R : Result → Shared → Prop} (c : HotO A x1 o1) (hs : (d == sysModules) = false) (hd : s.heap.DictAt knd d kvs ep) (g1 : s.heap.get? x1 = some o1) (S : Addr) (nd : S ≠ d) (n1 : S ≠ x1) (res : Value) (c0 : Nat) (gS : s.heap.get? S = some { cls := .type "list", data := .seq #[] c0 })
    (q : ∀ h1 tk acc c1, (∀ b o, b ≠ S → s.heap.get? b = some o → h1.get? b = some o) → h1.get? S = some { cls := .type "list", dict := none, data := .seq acc c1, slots := #[] } → ItemsOf (KeyAt knd kvs) acc kvs.length → R (.ok (.ret res)) { s with heap := h1, toks := tk }) (few : kvs.length ≤ sizeLine) :
    wpAny (model prog w) A.in1 (Builtin.List.listExtendWith (.ref S) (.ref d) res) (fun fin z => match fin with | .done f => R (.ok f) z | .again c' => c'.quiet = true ∧ codeAny (model prog w) A c' R z) (fun e z => R (.error e) z) s := by
  have hT := hd.dictOf.typeIs
  have lS := Heap.lt_size gS
  have W := walks_keysH (prog := prog) (w := w) (knd := knd) (kvs := kvs) (ep := ep) (d := d) c.in1 s.heap.objs.size (Nat.ne_of_lt hd.lt_size) (Nat.ne_of_lt (Heap.lt_size g1))
  have off : S ∉ [s.heap.objs.size, d, x1] := by
    simp only [List.mem_cons, List.not_mem_nil, or_false, not_or]
    exact ⟨Nat.ne_of_lt lS, nd, n1⟩
  have go : ∀ (h : Heap) (c2 tk : Nat), (h.IsKeyIter s.heap.objs.size d 0 kvs.length ep ∧ h.DictAt knd d kvs ep ∧ h.get? x1 = some o1) → (∀ b o, b ≠ S → s.heap.get? b = some o → h.get? b = some o) →
      h.get? S = some { cls := .type "list", data := .seq #[] c2 } → codeAny (model prog w) A (.builtin "list.extend.loop" ⟨[.ref S, .ref s.heap.objs.size, res], []⟩) R { s with heap := h, toks := tk } := by
    intro h c2 tk st kp gS2
    refine codeAny_extend_loopS W.toS few S off res kvs.length 0 _ #[] c2 rfl (Nat.zero_le _) st gS2 (ItemsOf.nil _) fun z acc c1 mv gz it => ?_
    rw [Moved.eq_with mv]
    refine q z.heap z.toks acc c1 (fun b o nb e => mv.heap b o (fun m => ?_) (kp b o nb e)) gz it
    rcases List.mem_cons.mp m with z1 | m
    · exact nb z1
    · obtain rfl := List.mem_singleton.mp m
      exact Nat.lt_irrefl _ (Heap.lt_size e)
  unfold Builtin.List.listExtendWith
  refine wpAny_bind (wpAny_typeOf (T := "dict") hT ?_)
  have ns : Builtin.List.listSameRef (.ref S) (.ref d) = false := by simp [Builtin.List.listSameRef, nd]
  have t1 : (Value.type "dict" == Value.type "list") = false := by decide
  have t2 : (Value.type "dict" == Value.type "tuple") = false := by decide
  simp only [ns, t1, t2, Bool.or_false, Bool.false_eq_true, if_false]
  refine wpAny_bind (wpAny_pyIter_dict hs hd ?_)
  have kp1 : ∀ (o : Obj) b u, s.heap.get? b = some u → (s.heap.push o).get? b = some u := fun o b u e => get_push _ e
  refine wpAny_bind (wpAny_holding (PySem.W.kdl_hint_dict (hd.push _).dictOf.typeIs ?_))
  have st0 : ∀ h : Heap, h.get? s.heap.objs.size = some { cls := .type "dict_keyiterator", data := .fields #[.ref d, rawInt 0, rawInt kvs.length, rawInt ep] } → (∀ b o, b ≠ S → s.heap.get? b = some o → h.get? b = some o) → h.IsKeyIter s.heap.objs.size d 0 kvs.length ep ∧ h.DictAt knd d kvs ep ∧ h.get? x1 = some o1 :=
    fun h e kp => ⟨⟨_, e, rfl, rfl⟩, hd.at' fun o e => kp d o nd.symm e, kp x1 o1 n1.symm g1⟩
  refine wpAny_ite_split (fun _ => ?_) (fun _ => wpAny_pure ⟨plainId_quiet PySem.F.plain_extend_loop _, go _ c0 _ (st0 _ (Heap.get?_push_size _ rfl) fun b o _ e => kp1 _ b o e) (fun b o _ e => kp1 _ b o e) (kp1 _ _ _ gS)⟩)
  refine wpAny_bind (wpAny_rule ?_)
  refine wpAny_bind ?_
  show wpAny _ _ (updateSeq S (·.push .none) >>= fun _ => updateSeq S (·.pop)) _ _ _
  refine wpAny_bind (wpAny_updateSeq (kp1 _ _ _ gS) rfl ?_)
  have gS2 := Heap.get?_update_self (Obj.mapSeq (·.push Value.none)) (kp1 { cls := .type "dict_keyiterator", data := .fields #[.ref d, rawInt 0, rawInt kvs.length, rawInt ep] } _ _ gS) rfl
  refine wpAny_updateSeq (hz := by seq_fits) gS2 rfl ?_
  have gS3 := Heap.get?_update_self (Obj.mapSeq (·.pop)) gS2 rfl
  have oth : ∀ b o, b ≠ S → (s.heap.push { cls := .type "dict_keyiterator", data := .fields #[.ref d, rawInt 0, rawInt kvs.length, rawInt ep] }).get? b = some o → (((s.heap.push { cls := .type "dict_keyiterator", data := .fields #[.ref d, rawInt 0, rawInt kvs.length, rawInt ep] }).update S (Obj.mapSeq (·.push Value.none))).update S (Obj.mapSeq (·.pop))).get? b = some o := fun b o nb e => (Heap.get?_update_other _ _ (Ne.symm nb)).trans ((Heap.get?_update_other _ _ (Ne.symm nb)).trans e)
  refine wpAny_pure ⟨plainId_quiet PySem.F.plain_extend_loop _, go _ _ _ ?_ ?_ gS3⟩
  · exact st0 _ (oth _ _ (Nat.ne_of_gt lS) (Heap.get?_push_size _ rfl)) fun b o nb e => oth b o nb (kp1 _ b o e)
  · exact fun b o nb e => oth b o nb (kp1 _ b o e)
end
end TU

set_option Elab.async false
set_option linter.all false
set_option maxRecDepth 100000
set_option maxHeartbeats 2000000
namespace TU
open PySem PySem.Spec PySem.Calls PyProof.Rows L2 HotX L2H
section
variable {prog : Program} {w : World} {A : Around} {E : Value → Shared → Prop} {s : Shared} {x1 d : Addr} {o1 : Obj} {kvs : List (Key × Value)} {knd : KeyKind prog w Key} {ep : Nat}
/-- list(d) -/
theorem list_keysH {Q : Value → Shared → Prop} (c : HotO A x1 o1) (hs : (d == sysModules) = false) (hd : s.heap.DictAt knd d kvs ep) (g1 : s.heap.get? x1 = some o1) (few : kvs.length ≤ sizeLine)
    (q : ∀ h1 tk acc c1, (∀ b o, s.heap.get? b = some o → h1.get? b = some o) → h1.get? s.heap.objs.size = some { cls := .type "list", dict := none, data := .seq acc c1, slots := #[] } → ItemsOf (KeyAt knd kvs) acc kvs.length → Q (.ref s.heap.objs.size) { s with heap := h1, toks := tk }) :
    wpAny (model prog w) A (call (.type "list") [.ref d]) Q E s := by
  refine callType_codes (Q₁ := fun ob z => ob = .ref s.heap.objs.size ∧ z = { s with heap := s.heap.push { cls := .type "list", data := .seq #[] } }) PySem.F.called_list (PySem.F.typeCall_list_1 _) PySem.F.entry_list_init (code_list_new _ ⟨rfl, rfl⟩) fun ob z hz => ?_
  obtain ⟨rfl, rfl⟩ := hz
  obtain ⟨S, eS⟩ : ∃ S, S = s.heap.objs.size := ⟨_, rfl⟩
  have gS : (s.heap.push { cls := .type "list", data := .seq #[] }).get? s.heap.objs.size = some { cls := .type "list", data := .seq #[] } := Heap.get?_push_size _ rfl
  have nd : s.heap.objs.size ≠ d := Nat.ne_of_gt hd.lt_size
  have n1 : s.heap.objs.size ≠ x1 := Nat.ne_of_gt (Heap.lt_size g1)
  refine ⟨⟨_, gS, rfl⟩, PySem.F.args_list_init_2 _ _, ?_⟩
  show wpAny _ _ (do let old ← Builtin.List.listItems (.ref s.heap.objs.size); Builtin.List.listUpdate (.ref s.heap.objs.size) (fun _ => #[]); letGo old.toList.reverse; Builtin.List.listExtendWith (.ref s.heap.objs.size) (.ref d) .none) _ _ _
  refine wpAny_bind ?_
  unfold Builtin.List.listItems
  refine wpAny_bind (wpAny_seqItems gS rfl (wpAny_pure ?_))
  show wpAny _ _ (updateSeq s.heap.objs.size (fun _ => #[]) >>= fun _ => letGo (#[] : Array Value).toList.reverse >>= fun _ => Builtin.List.listExtendWith (.ref s.heap.objs.size) (.ref d) .none) _ _ _
  refine wpAny_bind (wpAny_updateSeq gS rfl ?_)
  have gS2 := Heap.get?_update_self (Obj.mapSeq (fun _ => (#[] : Array Value))) gS rfl
  have oth : ∀ b o, b ≠ s.heap.objs.size → s.heap.get? b = some o → ((s.heap.push { cls := .type "list", data := .seq #[] }).update s.heap.objs.size (Obj.mapSeq (fun _ => (#[] : Array Value)))).get? b = some o := fun b o nb e => (Heap.get?_update_other _ _ (Ne.symm nb)).trans (get_push _ e)
  refine wpAny_bind (wpAny_letGo ?_)
  refine extend_keysH (A := A.in1) c.in1 hs (hd.at' fun o e => oth d o nd.symm e) (oth x1 _ n1.symm g1) _ nd n1 .none _ gS2 (fun h1 tk acc c1 kp g it => ?_) few
  exact ⟨rfl, q h1 tk acc c1 (fun b o e => kp b o (Nat.ne_of_lt (Heap.lt_size e)) (oth b o (Nat.ne_of_lt (Heap.lt_size e)) e)) g it⟩
/-- the keys, gathered for sorted -/
theorem gather_keysH {R : List Value → Shared → Prop} (c : HotO A x1 o1) (hs : (d == sysModules) = false) (hd : s.heap.DictAt knd d kvs ep) (g1 : s.heap.get? x1 = some o1) (few : kvs.length ≤ sizeLine)
    (q : ∀ (h1 : Heap) (tk : Nat) (acc : Array Value), (∀ b o, s.heap.get? b = some o → h1.get? b = some o) → ItemsOf (KeyAt knd kvs) acc kvs.length → R acc.toList { s with heap := h1, toks := tk }) : wpAny (model prog w) A (collect (.ref d)) R E s := by
  have nd : s.heap.objs.size ≠ d := Nat.ne_of_gt hd.lt_size
  have n1 : s.heap.objs.size ≠ x1 := Nat.ne_of_gt (Heap.lt_size g1)
  unfold collect
  refine wpAny_bind (wpAny_runValue (codeAny_builtin entry_proto_collect' ?_))
  rw [Around.under_plainId PySem.F.plain_proto_collect _]
  show wpAny _ A.in1 (newList [] >>= fun l => again (.builtin "list.__iadd__" ⟨[l, .ref d], []⟩)) _ _ s
  refine wpAny_bind (wpAny_newObj_type ?_)
  refine wpAny_pure ⟨plainId_quiet PySem.F.plain_list_iadd _, codeAny_builtin entry_list_iadd' ?_⟩
  rw [Around.under_plainId PySem.F.plain_list_iadd _]
  have gS : (s.heap.push { cls := .type "list", data := .seq ([] : List Value).toArray }).get? s.heap.objs.size = some { cls := .type "list", data := .seq #[] } := Heap.get?_push_size _ rfl
  show wpAny _ A.in1 (Builtin.List.listExtendWith (.ref s.heap.objs.size) (.ref d) (.ref s.heap.objs.size)) _ _ _
  have run := extend_keysH (A := A) (s := { s with heap := s.heap.push { cls := .type "list", data := .seq ([] : List Value).toArray } }) (d := d) (kvs := kvs) (knd := knd) (ep := ep)
    (R := fun (r : Result) (z : Shared) => ∃ (h1 : Heap) (tk : Nat) (acc : Array Value) (c1 : Nat), r = .ok (.ret (.ref s.heap.objs.size)) ∧ z = { s with heap := h1, toks := tk } ∧ (∀ b o, s.heap.get? b = some o → h1.get? b = some o) ∧ h1.get? s.heap.objs.size = some { cls := .type "list", dict := none, data := .seq acc c1, slots := #[] } ∧ ItemsOf (KeyAt knd kvs) acc kvs.length)
    c hs (hd.push _) (get_push _ g1) s.heap.objs.size nd n1 (.ref s.heap.objs.size) 0 gS (fun h1 tk acc c1 kp g it => ⟨h1, tk, acc, c1, rfl, rfl, fun b o e => kp b o (Nat.ne_of_lt (Heap.lt_size e)) (get_push _ e), g, it⟩) few
  refine wpAny_mono run (fun fin z x => ?_) fun e z x => ?_
  · cases fin with
    | done f =>
      obtain ⟨h1, tk, acc, c1, e, rfl, kp, g, it⟩ := x
      cases e
      show wpAny _ A (load s.heap.objs.size >>= _) _ _ _
      exact wpAny_bind (wpAny_load g (wpAny_pure (q h1 tk acc kp it)))
    | again cc =>
      refine ⟨x.1, codeAny_mono x.2 fun r z2 y => ?_⟩
      obtain ⟨h1, tk, acc, c1, rfl, rfl, kp, g, it⟩ := y
      show wpAny _ A (load s.heap.objs.size >>= _) _ _ _
      exact wpAny_bind (wpAny_load g (wpAny_pure (q h1 tk acc kp it)))
  · obtain ⟨_, _, _, _, bad, _⟩ := x
    cases bad
end
theorem hot_o {X : Cx} {pins : List (Addr × Obj)} {σ : L2.St} {H : Hp} {s : Shared} (c : HotC X) (I : Inv X pins σ H s) : ∃ x1 o1, HotO X.A x1 o1 ∧ s.heap.get? x1 = some o1 := by
  obtain ⟨p, ⟨hh, v1, e1, c1⟩, hp⟩ := c
  exact ⟨p.1, p.2, ⟨hh, v1, e1, c1⟩, (I.pin p (List.mem_append_left _ hp)).1⟩
section
variable {X : Cx}
theorem call_listDH (c : HotC X) : CallR X (.type "list") (fun xs H Q => ∃ (a : Addr) (kvs : List (Key × V)), xs = [.ref a] ∧ Rd H a (.dK kvs) ∧ ∀ p, H p = none → Q (.ref p) (upd H p (.lst (kvs.map fun kv => kV kv.1)))) := by
  intro pins s σ H xs us Q I r ⟨a, kvs, ex, rd, q⟩
  subst ex
  obtain ⟨u, eu, rx⟩ := vals1 r
  subst eu
  obtain rfl : u = Value.ref a := rx
  obtain ⟨z, lo, vs, rel, dd⟩ := dk_rd I.hok rd
  obtain ⟨ep, hat⟩ := dd.dictAt
  obtain ⟨x1, o1, ho, g1⟩ := hot_o c I
  have same : (kvs.map fun kv => kV kv.1) = vs.map fun p => kV p.1 := by
    have e := congrArg (List.map kV) rel.keys
    rwa [List.map_map, List.map_map] at e
  refine list_keysH ho lo hat g1 (by rw [← rel.length]; exact z) fun h1 tk acc c1 kp g it => ?_
  have rv : Vals (vs.map fun p => kV p.1) acc.toList := keys_at (by rw [Array.length_toList]; exact it.1) fun j v e => it.2 j v (by rw [← Array.getElem?_toList]; exact e)
  have ok : ∀ H1 : Hp, ObjOk X.prog X.w H1 h1 s.heap.objs.size (.lst (kvs.map fun kv => kV kv.1)) := fun H1 => ⟨by rw [List.length_map]; exact z, acc.toList, c1, by rw [same]; exact rv, by rw [Array.toArray_toList]; exact g⟩
  exact ⟨.ref s.heap.objs.size, _, I.laid (t' := tk) kp (Nat.le_refl _) (ok _), rfl, q _ (I.hok.fresh (Nat.le_refl _))⟩
theorem call_sortedDH (c : HotC X) : CallR X (.builtin "sorted") (fun xs H Q => ∃ (a : Addr) (kvs : List (Key × V)) (ks : List Str), xs = [.ref a] ∧ Rd H a (.dK kvs) ∧ kvs.map (·.1) = ks.map Sum.inr ∧ ks.length < 64 ∧
    ∀ ys p, ys.Perm ks → sortedS ys = true → H p = none → Q (.ref p) (upd H p (.lst (ys.map V.str)))) := by
  intro pins s σ H xs us Q I r ⟨a, kvs, ks, ex, rd, hks, few, q⟩
  subst ex
  obtain ⟨u, eu, rx⟩ := vals1 r
  subst eu
  obtain rfl : u = Value.ref a := rx
  obtain ⟨z, lo, vs, rel, dd⟩ := dk_rd I.hok rd
  obtain ⟨ep, hat⟩ := dd.dictAt
  obtain ⟨x1, o1, ho, g1⟩ := hot_o c I
  have texts : vs.map (·.1) = ks.map Sum.inr := rel.keys.symm.trans hks
  have el : vs.length = ks.length := by
    have e := congrArg List.length texts
    rwa [List.length_map, List.length_map] at e
  refine Calls.call_function_entry PyProof.Rows.kind_sorted PyProof.Rows.plain_sorted PyProof.Rows.entry_sorted (PyProof.Rows.args_sorted1 _) ?_
  unfold Builtin.«sorted»
  refine wpAny_bind (m := checkCount "sorted" 1 1 _) (wpAny_pure ?_)
  refine wpAny_bind (gather_keysH (A := X.A.in1) ho.in1 lo hat g1 (by rw [el, sizeLine_eq]; omega) fun h1 tk acc kp it => ?_)
  have al : acc.toList.length = ks.length := by rw [Array.length_toList, it.1, el]
  have tx : StrsAre acc.toList ks := strs_at al fun j v e => by
    obtain ⟨k, x, e1, e2⟩ := it.2 j v (by rw [← Array.getElem?_toList]; exact e)
    have e3 : (vs.map (·.1))[j]? = some k := by rw [List.getElem?_map, e1]; all_goals rfl
    rw [texts, List.getElem?_map] at e3
    cases e4 : ks[j]? with
    | none => rw [e4] at e3; cases e3
    | some y =>
      rw [e4] at e3
      obtain rfl : Sum.inr y = k := Option.some.inj e3
      obtain ⟨t, ev⟩ := Value.isStrOf_shape (x := y) (v := v) e2
      exact ⟨y, t, rfl, ev⟩
  have I1 : Inv X pins σ H { s with heap := h1, toks := tk } := I.kept kp
  refine wpAny_bind (wpAny_newList ?_ (by rw [al, sizeLine_eq]; omega))
  have gL : (h1.push (seqObj "list" acc.toList.toArray 0)).get? h1.objs.size = some (seqObj "list" acc.toList.toArray 0) := Heap.get?_push_size _ rfl
  show wpAny _ _ _ _ _ { s with heap := h1.push (seqObj "list" acc.toList.toArray 0), toks := tk }
  refine wpAny_bind (wpAny_holding (wpAny_call_entry PyProof.Rows.slot_list_sort ⟨_, gL, rfl⟩ PyProof.Rows.entry_list_sort
    (list_sort_treeK strKind_oneLt (s := { s with heap := h1.push (seqObj "list" acc.toList.toArray 0), toks := tk }) gL tx.keysOf (fun v₁ v₂ rest e => keyKind_strs (by rw [← e]; exact tx)) (by rw [al]; exact few) fun st pm so => ⟨_, rfl, ?_⟩) (PyProof.Rows.args_list_sort _)))
  obtain ⟨ys, y1, y2, y3⟩ := sorted_out_str tx pm so
  obtain ⟨e5, h5⟩ := PyProof.Rows.sortedHeap_at (vs := acc.toList) (out := (arrOf st).map (·.2)) gL
  have short : (ys.map V.str).length ≤ sizeLine := by
    rw [List.length_map, y2.length_eq, sizeLine_eq]
    omega
  refine wpAny_pure ⟨_, rfl, .ref h1.objs.size, upd H h1.objs.size (.lst (ys.map V.str)), I1.laid (t' := tk) (fun b u e => ?_) (Nat.le_refl _)
    (show ObjOk X.prog X.w _ _ _ (.lst (ys.map V.str)) from ⟨short, ((arrOf st).map (·.2)).toList, e5, vals_of_strs y1, by rw [Array.toArray_toList]; exact h5⟩), rfl, q ys _ y2 y3 (I1.hok.fresh (Nat.le_refl _))⟩
  have lb : b < h1.objs.size := Heap.lt_size e
  rw [PyProof.Rows.sortedHeap_old (Nat.ne_of_lt lb) (by rw [size_push']; exact Nat.lt_succ_of_lt lb)]
  exact get_push _ e
variable {K : PySem.W.Frag}
theorem k_listH (h : X.K = K) (c : HotC X) : CallR X (.type "list") (rListU K) := h ▸ call_list_of.or (call_listDH c)
theorem k_sortH (h : X.K = K) (c : HotC X) : CallR X (.builtin "sorted") (rSortU K) := h ▸ (call_sortedDH c).or (cr_sortedS.or cr_sortedI)
end
end TU

set_option Elab.async false
set_option linter.all false
set_option maxRecDepth 100000
set_option maxHeartbeats 2000000
namespace TU
open PySem PySem.Spec PyProof.Rows L2 HotX L2H
/-! ### a dict comprehension while an exception is handled -/
/-- a block's context that still holds the handled exception -/
abbrev blkH (X : Cx) (s : Shared) (H : Hp) (scope : Scope) (ce : Env) (fp : List Addr) : Cx := { X with s_0 := s, H_0 := H, env := ce, outer := X.stack, ex := fp, fn := fun x => scope.names.lookup x == some .cell, xe := fun _ _ => False }
section
variable {X : Cx} {pins : List (Addr × Obj)} {σ : L2.St} {H : Hp} {s : Shared}
theorem blkH_start {scope : Scope} {own : List (PySem.Str × Nat)} {fp : List Addr} (I : Inv X pins σ H s) (ok : BlkOk X.N X.env.scope scope own) (hN : X.N.Nodup) (hfp : ∀ b ∈ fp, FpOk X pins H b ∧ b < s.heap.objs.size) :
    Inv (blkH X s H scope (compEnvC scope (cellsFrom (s.heap.objs.size + 1) scope.names (cloFrom X.env.cells scope.names [])) s.heap.objs.size X.env) fp) [] (wipe σ (own.map (·.2))) H { s with heap := pushCells (s.heap.push { cls := .type "dict", data := .dict #[] }) scope.names } := by
  have J := block_start I ok hN hfp
  have o := J.ok
  refine ⟨⟨o.mod, o.kind, o.glob, o.blt, o.above, o.inj, o.has, o.cab, o.hd, o.frames, o.stk, o.exf, o.bs, o.bsz, o.noex, o.exfs, o.funs, o.frf⟩, J.os, J.bare, J.base, J.loc, J.cell, J.free, J.freeC, fun p hp => ?_, J.hok, J.len⟩
  have mp : p ∈ X.pn := by simpa using hp
  obtain ⟨g, n, l, f, c⟩ := I.pin p (List.mem_append_left _ mp)
  have lt := Heap.lt_size g
  refine ⟨pushCells_keeps _ _ _ _ (get_push _ g), n, fun z => ?_, fun m => ?_, c⟩
  · have z : p.1 = s.heap.objs.size := z
    rw [z] at lt
    exact Nat.lt_irrefl _ lt
  · exact (List.mem_cons.mp (I.stkSub _ (show p.1 ∈ frs X.stack from m))).elim l f
end
section
variable {X : Cx} {kx vx tg iter : Expr} {ifs : List Expr} {scope : Scope} {own : List (PySem.Str × Nat)} {pos : Pos} {wi : TI} {g : TG} {tt : TT} {tk tv : TE}
theorem pe_dcH (c : HotC X) (hN : X.N.Nodup) (hi : PIH X tg iter wi) (ok : BlkOk X.N X.env.scope scope own)
    (hg : ∀ (s : Shared) (H : Hp) (C : Addr) (cl : List (PySem.Str × Addr)) (fp : List Addr), PG (blkH X s H scope (compEnvC scope cl C X.env) fp) tg g) (ht : ∀ (s : Shared) (H : Hp) (C : Addr) (cl : List (PySem.Str × Addr)) (fp : List Addr), PTs (blkH X s H scope (compEnvC scope cl C X.env) fp) ifs tt)
    (hk : ∀ (s : Shared) (H : Hp) (C : Addr) (cl : List (PySem.Str × Addr)) (fp : List Addr), PE (blkH X s H scope (compEnvC scope cl C X.env) fp) kx tk) (hv : ∀ (s : Shared) (H : Hp) (C : Addr) (cl : List (PySem.Str × Addr)) (fp : List Addr), PE (blkH X s H scope (compEnvC scope cl C X.env) fp) vx tv)
    (hsx : ∀ x, foldedSetIterable iter X.env x = pure x := by intro _; rfl) : PE X (.DictComp kx vx [⟨tg, iter, ifs, 0⟩] scope pos) (tDc wi g tt tk tv (own.map (·.2))) := by
  refine ⟨fun pins s σ H Q I h => ?_⟩
  rw [arm_eval_DictComp]
  have free : ∀ y ∈ scope.names, y.2 = .free → ∃ c, X.env.cells.lookup y.1 = some c := fun y m e => (ok.free y m e).elim (fun k => I.ok.has _ (.inl k)) fun k => I.ok.has _ (.inr k)
  refine comp_val rfl hsx (closure_ok free) ok.kind (fun y m e => by rw [ok.uniq y m, e]) (thn (hi.run pins s σ H _ I h) fun xv z1 hx => thn hx fun itv z2 h2 => ?_)
  obtain ⟨it, fp, tn, J, H2, rfl, I2, T, t2, k2, q⟩ := h2
  refine wpAny_newObj_type (newEnv_comp ?_)
  obtain ⟨D, hD⟩ : ∃ D, D = z2.heap.objs.size := ⟨_, rfl⟩
  have hn : H2 D = none := I2.hok.fresh (Nat.le_of_eq hD.symm)
  obtain ⟨Wi, ⟨m0, w0⟩, turn⟩ := q D hn
  have old2 : ∀ b o, z2.heap.get? b = some o → (z2.heap.push { cls := .type "dict", data := .dict #[] }).get? b = some o := fun b o e => get_push _ e
  have I3 : Inv X pins σ (upd H2 D (.dK [])) { z2 with heap := z2.heap.push { cls := .type "dict", data := .dict #[] } } := by
    rw [hD]
    exact I2.laid (t' := z2.toks) old2 (Nat.le_refl _) (dk_empty z2.heap I2.big)
  obtain ⟨z3, hz3⟩ : ∃ z3 : Shared, z3 = { z2 with heap := z2.heap.push { cls := .type "dict", data := .dict #[] } } := ⟨_, rfl⟩
  rw [← hz3] at I3
  have e3 : z3.heap = z2.heap.push { cls := .type "dict", data := .dict #[] } := by rw [hz3]
  have k3 : ∀ b ∈ fp, FpOk X pins (upd H2 D (.dK [])) b ∧ b < z3.heap.objs.size := fun b m => by
    obtain ⟨o, eo, _⟩ := T.obj _ _ t2 b m
    have lt := Heap.lt_size eo
    refine ⟨⟨?_, (k2 b m).2⟩, by rw [e3, Heap.size_push]; exact Nat.lt_succ_of_lt lt⟩
    rw [upd_ne (by rw [hD]; exact Nat.ne_of_lt lt)]
    exact (k2 b m).1
  have t3 : tn 0 z3.heap := T.keep _ _ _ t2 fun b _ o e => by rw [e3]; exact old2 b o e
  have I4 := blkH_start I3 ok hN k3
  obtain ⟨ce, hce⟩ : ∃ ce, ce = compEnvC scope (cellsFrom (z3.heap.objs.size + 1) scope.names (cloFrom X.env.cells scope.names [])) z3.heap.objs.size X.env := ⟨_, rfl⟩
  have pg := hg z3 (upd H2 D (.dK [])) z3.heap.objs.size (cellsFrom (z3.heap.objs.size + 1) scope.names (cloFrom X.env.cells scope.names [])) fp
  have pt := ht z3 (upd H2 D (.dK [])) z3.heap.objs.size (cellsFrom (z3.heap.objs.size + 1) scope.names (cloFrom X.env.cells scope.names [])) fp
  have pk := hk z3 (upd H2 D (.dK [])) z3.heap.objs.size (cellsFrom (z3.heap.objs.size + 1) scope.names (cloFrom X.env.cells scope.names [])) fp
  have pv := hv z3 (upd H2 D (.dK [])) z3.heap.objs.size (cellsFrom (z3.heap.objs.size + 1) scope.names (cloFrom X.env.cells scope.names [])) fp
  show codeAny _ _ (.compStart (.DictComp kx vx [⟨tg, iter, ifs, 0⟩] scope pos) 0 (.ref it) (.ref z2.heap.objs.size) _) _ { ({ z2 with heap := z2.heap.push { cls := .type "dict", data := .dict #[] } } : Shared) with heap := pushCells ((z2.heap.push { cls := .type "dict", data := .dict #[] }).push { cls := .type "dict", data := .dict #[] }) scope.names }
  rw [← hD]
  have ez : ({ ({ z2 with heap := z2.heap.push { cls := .type "dict", data := .dict #[] } } : Shared) with heap := pushCells ((z2.heap.push { cls := .type "dict", data := .dict #[] }).push { cls := .type "dict", data := .dict #[] }) scope.names } : Shared) = { z3 with heap := pushCells (z3.heap.push { cls := .type "dict", data := .dict #[] }) scope.names } := by rw [hz3]
  have ecc : (compEnvC scope (cellsFrom ((z2.heap.push { cls := .type "dict", data := .dict #[] }).objs.size + 1) scope.names (cloFrom X.env.cells scope.names [])) (z2.heap.push { cls := .type "dict", data := .dict #[] }).objs.size X.env) = ce := by rw [hce, e3]
  rw [ez]
  show codeAny _ _ (.compStart (.DictComp kx vx [⟨tg, iter, ifs, 0⟩] scope pos) 0 (.ref it) (.ref D) (compEnvC scope (cellsFrom ((z2.heap.push { cls := .type "dict", data := .dict #[] }).objs.size + 1) scope.names (cloFrom X.env.cells scope.names [])) (z2.heap.push { cls := .type "dict", data := .dict #[] }).objs.size X.env)) (cPost (model X.prog X.w) X.A X.xe (EP X pins σ Q) (.ref D) (compEnvC scope (cellsFrom ((z2.heap.push { cls := .type "dict", data := .dict #[] }).objs.size + 1) scope.names (cloFrom X.env.cells scope.names [])) (z2.heap.push { cls := .type "dict", data := .dict #[] }).objs.size X.env)) _
  rw [ecc]
  rw [← hce] at I4 pg pt pk pv
  have eL : ce.locals = z3.heap.objs.size := by rw [hce]; rfl
  have no3 : ∀ b ∈ fp, (upd H2 D (.dK [])) b = none := fun b m => (k3 b m).1.1
  generalize upd H2 D (.dK []) = H3 at I3 I4 pg pt pk pv w0 no3 k3
  obtain ⟨z4, hz4⟩ : ∃ z4 : Shared, z4 = { z3 with heap := pushCells (z3.heap.push { cls := .type "dict", data := .dict #[] }) scope.names } := ⟨_, rfl⟩
  rw [← hz4] at I4 ⊢
  have t4 : tn 0 z4.heap := T.keep _ _ _ t3 fun b _ o e => by rw [hz4]; exact pushCells_keeps _ _ _ _ (get_push _ e)
  have cB : HotC (blkH X z3 H3 scope ce fp) := c
  have stat : ∀ {σ' : L2.St} {H' : Hp} {z : Shared}, Inv (blkH X z3 H3 scope ce fp) [] σ' H' z → (∀ b ∈ fp, H' b = none) → ∀ b ∈ fp, FpOk (blkH X z3 H3 scope ce fp) [] H' b := fun {σ' H' z} J n b m =>
    ⟨n b m, (J.ok.exf b m).1, J.ok.exfs b m, .inl m, fun x c e => (J.ok.exf b m).2 x c e, fun p hp => (k3 b m).1.2.2.2.2.2 p (List.mem_append_left _ (by simpa using (show p ∈ X.pn ++ ([] : List (Addr × Obj)) from hp)))⟩
  have loop : codeAny (model X.prog X.w) X.A (.compLoop (.DictComp kx vx [⟨tg, iter, ifs, 0⟩] scope pos) 0 (.ref it) (.ref D) ce) (cPost (model X.prog X.w) X.A X.xe (EP X pins σ Q) (.ref D) ce) z4 := by
    refine compLoop_anyD (fun n z => ∃ i H', Inv (blkH X z3 H3 scope ce fp) [] (wipe σ (own.map (·.2))) H' z ∧ tn i z.heap ∧ (∀ b ∈ fp, H' b = none) ∧ Wi i n H') ?_ m0 ⟨0, H3, I4, t4, no3, w0⟩
    rintro n z5 ⟨i, H5, I5, t5, n5, w5⟩
    rcases turn i n H5 w5 with ⟨stop, qq⟩ | ⟨go, Nx, hNx, step⟩
    · refine thnF (T.done (blkH X z3 H3 scope ce fp) rfl rfl rfl cB i [] z5 _ H5 (fun _ _ => False) I5 (stat I5 n5) t5 stop) fun r z6 ⟨hr, I6⟩ => ?_
      rw [hr]
      have home : Inv X pins σ H5 z6 := I3.call' (ch := fp) I6.os I6.base I6.hok I6.bare fun b m => ⟨(k3 b m).1.2.2.2.1, (k3 b m).1.2.1, (k3 b m).1.2.2.2.2.1, (k3 b m).1.2.2.2.2.2⟩
      obtain ⟨f0, f1, f2, f3, f4, f5⟩ : FpOk X pins H5 ce.locals := by rw [eL]; exact I3.fpOk (Nat.le_refl _) (by rw [← eL]; exact I6.free)
      obtain ⟨m, hm, _⟩ := I6.loc
      exact ⟨m, hm, fun h' sb => ⟨.ref D, H5, home.turned (t' := z6.toks) (fun b o ne e => (sb.2 b ne).trans e) f0 f1 f3 f4 f5, rfl, qq⟩⟩
    · refine thnF (T.item (blkH X z3 H3 scope ce fp) rfl rfl rfl cB i [] z5 _ H5 (fun _ _ => False) I5 (stat I5 n5) t5 go) fun r z6 ⟨u, hr, h6⟩ => ?_
      rw [hr]
      refine thnF h6 fun _ z7 ⟨x, H7, I7, r7, y7, t7, n7⟩ => ?_
      have P7 := I7.pinned (stat I7 n7) (T.obj _ _ t7)
      refine thnF (pg.run _ z7 _ H7 x u _ P7 r7 (step x H7 y7)) fun _ z8 ⟨σ8, H8, I8, w8, q8⟩ => ?_
      refine thnF (pt.run _ z8 σ8 H8 _ I8 q8) fun b z9 ⟨H9, I9, q9⟩ => ?_
      have next : ∀ {z : Shared} {H' : Hp}, Inv (blkH X z3 H3 scope ce fp) ([] ++ pinsAt fp z7.heap) σ8 H' z → Nx H' → ∃ m, m < n ∧ ∃ i H', Inv (blkH X z3 H3 scope ce fp) [] (wipe σ (own.map (·.2))) H' z ∧ tn i z.heap ∧ (∀ b ∈ fp, H' b = none) ∧ Wi i m H' := fun {z H'} J nx => by
        obtain ⟨m', lt, wm⟩ := hNx H' nx
        have pin : ∀ b ∈ fp, ∀ o, z7.heap.get? b = some o → z.heap.get? b = some o ∧ H' b = none := fun b m o e => ⟨(J.pin (b, o) (List.mem_append_right _ (List.mem_append_right _ (mem_pinsAt m e)))).1, (J.pin (b, o) (List.mem_append_right _ (List.mem_append_right _ (mem_pinsAt m e)))).2.1⟩
        refine ⟨m', lt, i + 1, H', (J.unpinned (pins := [])).weak (by rw [← w8, wipe_length]) (fun j v e => (wipe_some (by rw [w8]; exact e)).1), T.keep _ _ _ t7 fun b m o e => (pin b m o e).1, fun b m => ?_, wm⟩
        obtain ⟨o, e, _⟩ := T.obj _ _ t7 b m
        exact (pin b m o e).2
      cases b with
      | false => exact next I9 q9
      | true =>
        refine thnF (pk.run _ z9 σ8 H9 _ I9 q9) fun u1 z10 ⟨y1, H10, I10, r10, q10⟩ => ?_
        refine thnF (pv.run _ z10 σ8 H10 _ I10 q10) fun u2 z11 ⟨y2, H11, I11, r11, kvs, k, ek, g11, few, nx⟩ => ?_
        subst ek
        exact d_dictSet (X := blkH X z3 H3 scope ce fp) I11 g11 few r10 r11 fun z12 I12 => next I12 nx
  exact codeAny_compStart_dict loop (T.self X.A 0 _ _ _ t4 loop)
end
end TU

set_option Elab.async false
set_option linter.all false
set_option maxRecDepth 100000
namespace TU
open PySem PySem.Spec PyProof.Rows L2
/-! ### own errors without fields -/
structure X0 (K : PySem.W.Frag) (mg : Str → Option Value) (x : Str) (C : Addr) : Prop where
  q : ∃ (B newId initId : String) (bmB : List Value), ExcBaseFacts B newId initId bmB ∧ PySem.W.excIn K C bmB newId = true
  ex : PySem.W.subIn K (.ref C) (.type "BaseException") = some true
  ty : PySem.W.typeIn K (.ref C) = some (.type "type")
  kp : PySem.W.keepIn K (.ref C) = true
  g : mg x = some (.ref C)
  te : PySem.W.exmOne K (.ref C) (.ref C) = some true
section
variable {X : Cx} {C : Addr} {x : Str} {p pos : Pos}
/-- x() is made, to be raised -/
theorem pmk_x0 (T : X0 X.K X.mg x C) (hg : Gl X x := by rfl) (hdb : (x == ("__debug__" : Str)) = false := by decide) : PMk X (.Call (.Name x p) [] [] pos) (fun _ H Q => Q (.ref C) none H) := by
  intro pins s σ H Q I h
  obtain ⟨B, newId, initId, bmB, F, q⟩ := T.q
  refine wpAny_Call_Name_kw (ld_glob I hg T.g ?_ hdb)
  refine PySem.W.callWith_K0 I.kIn T.kp ?_
  show wpAny _ _ (call (.ref C) []) _ _ _
  obtain ⟨bm, N, nm, qn, bs, hdct, sn, sub, ab, col, dd, k0, k1, k2, k3, k5, mN, hC, hN, hni, tl⟩ := exc_obj I.kIn q
  exact wpAny_call_exc_subT F tl hC hN hni (fun h' e hm => mk_of I hm (raises_own T.ex T.ty) h (I.hok.gone hm.new)) (by size_fits)
def tRz0 (C : Addr) (W : WX) : TS := fun _ σ H => W (.ref C) none σ H
theorem ps_rz0 {W : WX} {pos2 : Pos} (hc : X.calm = true) (T : X0 X.K X.mg x C) (tk : Takes X W) (hg : Gl X x := by rfl) (hdb : (x == ("__debug__" : Str)) = false := by decide) : PS X (.Raise (some (.Call (.Name x p) [] [] pos)) none pos2) (tRz0 C W) := ps_raise hc tk (pmk_x0 T hg hdb)
end
theorem x0_mk {K : PySem.W.Frag} {h : Heap} {mg : Str → Option Value} {x : Str} {C : Addr} {B newId initId : String} {bmB : List Value} (X : K.In h) (G : h.Ns mainGlobals mg) (aC : PySem.W.nsIn K mainGlobals x = some (some (.ref C))) (F : ExcBaseFacts B newId initId bmB)
    (q : PySem.W.excIn K C bmB newId = true) (eC : PySem.W.subIn K (.ref C) (.type "BaseException") = some true) (tC : PySem.W.typeIn K (.ref C) = some (.type "type")) (kC : PySem.W.keepIn K (.ref C) = true) (iC : PySem.W.isClsIn K C = true)
    (sC : PySem.W.subIn K (.ref C) (.ref C) = some true) : X0 K mg x C :=
  ⟨⟨B, newId, initId, bmB, F, q⟩, eC, tC, kC, PySem.W.mg_of X G aC, exm_me eC iC tC sC⟩
end TU

set_option Elab.async false
set_option linter.all false
set_option maxRecDepth 100000
namespace TU
open PySem PySem.Spec PyProof.Rows L2 L2H
/-! ### defs called while an exception is handled -/
structure DfH (P : Program) (w : World) (K : PySem.W.Frag) (mg : Str → Option Value) (base : Heap) (x : Str) (ps : List Str) (k : Nat) (sp : Sp) : Prop where
  ex : ∃ f fd, FnH P w K mg base (L2.CX P w) k f fd ps sp ∧ mg x = some (.ref f) ∧ PySem.W.keepIn K (.ref f) = true ∧ Binds K fd ps []
structure DmH (P : Program) (w : World) (K : PySem.W.Frag) (mg : Str → Option Value) (base : Heap) (C : Addr) (m : Str) (ps : List Str) (k : Nat) (sp : Sp) : Prop where
  ex : ∃ f fd, FnH P w K mg base (L2.CX P w) k f fd ps sp ∧ Meth K C m f ∧ Binds K fd ps []
section
variable {P : Program} {w : World} {K : PySem.W.Frag} {mg : Str → Option Value} {base : Heap}
theorem okH {x qual : Str} {st : Stmt} {f : Addr} {fd : FuncData} {N ps : List Str} {k : Nat} {sp : Sp} (F : Fun K x qual st f fd) (S : FnScope N ps (defScope st)) (len : ∀ vs H Q E, sp vs H Q E → vs.length = ps.length)
    (hbody : ∀ (cdv : Value) (A : Around) (outer : List Env) (s : Shared) (H : Hp) (vs : List V) (Q : VK) (E : XK) (p : Addr × Obj), Hot1 A p → RoomH k (A.deeper (envOfC qual (defScope st) s.heap.objs.size f cdv)) → sp vs H Q E →
      ∃ t, PSs (cxH (L2.CX P w) P w K mg base N qual (defScope st) f cdv A outer s H E p) (defBody st) t ∧ t { nx := fun _ H' => Q .non H', rt := Q } (L2.start N vs) H) : FnH P w K mg base (L2.CX P w) (k + 1) f fd ps sp := by
  obtain ⟨oc, od, kV, doc, pm, an, cdv, ct, osl, rfl, lk, hcd⟩ := F.ex
  exact fn_ofH lk hcd S len fun A outer s H vs Q E p hot hr h => hbody cdv A outer s H vs Q E p hot hr h
theorem TopF.dfH {x : Str} {st : Stmt} {N ps : List Str} {k : Nat} {sp : Sp} (F : TopF K mg x st ps) (S : FnScope N ps (defScope st)) (len : ∀ vs H Q E, sp vs H Q E → vs.length = ps.length)
    (hbody : ∀ (f : Addr) (cdv : Value) (A : Around) (outer : List Env) (s : Shared) (H : Hp) (vs : List V) (Q : VK) (E : XK) (p : Addr × Obj), RoomH k (A.deeper (envOfC x (defScope st) s.heap.objs.size f cdv)) → HotC (cxH (L2.CX P w) P w K mg base N x (defScope st) f cdv A outer s H E p) → sp vs H Q E →
      ∃ t, PSs (cxH (L2.CX P w) P w K mg base N x (defScope st) f cdv A outer s H E p) (defBody st) t ∧ t { nx := fun _ H' => Q .non H', rt := Q } (L2.start N vs) H) : DfH P w K mg base x ps (k + 1) sp := by
  obtain ⟨f, fd, F0, hm, hb⟩ := F.ex
  exact ⟨f, fd, okH F0 S len fun cdv A outer s H vs Q E p hot hr h => hbody f cdv A outer s H vs Q E p hr ⟨p, hot, List.mem_cons_self⟩ h, hm, F0.kp, hb⟩
theorem TopM.dmH {C : Addr} {m qual : Str} {st : Stmt} {N ps : List Str} {k : Nat} {sp : Sp} (F : TopM K C m qual st ps) (S : FnScope N ps (defScope st)) (len : ∀ vs H Q E, sp vs H Q E → vs.length = ps.length)
    (hbody : ∀ (f : Addr) (cdv : Value) (A : Around) (outer : List Env) (s : Shared) (H : Hp) (vs : List V) (Q : VK) (E : XK) (p : Addr × Obj), RoomH k (A.deeper (envOfC qual (defScope st) s.heap.objs.size f cdv)) → HotC (cxH (L2.CX P w) P w K mg base N qual (defScope st) f cdv A outer s H E p) → sp vs H Q E →
      ∃ t, PSs (cxH (L2.CX P w) P w K mg base N qual (defScope st) f cdv A outer s H E p) (defBody st) t ∧ t { nx := fun _ H' => Q .non H', rt := Q } (L2.start N vs) H) : DmH P w K mg base C m ps (k + 1) sp := by
  obtain ⟨f, fd, F0, hm, hb⟩ := F.ex
  exact ⟨f, fd, okH F0 S len fun cdv A outer s H vs Q E p hot hr h => hbody f cdv A outer s H vs Q E p hr ⟨p, hot, List.mem_cons_self⟩ h, hm, hb⟩
end
theorem _root_.L2H.RoomH.units {k : Nat} {A : Around} (r : RoomH k A) : A.units + 64 < cLine := by have := r.un; omega
theorem roomS {k : Nat} {A : Around} (v : Option Value) (r : Room k A) : RoomH k (A.mark v) := ⟨r.dp, r.un⟩
/-- an except suite holds its exception -/
theorem suiteHot {X : Cx} {a : Addr} {oe : Obj} {cls : Value} {d : Option Addr} {pn : List (Addr × Obj)} (z : L2N.Zn cls d oe) (f : ∃ vs, oe.data = .fields vs) : HotC (X.suite a ((a, oe) :: pn)) := by
  obtain ⟨vs, e⟩ := f
  exact ⟨(a, oe), ⟨rfl, vs, e, z.2.2 vs e⟩, List.mem_cons_self⟩
section
variable {X : Cx} {C : Addr} {m x : Str} {k : Nat} {ps fs : List Str} {sp : Sp} {o e : Expr} {es : List Expr} {ta : TE} {t : TA} {pos apos p : Pos} {E : L2.St → XK}
theorem pe_dfH (F : DfH X.prog X.w X.K X.mg X.base x ps k sp) (hr : RoomH k X.A) (hc : HotC X) (ha : PA X (e :: es) t) (hg : Gl X x := by rfl) (hdb : (x == ("__debug__" : Str)) = false := by decide)
    (he : starEach (e :: es) X.env = (false, eval e X.env) :: starEach es X.env := by rfl) (hpl : (backTo pos (starEach es X.env)).any (·.1) = false := by rfl) : PE X (.Call (.Name x p) (e :: es) [] pos) (tCallS sp (fun _ => E0) t) := by
  obtain ⟨f, fd, F0, hm, hk, hb⟩ := F.ex
  exact pe_callH F0 hr hc hg hm hk hb (fun _ _ s s' e' H' I h => passL _ _ _ _ _ _ I h) ha hdb he hpl
theorem pe_dmH {pl : Sem Bool} (he : PE X o ta) (c : Kl X.K X.mg x C fs) (F : DmH X.prog X.w X.K X.mg X.base C m ps k sp) (hr : RoomH k X.A) (hc : HotC X) (ha : PA X (e :: es) t)
    (hst : starEach (e :: es) X.env = (false, eval e X.env) :: starEach es X.env := by rfl) (hpl : (backTo pos (starEach es X.env)).any (·.1) = false := by rfl)
    (ht : eval (.Call (.Attribute o m apos) (e :: es) [] pos) X.env = (do
      let ov ← eval o X.env
      standAt apos.atName
      let (f, first) ← holding [ov] (getMethod ov m pl)
      callWith pos f first (backTo pos (starEach (e :: es) X.env)) (backToKw pos (keywordEach [] X.env))) := by rfl) : PE X (.Call (.Attribute o m apos) (e :: es) [] pos) (tMethX C m sp (fun _ => E0) ta t) := by
  obtain ⟨f, fd, F0, hm, hb⟩ := F.ex
  exact pe_methH (pl := pl) he c.cl hm F0 hr hc hb (fun _ _ s s' e' H' I h => passL _ _ _ _ _ _ I h) ha hst hpl ht
theorem pe_dmH0 {pl : Sem Bool} (he : PE X o ta) (c : Kl X.K X.mg x C fs) (F : DmH X.prog X.w X.K X.mg X.base C m ps k sp) (hr : RoomH k X.A) (hc : HotC X)
    (ht : eval (.Call (.Attribute o m apos) [] [] pos) X.env = (do
      let ov ← eval o X.env
      standAt apos.atName
      let (f, first) ← holding [ov] (getMethod ov m pl)
      callWith pos f first (backTo pos (starEach [] X.env)) (backToKw pos (keywordEach [] X.env))) := by rfl) : PE X (.Call (.Attribute o m apos) [] [] pos) (tMethX C m sp (fun _ => E0) ta tNil) := by
  obtain ⟨f, fd, F0, hm, hb⟩ := F.ex
  refine ⟨fun pins s σ H Q I h => PySem.W.methodCall_KW (pl := pl) (thn (he.run pins s σ H _ I h) fun u s1 ⟨x, H1, I1, rx, a, dx, fs, ex, ea, l, q⟩ => ?_) ht⟩
  subst ex
  cases (show u = Value.ref a from rx)
  exact getmeth_ok I1 ea c.cl hm l (PySem.W.callWith_K0 (first := [.ref a]) I1.kIn hm.kp (run_fnH (us := [.ref a]) (vs := [.ref a]) (E := fun _ => E0) F0 hr hc hb (fun _ s s' e' H' I h => passL _ _ _ _ _ _ I h) I1 (.cons rfl .nil) q))
theorem pe_dmN {pl : Sem Bool} (he : PE X o ta) (c : Kl X.K X.mg x C fs) (F : DmN X.prog X.w X.K X.mg X.base C m ps k sp) (hr : Room k X.A) (hx : ∀ σ, PassesAt (L2N.CX X.prog X.w) X σ (E σ)) (ha : PA X (e :: es) t)
    (hst : starEach (e :: es) X.env = (false, eval e X.env) :: starEach es X.env := by rfl) (hpl : (backTo pos (starEach es X.env)).any (·.1) = false := by rfl)
    (ht : eval (.Call (.Attribute o m apos) (e :: es) [] pos) X.env = (do
      let ov ← eval o X.env
      standAt apos.atName
      let (f, first) ← holding [ov] (getMethod ov m pl)
      callWith pos f first (backTo pos (starEach (e :: es) X.env)) (backToKw pos (keywordEach [] X.env))) := by rfl) : PE X (.Call (.Attribute o m apos) (e :: es) [] pos) (tMethX C m sp E ta t) := by
  obtain ⟨f, fd, F0, hm, hb⟩ := F.ex
  refine ⟨fun pins s σ H Q I h => PySem.W.methodCall_KW (pl := pl) (thn (he.run pins s σ H _ I h) fun u s1 ⟨x, H1, I1, rx, a, dx, fs, ex, ea, l, q⟩ => ?_) ht⟩
  subst ex
  cases (show u = Value.ref a from rx)
  refine getmeth_ok I1 ea c.cl hm l (PySem.W.callWith_K (first := [.ref a]) (h₀ := X.base) I.ok.mod.kin hm.kp (thn (ha.run pos pins s1 σ H1 _ I1 q) fun us s2 ⟨vs, H2, I2, r, q2⟩ => ⟨I2.kIn, ?_⟩) hst hpl)
  exact run_fnS (us := .ref a :: us) (vs := .ref a :: vs) F0 hr hb (hx σ) I2 (.cons rfl r) q2
end
end TU

set_option Elab.async false
set_option linter.all false
set_option maxRecDepth 100000
namespace TU
open PySem PySem.Spec PyProof.Rows L2 L2H
theorem sky_imp {B h : Heap} {l : List Env} {a L : Addr} {Z Z' : Obj → Prop} (z : ∀ o, Z o → Z' o) (x : Sky B l a Z L h) : Sky B l a Z' L h := by
  rcases x with ⟨x1, x2, x3, oe, vs, x4, x5, x6⟩ | x | x
  · exact .inl ⟨x1, x2, x3, oe, vs, x4, z _ x5, x6⟩
  · obtain ⟨y1, y2, y3, y4⟩ := x
    exact .inr (.inl ⟨y1, y2, y3, tracedZ_imp z y4⟩)
  · obtain ⟨y1, y2, y3, y4⟩ := x
    exact .inr (.inr ⟨y1, y2, y3, tracedZ_imp z y4⟩)
/-- what takes any error takes one whose context is None -/
theorem takes_N {X : Cx} {W : WX} (tk : Takes X W) : L2N.Takes X W := fun u s' ⟨a, B, sI, pins, σ, H, cls, d, e, I, nb, up, sky, r⟩ => tk u s' ⟨a, B, sI, pins, σ, H, cls, d, e, I, nb, up, sky_imp (fun o z => z.zc) sky, r⟩
theorem pe_never {X : Cx} {e : Expr} : PE X e (fun _ _ _ => False) := ⟨fun _ _ _ _ _ _ h => h.elim⟩
end TU

set_option Elab.async false
set_option linter.all false
set_option maxRecDepth 100000
set_option maxHeartbeats 1000000

namespace K78
open PySem PySem.Spec PyProof.Rows L2 L2H TU
local macro_rules | `(tactic| walk_at "g1") => `(tactic| first
  | with_reducible refine q_seq ?_
  | with_reducible refine q_asg ?_
  | with_reducible refine q_drop ?_
  | with_reducible refine q_ret ?_
  | with_reducible refine q_if ?_
  | with_reducible refine q_gname ?_
  | with_reducible refine q_gsub ?_
  | ((with_reducible refine' q_var ?hv ?_); (case hv => rfl))
  | with_reducible refine q_c ?_
  | with_reducible refine q_op ?_
  | with_reducible refine q_test ?_
  | with_reducible refine q_tr ?_
  | with_reducible refine q_trB ?_
  | with_reducible refine q_bl ?_
  | with_reducible refine q_not ?_
  | with_reducible refine q_and ?_
  | with_reducible refine q_or ?_
  | with_reducible refine q_cons ?_
  | with_reducible refine q_nil ?_
  | with_reducible refine q_I0 ?_
  | with_reducible refine q_addI ?_
  | with_reducible refine q_eqS ?_
  | with_reducible refine q_eqI ?_
  | with_reducible refine q_neS ?_
  | with_reducible refine q_neI ?_
  | with_reducible refine q_eqB ?_
  | with_reducible refine q_t ?_
  | with_reducible refine q_f ?_
  | with_reducible refine q_nf ?_
  | with_reducible refine q_nt ?_
  | with_reducible refine q_is ?_
  | with_reducible refine q_isn ?_
  | with_reducible refine q_nis ?_
  | with_reducible refine q_nisn ?_
  | with_reducible refine q_callS ?_
  | with_reducible refine q_cb ?_
  | with_reducible refine q_tup ?_
  | with_reducible refine q_lst ?_
  | with_reducible refine q_bm ?_
  | with_reducible refine q_rz ?_
  | with_reducible refine q_next ?_
  | with_reducible refine q_retN ?_
  | with_reducible refine q_ifE ?_
  | with_reducible refine q_un ?_
  | with_reducible refine q_U ?_
  | with_reducible refine q_for ?_
  | with_reducible refine q_sl ?_
  | with_reducible refine q_part ?_
  | with_reducible refine q_nopart ?_
  | with_reducible refine q_int ?_
  | with_reducible refine q_andV ?_
  | with_reducible refine q_orV ?_
  | with_reducible refine q_notV ?_
  | with_reducible refine q_dc ?_
  | with_reducible refine q_lc ?_
  | with_reducible refine q_yes ?_
  | with_reducible refine q_dnew ?_
  | with_reducible refine q_methX ?_
  | with_reducible refine q_fld ?_
  | with_reducible refine q_sfld ?_
  | with_reducible refine q_chain ?_
  | with_reducible refine q_lcX ?_
  | with_reducible refine q_scP ?_
  | with_reducible refine q_dnewT ?_
  | with_reducible refine q_cont ?_
  | with_reducible refine q_rng1 ?_
  | with_reducible refine q_bm0 ?_
  | with_reducible refine q_make ?_
  | with_reducible refine q_rng2 ?_
  | with_reducible refine q_rng3 ?_
  | ((with_reducible refine q_size ?hz ?_); (case hz => (simp only [List.length_cons, List.length_nil]; decide))))
local macro_rules | `(tactic| walk_at "g") => `(tactic| repeat walk_at "g1")

local macro_rules | `(tactic| walk_at "sm") => `(tactic| first | assumption | exact same_new (by assumption) | exact Same.refl')
local macro_rules | `(tactic| walk_at "lf") => `(tactic| first
  | assumption
  | exact upd_same
  | exact sq_new
  | exact st_new
  | ((refine Sm.sqT ?hs ?hr); (case hs => (first | assumption | exact same_new (by assumption))); (case hr => walk_at "lf"))
  | ((refine Sm.sqL ?hs ?hr); (case hs => (first | assumption | exact same_new (by assumption))); (case hr => walk_at "lf"))
  | ((refine Sm.rd ?hs ?hr); (case hs => (first | assumption | exact same_new (by assumption))); (case hr => walk_at "lf"))
  | ((refine T.mono ?hs ?hr); (case hs => (first | assumption | exact same_new (by assumption))); (case hr => walk_at "lf"))
  | ((refine Ts.mono ?hs ?hr); (case hs => (first | assumption | exact same_new (by assumption))); (case hr => walk_at "lf"))
  | ((refine Tk.mono ?hs ?hr); (case hs => (first | assumption | exact same_new (by assumption))); (case hr => walk_at "lf"))
  | ((refine Own.mono ?hr ?hs); (case hs => (first | assumption | exact same_new (by assumption))); (case hr => walk_at "lf"))
  | ((refine Sm.at ?hs ?hr); (case hs => (first | assumption | exact same_new (by assumption))); (case hr => walk_at "lf")))
local macro_rules | `(tactic| walk_at "ix") => `(tactic| ((with_reducible refine' q_ixT ?h1 ?h2 ?_); (case h1 => walk_at "lf"); (case h2 => rfl)))

def topS (i : Nat) : Stmt := PySem.Challenge.pw_trundleyard_k78_history.main.body.getD i (.Pass ⟨0, 0, 0, 0⟩)
abbrev s_Unknown___init : Stmt := inClass (topS 3) 0
abbrev s_TooMany___init : Stmt := inClass (topS 4) 0
abbrev s_Stale___init : Stmt := inClass (topS 5) 0
abbrev s_History___init : Stmt := inClass (topS 18) 0
abbrev s_History_check_version : Stmt := inClass (topS 18) 1
abbrev s_History_commit : Stmt := inClass (topS 18) 2
abbrev s_History_undo : Stmt := inClass (topS 18) 3
abbrev s_History_redo : Stmt := inClass (topS 18) 4
abbrev s_History_current : Stmt := inClass (topS 18) 5
abbrev s_History_count : Stmt := inClass (topS 18) 6
abbrev s_History_house_at : Stmt := inClass (topS 18) 7
abbrev s_History_label_at : Stmt := inClass (topS 18) 8
abbrev s_History_edits_at : Stmt := inClass (topS 18) 9
abbrev s_History_standing : Stmt := inClass (topS 18) 10
abbrev s_History_way_of : Stmt := inClass (topS 18) 11
abbrev s_History_log : Stmt := inClass (topS 18) 12
abbrev s_copy_house : Stmt := topS 9
abbrev s_check_key : Stmt := topS 10
abbrev s_check_edit : Stmt := topS 11
abbrev s_change_tables : Stmt := topS 12
abbrev s_apply_edits : Stmt := topS 13
abbrev s_inverse : Stmt := topS 14
abbrev s_inverse_of : Stmt := topS 15
abbrev s_law_jar : Stmt := topS 20
abbrev s_law_draw : Stmt := topS 21
abbrev s_law_entry : Stmt := topS 22
abbrev s_law_house : Stmt := topS 23
abbrev s_law_edits : Stmt := topS 24
abbrev s_law_copy : Stmt := topS 25
abbrev s_law_after : Stmt := topS 26
abbrev s_law_same : Stmt := topS 27
abbrev s_law_stale : Stmt := topS 28
abbrev s_law_looks_right : Stmt := topS 29
abbrev s_law_step : Stmt := topS 30
abbrev s_law_bound_right : Stmt := topS 31
abbrev s_law : Stmt := topS 32
section
variable {P : Program} {w : World} {K : PySem.W.Frag} {mg : Str → Option Value} {base : Heap} {C_Unknown C_Misfit C_Stale C_TooMany C_History C_NothingToUndo C_NothingToRedo : Addr}
/-- check_key(house, key) -/
def spCK (C : Addr) : Sp := fun vs H Q E => ∃ (a : Addr) (kvs : List (Key × V)) (k : Str), vs = [.ref a, .str k] ∧ Rd H a (.dK kvs) ∧
  ((valV kvs (.inr k)).isSome = true → Q .non H) ∧ ((valV kvs (.inr k)).isSome = false → XUnk C "table" k H E)
theorem sc_check_key : FnScope ["house", "key"] ["house", "key"] (defScope s_check_key) := ⟨rfl, rfl, rfl, by decide +kernel, rfl, by decide +kernel, by decide +kernel⟩
theorem dn_check_key (B : Bt mg) (F : TopF K mg "check_key" s_check_key ["house", "key"]) (X_Unknown : Xc P w K mg base "Unknown" ["what", "name"] C_Unknown) : DfN P w K mg base "check_key" ["house", "key"] 3 (spCK C_Unknown) := by
  refine F.dfN sc_check_key (fun vs H Q E h => ?len) (fun f cdv A outer s H vs Q E hr h => ?body)
  case body =>
   have hu := hr.units
   refine ⟨_, (pss_one (ps_if (pt_cmpR (k_nin (K := K) rfl hu) (pv 1) (pv 0) (by rfl))
      (pss_one (ps_rzN rfl X_Unknown.n (hr.mono (by decide)) (L2N.takes_of rfl rfl rfl rfl) (pa_cons pe_str (pa_cons (pv 1) pa_nil))))
      pss_nil)), ?_⟩
   obtain ⟨a, kvs, k, rfl, hd, h1, h2⟩ := h
   walk_at "g"
   refine q_ninD (.inr k) hd ?_
   walk_at "g"
   cases e : (valV kvs (Sum.inr k)).isSome with
   | true =>
     refine q_f ?_
     walk_at "g"
     exact h1 e
   | false =>
     refine q_t ?_
     walk_at "g"
     exact q_mk rfl fun d H' s _ hd => h2 e d H' s hd
  case len =>
   obtain ⟨a, kvs, k, rfl, _⟩ := h
   rfl
/-- check_edit(house, edit) -/
def spCE (K : PySem.W.Frag) (C : Addr) : Sp := fun vs H Q E => ∃ (N : Addr → Prop) (a : Addr) (v : V) (h : Hs) (e : Ed), vs = [.ref a, v] ∧ T K H N (.ref a) (.dic (hK h)) ∧ T K H ff v e.tr ∧
  match app1 h e with
  | .ok _ => Q .non H
  | .error (w, n) => XUnk C w n H E
theorem sc_check_edit : FnScope ["house", "edit"] ["house", "edit"] (defScope s_check_edit) := ⟨rfl, rfl, rfl, by decide +kernel, rfl, by decide +kernel, by decide +kernel⟩
theorem dn_check_edit (B : Bt mg) (F : TopF K mg "check_edit" s_check_edit ["house", "edit"]) (X_Unknown : Xc P w K mg base "Unknown" ["what", "name"] C_Unknown) (N_check_key : DfN P w K mg base "check_key" ["house", "key"] 3 (spCK C_Unknown)) : DfN P w K mg base "check_edit" ["house", "edit"] 4 (spCE K C_Unknown) := by
  refine F.dfN sc_check_edit (fun vs H Q E h => ?len) (fun f cdv A outer s H vs Q E hr h => ?body)
  case body =>
   have hu := hr.units
   refine ⟨_, (pss_cons (ps_expr (pe_dfN N_check_key (hr.mono (by decide)) (fun σ => L2N.passAt (L2N.takes_of rfl rfl rfl rfl) σ) (pa_cons (pv 0) (pa_cons (pe_ix (k_ix (K := K) rfl hu) (pv 1) pe_int (fun _ _ => rfl)) pa_nil))))
      (pss_one (ps_if (PW.pt (pw_and (pt_cmpR (k_eq (K := K) rfl hu) (pe_ix (k_ix (K := K) rfl hu) (pv 1) pe_int (fun _ _ => rfl)) pe_str (nomark _)) (pw_and1 (pt_cmpR (k_nin (K := K) rfl hu) (pe_ix (k_ix (K := K) rfl hu) (pv 1) pe_int (fun _ _ => rfl)) (pe_ix (k_ix (K := K) rfl hu) (pv 0) (pe_ix (k_ix (K := K) rfl hu) (pv 1) pe_int (fun _ _ => rfl)) (fun _ _ => rfl)) (by rfl)))))
      (pss_one (ps_rzN rfl X_Unknown.n (hr.mono (by decide)) (L2N.takes_of rfl rfl rfl rfl) (pa_cons (pe_ix (k_ix (K := K) rfl hu) (pv 1) pe_int (fun _ _ => rfl)) (pa_cons (pe_ix (k_ix (K := K) rfl hu) (pv 1) pe_int (fun _ _ => rfl)) pa_nil))))
      pss_nil))), ?_⟩
   obtain ⟨N, a, v, h, e, rfl, ha, he, hq⟩ := h
   obtain ⟨a', kvs, ea, _, hr, tk⟩ := ha.dicAt
   cases ea
   obtain ⟨b, rfl, he⟩ := Ed.at he
   cases e with
   | put k n x =>
     obtain ⟨y, hs, ty⟩ := he
     walk_at "g"
     walk_at "ix"
     walk_at "g"
     refine ⟨_, kvs, k, rfl, hr, fun hk => ?_, fun hk => ?_⟩
     · walk_at "g"
       walk_at "ix"
       walk_at "g"
       rw [decide_eq_false (by decide)]
       walk_at "g"
       cases e1 : lk h k with
       | none =>
         rw [T.ntab tk e1] at hk
         cases hk
       | some t =>
         simp only [app1, Ed.key, e1] at hq
         exact hq
     · cases e1 : lk h k with
       | none =>
         simp only [app1, Ed.key, e1] at hq
         exact hq
       | some t =>
         obtain ⟨q, es, h1, _⟩ := T.tab tk e1
         rw [h1] at hk
         cases hk
   | drop k n =>
     have hs := he
     walk_at "g"
     walk_at "ix"
     walk_at "g"
     refine ⟨_, kvs, k, rfl, hr, fun hk => ?_, fun hk => ?_⟩
     · walk_at "g"
       walk_at "ix"
       walk_at "g"
       rw [decide_eq_true rfl]
       walk_at "g"
       walk_at "ix"
       walk_at "g"
       walk_at "ix"
       walk_at "g"
       cases e1 : lk h k with
       | none =>
         rw [T.ntab tk e1] at hk
         cases hk
       | some t =>
         obtain ⟨q, es, h1, _, h2, h3⟩ := T.tab tk e1
         refine q_ixK (.inr k) hr h1 ?_
         walk_at "g"
         refine q_ninD (.inr n) h2 ?_
         walk_at "g"
         by_cases hn : n ∈ nms t
         · have e2 : (valV es (Sum.inr n)).isSome = true := by
             rw [h3.isSome, get_tK]
             cases e3 : lk t n with
             | none => exact absurd hn (lk_none.mp e3)
             | some _ => rfl
           rw [e2]
           walk_at "g"
           simp only [app1, Ed.key, e1, if_pos hn] at hq
           exact hq
         · have e2 : (valV es (Sum.inr n)).isSome = false := by
             rw [h3.isSome, get_tK, lk_none.mpr hn]
             rfl
           rw [e2]
           walk_at "g"
           walk_at "ix"
           walk_at "g"
           walk_at "ix"
           walk_at "g"
           simp only [app1, Ed.key, e1, if_neg hn] at hq
           exact q_mk rfl fun d H' s _ hd => hq d H' s hd
     · cases e1 : lk h k with
       | none =>
         simp only [app1, Ed.key, e1] at hq
         exact hq
       | some t =>
         obtain ⟨q, es, h1, _⟩ := T.tab tk e1
         rw [h1] at hk
         cases hk
  case len =>
   obtain ⟨N, a, b, h, e, rfl, _⟩ := h
   rfl
/-- copy_house(house) -/
def spCH (K : PySem.W.Frag) : Sp := fun vs H Q _ => ∃ (N : Addr → Prop) (a : Addr) (h : Hs), vs = [.ref a] ∧ T K H N (.ref a) (.dic (hK h)) ∧ Wf h ∧ Fits 60 h ∧ h.length ≤ 900 ∧
  ∀ r H', Same H H' → Own K (fun b => H b = none) H' r (cpH h) → Q (.ref r) H'
theorem sc_copy_house : FnScope ["house", "key", "name"] ["house"] (defScope s_copy_house) := ⟨rfl, rfl, rfl, by decide +kernel, rfl, by decide +kernel, by decide +kernel⟩
theorem d_copy_house (B : Bt mg) (F : TopF K mg "copy_house" s_copy_house ["house"]) : Df P w K mg base "copy_house" ["house"] 1 (spCH K) := by
  refine F.df sc_copy_house (fun vs H Q E h => ?len) (fun f cdv A outer s H vs Q E hr h => ?body)
  case body =>
   have hu := hr.units
   refine ⟨_, (pss_one (ps_ret (pe_lockU (pe_dc (own := [("key", 1)]) (by rfl) sc_copy_house.nd (k_walk (K := K) rfl (pv 0)) (blkOk_by (by kernel_rfl)) (fun _ _ _ _ _ => (pg_name (i := 1) sc_copy_house.nd rfl (Or.inr rfl))) (fun _ _ _ _ _ => pts_nil) (fun _ _ _ _ _ => (pv 1)) (fun _ _ _ _ _ => (pe_lockU (pe_dc (own := [("name", 2)]) (by rfl) sc_copy_house.nd (k_walk (K := K) rfl (pe_callB (k_sort (K := K) rfl rfl) (by rfl) B.b_sorted (by decide +kernel) (pa_cons (pe_ix (k_ix (K := K) rfl hu) (pv 0) (pv 1) (fun _ _ => rfl)) pa_nil))) (blkOk_by (by kernel_rfl)) (fun _ _ _ _ _ => (pg_name (i := 2) sc_copy_house.nd rfl (Or.inl rfl))) (fun _ _ _ _ _ => pts_nil) (fun _ _ _ _ _ => (pv 2)) (fun _ _ _ _ _ => (pe_ix (k_ix (K := K) rfl hu) (pe_ix (k_ix (K := K) rfl hu) (pv 0) (pv 1) (fun _ _ => rfl)) (pv 2) (fun _ _ => rfl)))))))))), ?_⟩
   obtain ⟨N, a, h, rfl, ha, wf, fit, hl, hq⟩ := h
   obtain ⟨a', kvs, ea, _, hrd, tk⟩ := ha.dicAt
   cases ea
   walk_at "g"
   refine q_lockE hrd fun Hl od un Q' lkd hQ' => ?_
   walk_at "g"
   refine q_keys ?_
   walk_at "g"
   refine q_keysE lkd.at_ ?_
   intro d hd
   have tkl := tk.rs lkd.rs
   have hlen : kvs.length = h.length := by rw [tk.length]; unfold hK; rw [List.length_map]
   refine dc_any (walk_keys (d := a) (o := od) (kvs := kvs)) (fun i H1 => Same Hl H1 ∧ Own K (fun b => Hl b = none) H1 d (cpH (h.take i))) ?_ ?_ ?_ ?_
   · exact ⟨same_new hd, by rw [List.take_zero]; exact Own.nil upd_same hd⟩
   · rintro i H1 _ ⟨s1, _⟩
     exact s1 _ _ lkd.at_
   · rintro i x H1' H1 hi ⟨s1, o1⟩ ⟨rfl, k, v, hkv, rfl⟩
     obtain ⟨d0, g1, g2⟩ := Tk.at tkl hkv
     obtain ⟨n, t, hn, rfl, rfl⟩ := hK_at g1
     have hm := mem_at hn
     have wft := wf.tab _ hm
     have hlk : lk h n = some t := lk_of_mem wf.nd hm
     obtain ⟨q', es', hv, _, hq2', tkq'⟩ := T.tab tkl hlk
     have wfi : immT t := wft.2
     have hsz : (nms t).length < 64 := by
       have : t.length ≤ 60 := fit _ hm
       rw [nms_len]
       exact Nat.lt_of_le_of_lt this (by decide)
     have rdq : Rd H1 q' (.dK es') := Sm.rd s1 hq2'
     walk_at "g"
     refine ⟨rfl, ?_⟩
     walk_at "g"
     refine .inl ?_
     walk_at "g"
     refine q_items ?_
     walk_at "g"
     refine q_ixK (.inr n) (.inr ⟨od, s1 _ _ lkd.at_⟩) hv ?_
     walk_at "g"
     refine q_sortD (ks := nms t) rdq (by rw [tkq'.keys, keys_tK]) hsz fun p hp => ?_
     have sp : Same H1 (upd H1 p (.lst ((srt (nms t)).map V.str))) := same_new hp
     generalize hHp : upd H1 p (.lst ((srt (nms t)).map V.str)) = Hp1 at sp
     have hpL : Hp1 p = some (.lst ((srt (nms t)).map V.str)) := by rw [← hHp]; exact upd_same
     refine q_itemsE (.inl (.inl hpL)) ?_
     intro d2 hd2
     have tkq2 : Tk K Hp1 ff es' (tK t) := (tkq'.mono (s1.trans sp)).imm wfi
     refine dc_any (walk_list (xs := (srt (nms t)).map V.str)) (fun j H2 => Same Hp1 H2 ∧ ∃ es2, H2 d2 = some (.dK es2) ∧ Tk K H2 ff es2 (tK ((ord t).take j))) ?_ ?_ ?_ ?_
     · exact ⟨same_new hd2, [], upd_same, by rw [List.take_zero]; exact .nil⟩
     · rintro j H2 _ ⟨s2, _⟩
       exact .inl (.inl (s2 _ _ hpL))
     · rintro j x H2' H2 hj ⟨s2, es2, e2, tk2⟩ ⟨rfl, hx⟩
       obtain ⟨m, hm2, rfl⟩ := srt_at hx
       obtain ⟨dm, ho, hlm⟩ := ord_at hm2
       obtain ⟨vm, hvm, tvm⟩ := tkq2.ent hlm
       walk_at "g"
       refine ⟨rfl, ?_⟩
       walk_at "g"
       refine q_ixK (.inr n) (.inr ⟨od, s2 _ _ (sp _ _ (s1 _ _ lkd.at_))⟩) hv ?_
       walk_at "g"
       refine q_ixK (.inr m) (Sm.rd s2 (Sm.rd sp rdq)) hvm ?_
       have l2 : es2.length < sizeLine := by
         rw [tk2.length]
         unfold tK
         rw [List.length_map, List.length_take, len_ord]
         have : t.length ≤ 60 := fit _ hm
         exact len_small (by omega)
       have nk : (Sum.inr m : Key) ∉ es2.map (·.1) := by
         rw [tk2.keys, keys_tK, nms_take, nms_ord]
         exact fun z => nd_at ((srt_perm _).nodup_iff.mpr wft.1) hm2 (inr_mem.mp z)
       refine ⟨es2, .inr m, rfl, e2, l2, ?_, _, upd_same, ?_⟩
       · exact fun b o e => by
           have : b ≠ d2 := ne_of_none e hd2
           rw [upd_ne this]
           exact s2 b o e
       · rw [putK_fresh nk, take_more ho, tK_snoc]
         have tk3 := tk2.append (Tk.cons (k := Sum.inr m) (tvm.mono s2) .nil)
         exact tk3.upd e2 (fun _ z => nomatch z) (fun _ _ z => nomatch z) fun _ z => z.elim
     · rintro H2 ⟨s2, es2, e2, tk2⟩
       have hle : (ord t).take ((srt (nms t)).map V.str).length = ord t := by
         rw [List.length_map, (srt_perm _).length_eq, nms_len, ← len_ord t, List.take_length]
       rw [hle] at tk2
       have nn : n ∉ nms (cpH (h.take i)) := by
         rw [nms_cpH, nms_take]
         exact nd_at wf.nd (nms_at hn)
       have sd : Same H1 H2 := sp.trans s2
       have hd2' : Hl d2 = none := s1.free (sp.free hd2)
       obtain ⟨kvs2, k1, k2, k3⟩ := o1.push nn (sp.free hd2) hd2' sd e2 tk2
       have l3 : kvs2.length < sizeLine := by
         rw [k2]
         unfold cpH
         rw [List.length_map, List.length_take]
         exact len_small (by omega)
       refine ⟨kvs2, .inr n, rfl, k1, l3, ?_, ?_⟩
       · exact fun b o e => by
           have : b ≠ d := ne_of_none e hd
           rw [upd_ne this]
           exact sd b o (s1 b o e)
       · rw [cpH_take, take_more (cpH_at hn), ← cpH_take]
         exact k3
   · rintro H1 ⟨s1, o1⟩
     have e1 := s1 _ _ lkd.at_
     refine hQ' _ _ e1 ?_
     rw [hlen, List.take_length] at o1
     have na : ∀ b, Hl b = none → b ≠ a := fun b e z => by
       rw [z, lkd.at_] at e
       cases e
     exact hq d _ (lkd.same s1) ((lkd.own na e1 o1).imp fun b e => lkd.new.mp e)
  case len =>
   obtain ⟨N, a, h, rfl, _⟩ := h
   rfl
theorem dh_copy_house (B : Bt mg) (F : TopF K mg "copy_house" s_copy_house ["house"]) : DfH P w K mg base "copy_house" ["house"] 1 (spCH K) := by
  refine F.dfH sc_copy_house (fun vs H Q E h => ?len) (fun f cdv A outer s H vs Q E pin hr hC h => ?body)
  case body =>
   have hu := hr.units
   refine ⟨_, (pss_one (ps_ret (pe_lockU (pe_dcH (own := [("key", 1)]) hC sc_copy_house.nd (k_walkH (K := K) rfl (pv 0)) (blkOk_by (by kernel_rfl)) (fun _ _ _ _ _ => (pg_name (i := 1) sc_copy_house.nd rfl (Or.inr rfl))) (fun _ _ _ _ _ => pts_nil) (fun _ _ _ _ _ => (pv 1)) (fun _ _ _ _ _ => (pe_lockU (pe_dcH (own := [("name", 2)]) hC sc_copy_house.nd (k_walkH (K := K) rfl (pe_callB (k_sortH (K := K) rfl hC) (by rfl) B.b_sorted (by decide +kernel) (pa_cons (pe_ix (k_ix (K := K) rfl hu) (pv 0) (pv 1) (fun _ _ => rfl)) pa_nil))) (blkOk_by (by kernel_rfl)) (fun _ _ _ _ _ => (pg_name (i := 2) sc_copy_house.nd rfl (Or.inl rfl))) (fun _ _ _ _ _ => pts_nil) (fun _ _ _ _ _ => (pv 2)) (fun _ _ _ _ _ => (pe_ix (k_ix (K := K) rfl hu) (pe_ix (k_ix (K := K) rfl hu) (pv 0) (pv 1) (fun _ _ => rfl)) (pv 2) (fun _ _ => rfl)))))))))), ?_⟩
   obtain ⟨N, a, h, rfl, ha, wf, fit, hl, hq⟩ := h
   obtain ⟨a', kvs, ea, _, hrd, tk⟩ := ha.dicAt
   cases ea
   walk_at "g"
   refine q_lockE hrd fun Hl od un Q' lkd hQ' => ?_
   walk_at "g"
   refine q_keys ?_
   walk_at "g"
   refine q_keysE lkd.at_ ?_
   intro d hd
   have tkl := tk.rs lkd.rs
   have hlen : kvs.length = h.length := by rw [tk.length]; unfold hK; rw [List.length_map]
   refine dc_any (walk_keys (d := a) (o := od) (kvs := kvs)) (fun i H1 => Same Hl H1 ∧ Own K (fun b => Hl b = none) H1 d (cpH (h.take i))) ?_ ?_ ?_ ?_
   · exact ⟨same_new hd, by rw [List.take_zero]; exact Own.nil upd_same hd⟩
   · rintro i H1 _ ⟨s1, _⟩
     exact s1 _ _ lkd.at_
   · rintro i x H1' H1 hi ⟨s1, o1⟩ ⟨rfl, k, v, hkv, rfl⟩
     obtain ⟨d0, g1, g2⟩ := Tk.at tkl hkv
     obtain ⟨n, t, hn, rfl, rfl⟩ := hK_at g1
     have hm := mem_at hn
     have wft := wf.tab _ hm
     have hlk : lk h n = some t := lk_of_mem wf.nd hm
     obtain ⟨q', es', hv, _, hq2', tkq'⟩ := T.tab tkl hlk
     have wfi : immT t := wft.2
     have hsz : (nms t).length < 64 := by
       have : t.length ≤ 60 := fit _ hm
       rw [nms_len]
       exact Nat.lt_of_le_of_lt this (by decide)
     have rdq : Rd H1 q' (.dK es') := Sm.rd s1 hq2'
     walk_at "g"
     refine ⟨rfl, ?_⟩
     walk_at "g"
     refine .inl ?_
     walk_at "g"
     refine q_items ?_
     walk_at "g"
     refine q_ixK (.inr n) (.inr ⟨od, s1 _ _ lkd.at_⟩) hv ?_
     walk_at "g"
     refine q_sortD (ks := nms t) rdq (by rw [tkq'.keys, keys_tK]) hsz fun p hp => ?_
     have sp : Same H1 (upd H1 p (.lst ((srt (nms t)).map V.str))) := same_new hp
     generalize hHp : upd H1 p (.lst ((srt (nms t)).map V.str)) = Hp1 at sp
     have hpL : Hp1 p = some (.lst ((srt (nms t)).map V.str)) := by rw [← hHp]; exact upd_same
     refine q_itemsE (.inl (.inl hpL)) ?_
     intro d2 hd2
     have tkq2 : Tk K Hp1 ff es' (tK t) := (tkq'.mono (s1.trans sp)).imm wfi
     refine dc_any (walk_list (xs := (srt (nms t)).map V.str)) (fun j H2 => Same Hp1 H2 ∧ ∃ es2, H2 d2 = some (.dK es2) ∧ Tk K H2 ff es2 (tK ((ord t).take j))) ?_ ?_ ?_ ?_
     · exact ⟨same_new hd2, [], upd_same, by rw [List.take_zero]; exact .nil⟩
     · rintro j H2 _ ⟨s2, _⟩
       exact .inl (.inl (s2 _ _ hpL))
     · rintro j x H2' H2 hj ⟨s2, es2, e2, tk2⟩ ⟨rfl, hx⟩
       obtain ⟨m, hm2, rfl⟩ := srt_at hx
       obtain ⟨dm, ho, hlm⟩ := ord_at hm2
       obtain ⟨vm, hvm, tvm⟩ := tkq2.ent hlm
       walk_at "g"
       refine ⟨rfl, ?_⟩
       walk_at "g"
       refine q_ixK (.inr n) (.inr ⟨od, s2 _ _ (sp _ _ (s1 _ _ lkd.at_))⟩) hv ?_
       walk_at "g"
       refine q_ixK (.inr m) (Sm.rd s2 (Sm.rd sp rdq)) hvm ?_
       have l2 : es2.length < sizeLine := by
         rw [tk2.length]
         unfold tK
         rw [List.length_map, List.length_take, len_ord]
         have : t.length ≤ 60 := fit _ hm
         exact len_small (by omega)
       have nk : (Sum.inr m : Key) ∉ es2.map (·.1) := by
         rw [tk2.keys, keys_tK, nms_take, nms_ord]
         exact fun z => nd_at ((srt_perm _).nodup_iff.mpr wft.1) hm2 (inr_mem.mp z)
       refine ⟨es2, .inr m, rfl, e2, l2, ?_, _, upd_same, ?_⟩
       · exact fun b o e => by
           have : b ≠ d2 := ne_of_none e hd2
           rw [upd_ne this]
           exact s2 b o e
       · rw [putK_fresh nk, take_more ho, tK_snoc]
         have tk3 := tk2.append (Tk.cons (k := Sum.inr m) (tvm.mono s2) .nil)
         exact tk3.upd e2 (fun _ z => nomatch z) (fun _ _ z => nomatch z) fun _ z => z.elim
     · rintro H2 ⟨s2, es2, e2, tk2⟩
       have hle : (ord t).take ((srt (nms t)).map V.str).length = ord t := by
         rw [List.length_map, (srt_perm _).length_eq, nms_len, ← len_ord t, List.take_length]
       rw [hle] at tk2
       have nn : n ∉ nms (cpH (h.take i)) := by
         rw [nms_cpH, nms_take]
         exact nd_at wf.nd (nms_at hn)
       have sd : Same H1 H2 := sp.trans s2
       have hd2' : Hl d2 = none := s1.free (sp.free hd2)
       obtain ⟨kvs2, k1, k2, k3⟩ := o1.push nn (sp.free hd2) hd2' sd e2 tk2
       have l3 : kvs2.length < sizeLine := by
         rw [k2]
         unfold cpH
         rw [List.length_map, List.length_take]
         exact len_small (by omega)
       refine ⟨kvs2, .inr n, rfl, k1, l3, ?_, ?_⟩
       · exact fun b o e => by
           have : b ≠ d := ne_of_none e hd
           rw [upd_ne this]
           exact sd b o (s1 b o e)
       · rw [cpH_take, take_more (cpH_at hn), ← cpH_take]
         exact k3
   · rintro H1 ⟨s1, o1⟩
     have e1 := s1 _ _ lkd.at_
     refine hQ' _ _ e1 ?_
     rw [hlen, List.take_length] at o1
     have na : ∀ b, Hl b = none → b ≠ a := fun b e z => by
       rw [z, lkd.at_] at e
       cases e
     exact hq d _ (lkd.same s1) ((lkd.own na e1 o1).imp fun b e => lkd.new.mp e)
  case len =>
   obtain ⟨N, a, h, rfl, _⟩ := h
   rfl

/-- change_tables(tables, edit) -/
def spCT (K : PySem.W.Frag) (C : Addr) : Sp := fun vs H Q E => ∃ (N : Addr → Prop) (a : Addr) (v : V) (h : Hs) (e : Ed), vs = [.ref a, v] ∧ Own K N H a h ∧ T K H ff v e.tr ∧ Wf h ∧ Fits 900 h ∧
  match app1 h e with
  | .ok h' => ∀ q es es', N q → H q = some (.dK es) → Own K N (upd H q (.dK es')) a h' → Q .non (upd H q (.dK es'))
  | .error (w, n) => XUnk C w n H E
theorem sc_change_tables : FnScope ["tables", "edit", "table"] ["tables", "edit"] (defScope s_change_tables) := ⟨rfl, rfl, rfl, by decide +kernel, rfl, by decide +kernel, by decide +kernel⟩
theorem dn_change_tables (B : Bt mg) (F : TopF K mg "change_tables" s_change_tables ["tables", "edit"]) (N_check_edit : DfN P w K mg base "check_edit" ["house", "edit"] 4 (spCE K C_Unknown)) : DfN P w K mg base "change_tables" ["tables", "edit"] 5 (spCT K C_Unknown) := by
  refine F.dfN sc_change_tables (fun vs H Q E h => ?len) (fun f cdv A outer s H vs Q E hr h => ?body)
  case body =>
   have hu := hr.units
   refine ⟨_, (pss_cons (ps_expr (pe_dfN N_check_edit (hr.mono (by decide)) (fun σ => L2N.passAt (L2N.takes_of rfl rfl rfl rfl) σ) (pa_cons (pv 0) (pa_cons (pv 1) pa_nil))))
      (pss_cons (ps_set (i := 2) sc_change_tables.nd rfl (Or.inl rfl) (pe_ix (k_ix (K := K) rfl hu) (pv 0) (pe_ix (k_ix (K := K) rfl hu) (pv 1) pe_int (fun _ _ => rfl)) (fun _ _ => rfl)))
      (pss_one (ps_if (pt_cmpR (k_eq (K := K) rfl hu) (pe_ix (k_ix (K := K) rfl hu) (pv 1) pe_int (fun _ _ => rfl)) pe_str (nomark _))
      (pss_one (ps_asg (pe_ix (k_ix (K := K) rfl hu) (pv 1) pe_int (fun _ _ => rfl)) (pg_sub (pv 2) (pe_ix (k_ix (K := K) rfl hu) (pv 1) pe_int (fun _ _ => rfl)) (set_any hu))))
      (pss_one (ps_ddel (pv 2) (pe_ix (k_ix (K := K) rfl hu) (pv 1) pe_int (fun _ _ => rfl)))))))), ?_⟩
   obtain ⟨N, a, v, h, e, rfl, ho, he, wf, fit, hq⟩ := h
   walk_at "g"
   refine ⟨N, a, v, h, e, rfl, ho.T, he, ?_⟩
   cases e1 : lk h e.key with
   | none =>
     simp only [app1, e1] at hq ⊢
     exact hq
   | some t =>
     obtain ⟨kvs, q, es, h1, h2, h3, h4, nq, nr, ne, back⟩ := ho.at e1
     have hm := lk_mem e1
     have wt := wf.tab _ hm
     have ft : t.length ≤ 900 := fit _ hm
     have hl : es.length < sizeLine := by
       rw [h4.length]
       unfold tK
       rw [List.length_map]
       exact len_small (by omega)
     obtain ⟨b, rfl, he'⟩ := Ed.at he
     cases e with
     | put k n x =>
       obtain ⟨y, hs, ty⟩ := he'
       simp only [app1, e1] at hq ⊢
       walk_at "g"
       walk_at "ix"
       walk_at "g"
       refine q_ixK (.inr k) (.inl h1) h2 ?_
       walk_at "g"
       walk_at "ix"
       walk_at "g"
       rw [decide_eq_true rfl]
       walk_at "g"
       walk_at "ix"
       walk_at "g"
       walk_at "ix"
       refine q_setD (.inr n) h3 hl ?_
       refine hq q es _ nq h3 (back _ _ ?_)
       rw [← put_tK wt.1]
       exact h4.put ty
     | drop k n =>
       have hs := he'
       by_cases hn : n ∈ nms t
       · simp only [app1, e1, if_pos hn] at hq ⊢
         have hv : (valV es (.inr n)).isSome = true := by
           rw [h4.isSome, get_tK]
           cases e3 : lk t n with
           | none => exact absurd hn (lk_none.mp e3)
           | some _ => rfl
         walk_at "g"
         walk_at "ix"
         walk_at "g"
         refine q_ixK (.inr k) (.inl h1) h2 ?_
         walk_at "g"
         walk_at "ix"
         walk_at "g"
         rw [decide_eq_false (by decide)]
         walk_at "g"
         refine q_ddel ?_
         walk_at "g"
         walk_at "ix"
         refine ⟨q, es, .inr n, rfl, h3, rfl, hv, ?_⟩
         refine hq q es _ nq h3 (back _ _ ?_)
         rw [← del_tK wt.1]
         exact h4.del _
       · simp only [app1, e1, if_neg hn] at hq ⊢
         exact hq
  case len =>
   obtain ⟨N, a, b, h, e, rfl, _⟩ := h
   rfl
/-- apply_edits(house, edits) -/
def spAE (K : PySem.W.Frag) (C : Addr) : Sp := fun vs H Q E => ∃ (N : Addr → Prop) (a b : Addr) (h : Hs) (xs : List V) (es : List Ed), vs = [.ref a, .ref b] ∧ T K H N (.ref a) (.dic (hK h)) ∧ SqL K H b xs ∧ Ts K H ff xs (es.map Ed.tr) ∧
  Wf h ∧ (∀ e ∈ es, e.Imm) ∧ (∃ n, Fits n h ∧ n + es.length ≤ 60) ∧ h.length ≤ 900 ∧
  match appAll (cpH h) es with
  | .ok h' => ∀ r H', Same H H' → Own K (fun b => H b = none) H' r (cpH h') → Q (.ref r) H'
  | .error (w, n) => XUnk C w n H E
theorem sc_apply_edits : FnScope ["house", "edits", "tables", "edit"] ["house", "edits"] (defScope s_apply_edits) := ⟨rfl, rfl, rfl, by decide +kernel, rfl, by decide +kernel, by decide +kernel⟩
theorem dn_apply_edits (B : Bt mg) (F : TopF K mg "apply_edits" s_apply_edits ["house", "edits"]) (D_copy_house : Df P w K mg base "copy_house" ["house"] 1 (spCH K)) (N_change_tables : DfN P w K mg base "change_tables" ["tables", "edit"] 5 (spCT K C_Unknown)) : DfN P w K mg base "apply_edits" ["house", "edits"] 6 (spAE K C_Unknown) := by
  refine F.dfN sc_apply_edits (fun vs H Q E h => ?len) (fun f cdv A outer s H vs Q E hr h => ?body)
  case body =>
   have hu := hr.units
   refine ⟨_, (pss_cons (ps_set (i := 2) sc_apply_edits.nd rfl (Or.inl rfl) (pe_df0 D_copy_house (hr.mono (by decide)) (pa_cons (pv 0) pa_nil)))
      (pss_cons (ps_lockU (ps_for (passes_of rfl) rfl (k_walk (K := K) rfl (pv 1)) (pg_name (i := 3) sc_apply_edits.nd rfl (Or.inl rfl))
      (pss_one (ps_expr (pe_dfN N_change_tables (hr.mono (by decide)) (fun σ => L2N.passAt (L2N.takes_of rfl rfl rfl rfl) σ) (pa_cons (pv 2) (pa_cons (pv 3) pa_nil)))))))
      (pss_one (ps_ret (pe_df0 D_copy_house (hr.mono (by decide)) (pa_cons (pv 2) pa_nil)))))), ?_⟩
   obtain ⟨N, a, b, h, xs, es, rfl, ha, hb, hxs, wf, im, ⟨n, fit, hn⟩, hl, hq⟩ := h
   walk_at "g"
   refine ⟨N, a, h, rfl, ha, wf, fun p hp => Nat.le_trans (fit p hp) (by omega), hl, fun r H1 s1 o1 => ?_⟩
   walk_at "g"
   refine .inl ?_
   walk_at "g"
   refine q_items ?_
   walk_at "g"
   refine q_itemsE (Sm.sqL s1 hb) ?_
   have hlen : xs.length = es.length := by rw [hxs.length, List.length_map]
   refine for_items (xs := xs) (fun i σ Hi => ∃ (v : Option V) (hi : Hs), σ = [some (.ref a), some (.ref b), some (.ref r), v] ∧ Same H Hi ∧ appAll (cpH h) (es.take i) = .ok hi ∧ Own K (fun b => H b = none) Hi r hi) ?_ ?_ ?_ ?_
   · exact ⟨none, cpH h, rfl, s1, rfl, o1⟩
   · rintro i σ Hi _ ⟨v, hi, rfl, si, _⟩
     exact Sm.sqL si hb
   · rintro i x σ Hi hx ⟨v, hi, rfl, si, ai, oi⟩
     obtain ⟨d, g1, g2⟩ := hxs.gets hx
     obtain ⟨e, he, rfl⟩ := map_at g1
     have imt : ∀ e ∈ es.take i, e.Imm := fun e m => im e (List.mem_of_mem_take m)
     obtain ⟨wi, fi, ni⟩ := appAll_ok wf.cp imt fit.cp ai
     have hlt : (es.take i).length ≤ es.length := by rw [List.length_take]; exact Nat.min_le_right _ _
     walk_at "g"
     refine ⟨_, r, x, hi, e, rfl, oi, g2.mono si, wi, fun p hp => Nat.le_trans (fi p hp) (by omega), ?_⟩
     cases q : app1 hi e with
     | ok h' =>
       intro q' es1 es2 nq eq o'
       refine ⟨_, h', rfl, ?_, ?_, o'⟩
       · intro z o ez
         rw [upd_ne (ne_of_none ez nq)]
         exact si z o ez
       · rw [appAll_more he ai, q]
     | error x =>
       obtain ⟨w1, n1⟩ := x
       rw [appAll_stop he ai q] at hq
       exact hq.mono si
   · rintro σ Hi ⟨v, hi, rfl, si, ai, oi⟩
     rw [hlen, List.take_length] at ai
     obtain ⟨wi, fi, ni⟩ := appAll_ok wf.cp im fit.cp ai
     rw [ai] at hq
     walk_at "g"
     refine ⟨_, r, hi, rfl, oi.T, wi, fun p hp => Nat.le_trans (fi p hp) hn, ?_, fun r2 H2 s2 o2 => hq r2 H2 (si.trans s2) (o2.imp fun b e => si.free e)⟩
     rw [len_of_nms ni, len_cp]
     exact hl
  case len =>
   obtain ⟨N, a, b, h, xs, es, rfl, _⟩ := h
   rfl
/-- apply_edit(house, edit) -/
def spA1 (K : PySem.W.Frag) (C : Addr) : Sp := fun vs H Q E => ∃ (N : Addr → Prop) (a : Addr) (v : V) (h : Hs) (e : Ed), vs = [.ref a, v] ∧ T K H N (.ref a) (.dic (hK h)) ∧ T K H ff v e.tr ∧
  Wf h ∧ e.Imm ∧ Fits 59 h ∧ h.length ≤ 900 ∧
  match app1 (cpH h) e with
  | .ok h' => ∀ r H', Same H H' → Own K (fun b => H b = none) H' r (cpH h') → Q (.ref r) H'
  | .error (w, n) => XUnk C w n H E
/-- inverse(house, edit) -/
def spIV (K : PySem.W.Frag) (C : Addr) : Sp := fun vs H Q E => ∃ (N : Addr → Prop) (a : Addr) (v : V) (h : Hs) (e : Ed), vs = [.ref a, v] ∧ T K H N (.ref a) (.dic (hK h)) ∧ T K H ff v e.tr ∧ Wf h ∧
  match app1 h e with
  | .ok _ => ∀ u H', Same H H' → T K H' ff u (inv1 h e).tr → Q u H'
  | .error (w, n) => XUnk C w n H E
theorem sc_inverse : FnScope ["house", "edit", "key", "name"] ["house", "edit"] (defScope s_inverse) := ⟨rfl, rfl, rfl, by decide +kernel, rfl, by decide +kernel, by decide +kernel⟩
theorem d_inverse (B : Bt mg) (F : TopF K mg "inverse" s_inverse ["house", "edit"]) (D_check_edit : Df P w K mg base "check_edit" ["house", "edit"] 4 (spCE K C_Unknown)) : Df P w K mg base "inverse" ["house", "edit"] 5 (spIV K C_Unknown) := by
  refine F.df sc_inverse (fun vs H Q E h => ?len) (fun f cdv A outer s H vs Q E hr h => ?body)
  case body =>
   have hu := hr.units
   refine ⟨_, (pss_cons (ps_expr (pe_df D_check_edit (hr.mono (by decide)) (fun σ => passAt (takes_of rfl rfl rfl rfl) σ) (pa_cons (pv 0) (pa_cons (pv 1) pa_nil))))
      (pss_cons (ps_set (i := 2) sc_inverse.nd rfl (Or.inl rfl) (pe_ix (k_ix (K := K) rfl hu) (pv 1) pe_int (fun _ _ => rfl)))
      (pss_cons (ps_set (i := 3) sc_inverse.nd rfl (Or.inl rfl) (pe_ix (k_ix (K := K) rfl hu) (pv 1) pe_int (fun _ _ => rfl)))
      (pss_cons (ps_if (pt_cmpR (k_in (K := K) rfl hu) (pv 3) (pe_ix (k_ix (K := K) rfl hu) (pv 0) (pv 2) (fun _ _ => rfl)) (by rfl))
      (pss_one (ps_ret (pe_tup (pa_cons pe_str (pa_cons (pv 2) (pa_cons (pv 3) (pa_cons (pe_ix (k_ix (K := K) rfl hu) (pe_ix (k_ix (K := K) rfl hu) (pv 0) (pv 2) (fun _ _ => rfl)) (pv 3) (fun _ _ => rfl)) pa_nil)))))))
      pss_nil)
      (pss_one (ps_ret (pe_tup (pa_cons pe_str (pa_cons (pv 2) (pa_cons (pv 3) pa_nil)))))))))), ?_⟩
   obtain ⟨N, a, v, h, e, rfl, ha, he, wf, hq⟩ := h
   obtain ⟨a', kvs, ea, _, hr2, tk⟩ := ha.dicAt
   cases ea
   obtain ⟨b, rfl, he'⟩ := Ed.at he
   have hs : ∃ xs, SqT K H b (.str "put" :: .str e.key :: .str e.name :: xs) ∨ SqT K H b (.str "drop" :: .str e.key :: .str e.name :: xs) := by
     cases e with
     | put k n x =>
       obtain ⟨y, hs, _⟩ := he'
       exact ⟨[y], .inl hs⟩
     | drop k n => exact ⟨[], .inr he'⟩
   obtain ⟨ws, hw⟩ : ∃ ws, SqT K H b ws ∧ atI ws 1 = some (.str e.key) ∧ atI ws 2 = some (.str e.name) := by
     obtain ⟨xs, hs | hs⟩ := hs
     · exact ⟨_, hs, atI_nat (j := 1) rfl, atI_nat (j := 2) rfl⟩
     · exact ⟨_, hs, atI_nat (j := 1) rfl, atI_nat (j := 2) rfl⟩
   obtain ⟨hws, w1, w2⟩ := hw
   walk_at "g"
   refine ⟨N, a, .ref b, h, e, rfl, ha, he, ?_⟩
   cases q : app1 h e with
   | error x =>
     rw [q] at hq
     exact hq
   | ok h' =>
     rw [q] at hq
     cases e1 : lk h e.key with
     | none =>
       simp only [app1, e1] at q
       cases q
     | some t =>
       obtain ⟨q', es', h1, _, h2, h3⟩ := T.tab tk e1
       walk_at "g"
       refine q_ixT hws w1 ?_
       walk_at "g"
       refine q_ixT hws w2 ?_
       walk_at "g"
       refine q_ixK (.inr e.key) hr2 h1 ?_
       refine q_inD (.inr e.name) h2 ?_
       walk_at "g"
       cases e2 : lk t e.name with
       | some d =>
         obtain ⟨vd, g1, g2⟩ := h3.ent e2
         have tq : T K H ff vd d := g2.imm (immT_lk (wf.tab _ (lk_mem e1)).2 e2)
         rw [g1]
         walk_at "g"
         refine q_ixK (.inr e.key) hr2 h1 ?_
         walk_at "g"
         refine q_ixK (.inr e.name) h2 g1 ?_
         walk_at "g"
         intro p hp
         have s1 := same_new (o := .tup [.str "put", .str e.key, .str e.name, vd]) hp
         refine hq _ _ s1 ?_
         have ei : inv1 h e = .put e.key e.name d := by simp only [inv1, e1, e2]
         rw [ei]
         exact .tup st_new (.cons (.str _) (.cons (.str _) (.cons (.str _) (.cons (tq.mono s1) .nil))))
       | none =>
         have g1 := h3.nent e2
         rw [g1]
         walk_at "g"
         intro p hp
         have s1 := same_new (o := .tup [.str "drop", .str e.key, .str e.name]) hp
         refine hq _ _ s1 ?_
         have ei : inv1 h e = .drop e.key e.name := by simp only [inv1, e1, e2]
         rw [ei]
         exact .tup st_new (.cons (.str _) (.cons (.str _) (.cons (.str _) .nil)))
  case len =>
   obtain ⟨N, a, b, h, e, rfl, _⟩ := h
   rfl
/-- inverse_of(house, edits) -/
def spIO (K : PySem.W.Frag) (C : Addr) : Sp := fun vs H Q E => ∃ (N : Addr → Prop) (a b : Addr) (h : Hs) (xs : List V) (es : List Ed), vs = [.ref a, .ref b] ∧ T K H N (.ref a) (.dic (hK h)) ∧ SqL K H b xs ∧ Ts K H ff xs (es.map Ed.tr) ∧
  Wf h ∧ (∀ e ∈ es, e.Imm) ∧ (∃ n, Fits n h ∧ n + es.length ≤ 60) ∧ h.length ≤ 900 ∧
  match appAll (cpH h) es with
  | .ok _ => ∀ r H' ys, Same H H' → H r = none → H' r = some (.lst ys) → Ts K H' ff ys ((invs (cpH h) es).reverse.map Ed.tr) → Q (.ref r) H'
  | .error (w, n) => XUnk C w n H E
theorem sc_inverse_of : FnScope ["house", "edits", "tables", "found", "edit"] ["house", "edits"] (defScope s_inverse_of) := ⟨rfl, rfl, rfl, by decide +kernel, rfl, by decide +kernel, by decide +kernel⟩
theorem d_inverse_of (B : Bt mg) (F : TopF K mg "inverse_of" s_inverse_of ["house", "edits"]) (D_change_tables : Df P w K mg base "change_tables" ["tables", "edit"] 5 (spCT K C_Unknown)) (D_inverse : Df P w K mg base "inverse" ["house", "edit"] 5 (spIV K C_Unknown)) (D_copy_house : Df P w K mg base "copy_house" ["house"] 1 (spCH K)) : Df P w K mg base "inverse_of" ["house", "edits"] 6 (spIO K C_Unknown) := by
  refine F.df sc_inverse_of (fun vs H Q E h => ?len) (fun f cdv A outer s H vs Q E hr h => ?body)
  case body =>
   have hu := hr.units
   refine ⟨_, (pss_cons (ps_set (i := 2) sc_inverse_of.nd rfl (Or.inl rfl) (pe_df D_copy_house (hr.mono (by decide)) (fun σ => passAt (takes_of rfl rfl rfl rfl) σ) (pa_cons (pv 0) pa_nil)))
      (pss_cons (ps_set (i := 3) sc_inverse_of.nd rfl (Or.inl rfl) (pe_lst pa_nil))
      (pss_cons (ps_lockU (ps_for (passes_of rfl) rfl (k_walk (K := K) rfl (pv 1)) (pg_name (i := 4) sc_inverse_of.nd rfl (Or.inl rfl))
      (pss_cons (ps_expr (k_append (K := K) rfl (pv 3) (pa_cons (pe_df D_inverse (hr.mono (by decide)) (fun σ => passAt (takes_of rfl rfl rfl rfl) σ) (pa_cons (pv 2) (pa_cons (pv 4) pa_nil))) pa_nil)))
      (pss_one (ps_expr (pe_df D_change_tables (hr.mono (by decide)) (fun σ => passAt (takes_of rfl rfl rfl rfl) σ) (pa_cons (pv 2) (pa_cons (pv 4) pa_nil))))))))
      (pss_one (ps_ret (k_rev (K := K) rfl (pv 3))))))), ?_⟩
   obtain ⟨N, a, b, h, xs, es, rfl, ha, hb, hxs, wf, im, ⟨n, fit, hn⟩, hl, hq⟩ := h
   walk_at "g"
   refine ⟨N, a, h, rfl, ha, wf, fun p hp => Nat.le_trans (fit p hp) (by omega), hl, fun r H1 s1 o1' => ?_⟩
   have o1 := o1'.live
   walk_at "g"
   intro f hf
   have s2 : Same H1 (upd H1 f (.lst [])) := same_new hf
   have hf0 : H f = none := s1.free hf
   walk_at "g"
   refine .inl ?_
   walk_at "g"
   refine q_items ?_
   walk_at "g"
   refine q_itemsE (Sm.sqL (s1.trans s2) hb) ?_
   have hlen : xs.length = es.length := by rw [hxs.length, List.length_map]
   refine for_items (xs := xs) (fun i σ Hi => ∃ (v : Option V) (hi : Hs) (ys : List V), σ = [some (.ref a), some (.ref b), some (.ref r), some (.ref f), v] ∧ Same H Hi ∧ appAll (cpH h) (es.take i) = .ok hi ∧ Own K (fun b => H b = none ∧ H1 b ≠ none) Hi r hi ∧ Hi f = some (.lst ys) ∧
     Ts K Hi ff ys ((invs (cpH h) (es.take i)).map Ed.tr) ∧ ys.length = i) ?_ ?_ ?_ ?_
   · exact ⟨none, cpH h, [], rfl, s1.trans s2, rfl, o1.mono s2, upd_same, .nil, rfl⟩
   · rintro i σ Hi _ ⟨v, hi, ys, rfl, si, _⟩
     exact Sm.sqL si hb
   · rintro i x σ Hi hx ⟨v, hi, ys, rfl, si, ai, oi, fi, ti, li⟩
     obtain ⟨d, g1, g2⟩ := hxs.gets hx
     obtain ⟨e, he, rfl⟩ := map_at g1
     have imt : ∀ e ∈ es.take i, e.Imm := fun e m => im e (List.mem_of_mem_take m)
     obtain ⟨wi, fti, ni⟩ := appAll_ok wf.cp imt fit.cp ai
     have hlt : (es.take i).length ≤ es.length := by rw [List.length_take]; exact Nat.min_le_right _ _
     have hil : i < es.length := by
       rw [← hlen]
       exact (List.getElem?_eq_some_iff.mp hx).1
     walk_at "g"
     refine tyL fi ?_
     walk_at "g"
     refine ⟨_, r, x, hi, e, rfl, oi.T, g2.mono si, wi, ?_⟩
     cases q : app1 hi e with
     | error x =>
       obtain ⟨w1, n1⟩ := x
       rw [appAll_stop he ai q] at hq
       exact hq.mono si
     | ok h' =>
       intro u H2 s3 tu
       walk_at "g"
       refine q_append (s3 _ _ fi) (len_small (by omega)) ?_
       have nf : ∀ b, (H b = none ∧ H1 b ≠ none) → b ≠ f := fun b e z => e.2 (by rw [z]; exact hf)
       have o3 := (oi.mono s3).keep (keeps_upd (p := f) (o := .lst (ys ++ [u]))) (nt_of (s3 _ _ fi) (fun _ z => nomatch z) fun _ _ z => nomatch z) nf
       have t3 : Ts K (upd H2 f (.lst (ys ++ [u]))) ff (ys ++ [u]) ((invs (cpH h) (es.take (i + 1))).map Ed.tr) := by
         rw [invs_more he ai, List.map_append]
         exact ((ti.mono s3).append (.cons tu .nil)).upd (s3 _ _ fi) (fun _ z => nomatch z) (fun _ _ z => nomatch z) fun _ z => z.elim
       have sf : Same H (upd H2 f (.lst (ys ++ [u]))) := fun z o ez => by
         rw [upd_ne (ne_of_none ez hf0)]
         exact s3 _ _ (si z o ez)
       walk_at "g"
       refine ⟨_, r, x, hi, e, rfl, o3, g2.mono sf, wi, fun p hp => Nat.le_trans (fti p hp) (by omega), ?_⟩
       rw [q]
       intro q' es1 es2 nq eq o'
       have nqf : f ≠ q' := (nf q' nq).symm
       refine ⟨_, h', ys ++ [u], rfl, ?_, ?_, o', ?_, ?_, ?_⟩
       · intro z o ez
         rw [upd_ne (ne_of_none ez nq.1)]
         exact sf z o ez
       · rw [appAll_more he ai, q]
       · rw [upd_ne nqf, upd_same]
       · exact t3.upd eq (fun _ z => nomatch z) (fun _ _ z => nomatch z) fun _ z => z.elim
       · rw [List.length_append, li]
         rfl
   · rintro σ Hi ⟨v, hi, ys, rfl, si, ai, oi, fi, ti, li⟩
     rw [hlen, List.take_length] at ai ti
     rw [ai] at hq
     walk_at "g"
     refine q_rev ?_
     walk_at "g"
     refine ⟨f, ys, rfl, .inl (.inl fi), fun p hp => ?_⟩
     have s3 := same_new (o := .lst ys.reverse) hp
     refine hq p _ ys.reverse (si.trans s3) (si.free hp) upd_same ?_
     rw [List.map_reverse]
     exact (ti.mono s3).rev
  case len =>
   obtain ⟨N, a, b, h, xs, es, rfl, _⟩ := h
   rfl
/-- entry_in(house, key, name) -/
def spEI (K : PySem.W.Frag) (C : Addr) : Sp := fun vs H Q E => ∃ (N : Addr → Prop) (a : Addr) (k n : Str) (h : Hs), vs = [.ref a, .str k, .str n] ∧ T K H N (.ref a) (.dic (hK h)) ∧ Wf h ∧
  match lk h k with
  | some t => ∀ u H', Same H H' → T K H' ff u (match lk t n with | some d => .tup [.bl true, d] | none => .tup [.bl false, .non]) → Q u H'
  | none => XUnk C "table" k H E
/-- apply_edits(house, []), where nothing is raised -/
def spAE0 (K : PySem.W.Frag) : Sp := fun vs H Q _ => ∃ (N : Addr → Prop) (a b : Addr) (h : Hs), vs = [.ref a, .ref b] ∧ T K H N (.ref a) (.dic (hK h)) ∧ H b = some (.lst []) ∧ Wf h ∧ Fits 60 h ∧ h.length ≤ 900 ∧ ∀ r H', Same H H' → Own K (fun b => H b = none) H' r (cpH (cpH h)) → Q (.ref r) H'
theorem dh_apply_edits (B : Bt mg) (F : TopF K mg "apply_edits" s_apply_edits ["house", "edits"]) (H_copy_house : DfH P w K mg base "copy_house" ["house"] 1 (spCH K)) : DfH P w K mg base "apply_edits" ["house", "edits"] 6 (spAE0 K) := by
  refine F.dfH sc_apply_edits (fun vs H Q E h => ?len) (fun f cdv A outer s H vs Q E pin hr hC h => ?body)
  case body =>
   have hu := hr.units
   refine ⟨_, (pss_cons (ps_set (i := 2) sc_apply_edits.nd rfl (Or.inl rfl) (pe_dfH H_copy_house (hr.mono (by decide)) hC (pa_cons (pv 0) pa_nil)))
      (pss_cons (ps_lockU (ps_forH (passes_of rfl) hC (k_walkH (K := K) rfl (pv 1)) (pg_name (i := 3) sc_apply_edits.nd rfl (Or.inl rfl))
      (pss_one (ps_expr TU.pe_never))))
      (pss_one (ps_ret (pe_dfH H_copy_house (hr.mono (by decide)) hC (pa_cons (pv 2) pa_nil)))))), ?_⟩
   obtain ⟨N, a, b, h, rfl, ha, hb, wf, fit, hl, hq⟩ := h
   walk_at "g"
   refine ⟨N, a, h, rfl, ha, wf, fit, hl, fun r H1 s1 o1 => ?_⟩
   walk_at "g"
   refine .inl ?_
   walk_at "g"
   refine q_items ?_
   walk_at "g"
   refine q_itemsE (xs := []) (.inl (.inl (s1 _ _ hb))) ?_
   refine for_items (xs := []) (fun i σ Hk => σ = [some (.ref a), some (.ref b), some (.ref r), none] ∧ Hk = H1) ⟨rfl, rfl⟩ ?_ ?_ ?_
   · rintro i σ Hk _ ⟨rfl, rfl⟩
     exact .inl (.inl (s1 _ _ hb))
   · rintro i x σ Hk hx
     simp at hx
   · rintro σ Hk ⟨rfl, rfl⟩
     walk_at "g"
     exact ⟨_, r, cpH h, rfl, o1.T, wf.cp, fit.cp, by rw [len_cp]; exact hl, fun r2 H2 s2 o2 => hq r2 H2 (s1.trans s2) (o2.imp fun b e => s1.free e)⟩
  case len =>
   obtain ⟨N, a, b, h, rfl, _⟩ := h
   rfl

/-- History.__init__(self, house) -/
def spHI (C : Addr) (K : PySem.W.Frag) : Sp := fun vs H Q _ => ∃ (N : Addr → Prop) (p dx a : Addr) (h : Hs), vs = [.ref p, .ref a] ∧ H p = some (.ins C dx []) ∧ T K H N (.ref a) (.dic (hK h)) ∧ (∀ z, N z → z ≠ p) ∧ Wf h ∧ Fits 60 h ∧ h.length ≤ 900 ∧
  ∀ H', Kp p H H' → HiAt C K (fun z => H z = none) H' p [⟨cpH h, "", []⟩] 0 → Q .non H'
theorem sc_History___init : FnScope ["self", "house"] ["self", "house"] (defScope s_History___init) := ⟨rfl, rfl, rfl, by decide +kernel, rfl, by decide +kernel, by decide +kernel⟩
theorem d_History___init (B : Bt mg) (F : TopM K C_History "__init__" "History.__init__" s_History___init ["self", "house"]) (Kl_History : Kl K mg "History" C_History ["houses", "labels", "lists", "now"]) (D_copy_house : Df P w K mg base "copy_house" ["house"] 1 (spCH K)) : Dm P w K mg base C_History "__init__" ["self", "house"] 2 (spHI C_History K) := by
  refine F.dm sc_History___init (fun vs H Q E h => ?len) (fun f cdv A outer s H vs Q E hr h => ?body)
  case body =>
   have hu := hr.units
   refine ⟨_, (pss_cons (k_sfld (K := K) rfl (pv 0) (pe_lst (pa_cons (pe_df D_copy_house (hr.mono (by decide)) (fun σ => passAt (takes_of rfl rfl rfl rfl) σ) (pa_cons (pv 1) pa_nil)) pa_nil)) rfl)
      (pss_cons (k_sfld (K := K) rfl (pv 0) (pe_lst (pa_cons pe_str pa_nil)) rfl)
      (pss_cons (k_sfld (K := K) rfl (pv 0) (pe_lst (pa_cons (pe_lst pa_nil) pa_nil)) rfl)
      (pss_one (k_sfld (K := K) rfl (pv 0) pe_int rfl))))), ?_⟩
   obtain ⟨N, p, dx, a, h, rfl, hp, ha, hN, wf, fit, hl, hq⟩ := h
   walk_at "g"
   refine ⟨N, a, h, rfl, ha, wf, fit, hl, fun r H1 s1 o1 => ?_⟩
   walk_at "g"
   intro lh hlh
   have s2 := same_new (o := .lst [.ref r]) hlh
   have s12 := s1.trans s2
   walk_at "g"
   have e2 := s12 _ _ hp
   have kp2 : Kp p H (upd H1 lh (.lst [.ref r])) := Kp.of s12
   have el2 : (upd H1 lh (.lst [.ref r])) lh = some (.lst [.ref r]) := upd_same
   have lhp : lh ≠ p := (ne_of_none (s1 _ _ hp) hlh).symm
   have lhH : H lh = none := s1.free hlh
   have o2 := o1.mono s2
   generalize upd H1 lh (.lst [.ref r]) = H2 at e2 kp2 el2 o2
   refine q_sfldE Kl_History e2 (by simp) (by decide) ?_
   have nt : ∀ {Hx : Hp} {fs : List (Str × V)} {o : HO}, Hx p = some (.ins C_History dx fs) → ∀ z xs, z = p → ¬ Rd Hx z (.tup xs) := fun e => nt_of e (fun _ z => nomatch z) fun _ _ z => nomatch z
   have rp : ∀ z, H z = none → z ≠ p := fun z e c => by
     rw [c, hp] at e
     cases e
   have o3 := o2.keep (keeps_upd (p := p) (o := .ins C_History dx (putF "houses" (.ref lh) []))) (nt (o := .tup []) e2) rp
   have e3 : (upd H2 p (.ins C_History dx (putF "houses" (.ref lh) []))) p = some (.ins C_History dx (putF "houses" (.ref lh) [])) := upd_same
   have kp3 : Kp p H (upd H2 p (.ins C_History dx (putF "houses" (.ref lh) []))) := kp2.trans Kp.upd
   have el3 : (upd H2 p (.ins C_History dx (putF "houses" (.ref lh) []))) lh = some (.lst [.ref r]) := by rw [upd_ne lhp]; exact el2
   generalize upd H2 p (.ins C_History dx (putF "houses" (.ref lh) [])) = H3 at e3 kp3 el3 o3
   walk_at "g"
   intro ll hll
   have s4 := same_new (o := .lst [.str ""]) hll
   have llp : ll ≠ p := (ne_of_none e3 hll).symm
   have llH : H ll = none := kp3.fresh e3 hll
   have llh : lh ≠ ll := ne_of_none el3 hll
   walk_at "g"
   refine q_sfldE Kl_History (s4 _ _ e3) (by simp) (putF_small (n := 0) (Nat.le_refl _) (by decide)) ?_
   have e5 : (upd (upd H3 ll (.lst [.str ""])) p (.ins C_History dx (putF "labels" (.ref ll) (putF "houses" (.ref lh) [])))) p = some (.ins C_History dx (putF "labels" (.ref ll) (putF "houses" (.ref lh) []))) := upd_same
   have kp5 : Kp p H (upd (upd H3 ll (.lst [.str ""])) p (.ins C_History dx (putF "labels" (.ref ll) (putF "houses" (.ref lh) [])))) := (kp3.trans (Kp.of s4)).trans Kp.upd
   have el5 : (upd (upd H3 ll (.lst [.str ""])) p (.ins C_History dx (putF "labels" (.ref ll) (putF "houses" (.ref lh) [])))) lh = some (.lst [.ref r]) := by rw [upd_ne lhp]; exact s4 _ _ el3
   have eb5 : (upd (upd H3 ll (.lst [.str ""])) p (.ins C_History dx (putF "labels" (.ref ll) (putF "houses" (.ref lh) [])))) ll = some (.lst [.str ""]) := by rw [upd_ne llp]; exact upd_same
   have o5 := (o3.mono s4).keep (keeps_upd (p := p) (o := .ins C_History dx (putF "labels" (.ref ll) (putF "houses" (.ref lh) [])))) (nt (o := .tup []) (s4 _ _ e3)) rp
   generalize upd (upd H3 ll (.lst [.str ""])) p (.ins C_History dx (putF "labels" (.ref ll) (putF "houses" (.ref lh) []))) = H5 at e5 kp5 el5 eb5 o5
   walk_at "g"
   intro l0 hl0
   have s6 := same_new (o := .lst []) hl0
   have l0p : l0 ≠ p := (ne_of_none e5 hl0).symm
   have l0H : H l0 = none := kp5.fresh e5 hl0
   walk_at "g"
   intro le hle
   have s7 := same_new (o := .lst [.ref l0]) hle
   have s67 := s6.trans s7
   have lep : le ≠ p := (ne_of_none (s6 _ _ e5) hle).symm
   have leH : H le = none := kp5.fresh e5 (s6.free hle)
   have l0e : l0 ≠ le := ne_of_none (H := upd H5 l0 (.lst [])) upd_same hle
   walk_at "g"
   refine q_sfldE Kl_History (s67 _ _ e5) (by simp) (putF_small (n := 1) (length_putF _ _ _) (by decide)) ?_
   walk_at "g"
   refine q_sfldE Kl_History upd_same (by simp) (putF_small (n := 2) (Nat.le_trans (length_putF _ _ _) (Nat.succ_le_succ (length_putF _ _ _))) (by decide)) ?_
   refine hq _ (((kp5.trans (Kp.of s67)).trans Kp.upd).trans Kp.upd) ⟨⟨dx, lh, ll, le, [.ref r], [.ref l0], ?_, lhH, llH, leH, ?_, ?_, ?_, ?_, ?_⟩, Nat.zero_lt_one, (show 1 ≤ 401 by decide)⟩
   · rw [upd_same, hfs_new]
     rfl
   · rw [upd_ne lhp, upd_ne lhp]
     exact s67 _ _ el5
   · have o8 := ((o5.mono s67).keep (keeps_upd (p := p) (o := .ins C_History dx (putF "lists" (.ref le) (putF "labels" (.ref ll) (putF "houses" (.ref lh) []))))) (nt (o := .tup []) (s67 _ _ e5)) rp).keep (keeps_upd (p := p) (o := .ins C_History dx (putF "now" (.int 0) (putF "lists" (.ref le) (putF "labels" (.ref ll) (putF "houses" (.ref lh) [])))))) (nt (o := .tup []) upd_same) rp
     exact .cons o8.T .nil
   · rw [upd_ne llp, upd_ne llp]
     exact s67 _ _ eb5
   · rw [upd_ne lep, upd_ne lep]
     exact upd_same
   · refine .cons l0H ?_ .nil .nil
     rw [upd_ne l0p, upd_ne l0p]
     exact s7 _ _ upd_same
  case len =>
   obtain ⟨N, p, dx, a, h, rfl, _⟩ := h
   rfl

/-- History.check_version(self, version) -/
def spCV (C CS : Addr) (K : PySem.W.Frag) : Sp := fun vs H Q E => ∃ (N : Addr → Prop) (p : Addr) (v : Int) (vl : List Ver) (now : Nat), vs = [.ref p, .int v] ∧ HiAt C K N H p vl now ∧ ((0 ≤ v ∧ v < vl.length) → Q .non H) ∧ (¬ (0 ≤ v ∧ v < vl.length) → XSt CS v H E)
theorem sc_History_check_version : FnScope ["self", "version"] ["self", "version"] (defScope s_History_check_version) := ⟨rfl, rfl, rfl, by decide +kernel, rfl, by decide +kernel, by decide +kernel⟩
theorem d_History_check_version (B : Bt mg) (F : TopM K C_History "check_version" "History.check_version" s_History_check_version ["self", "version"]) (Kl_History : Kl K mg "History" C_History ["houses", "labels", "lists", "now"]) (X_Stale : Xc P w K mg base "Stale" ["version"] C_Stale) : Dm P w K mg base C_History "check_version" ["self", "version"] 3 (spCV C_History C_Stale K) := by
  refine F.dm sc_History_check_version (fun vs H Q E h => ?len) (fun f cdv A outer s H vs Q E hr h => ?body)
  case body =>
   have hu := hr.units
   refine ⟨_, (pss_one (ps_if (pt_not (pt_chain op_le op_lt pe_int (pv 1) (pe_callB (k_len (K := K) rfl) (by rfl) B.b_len (by decide +kernel) (pa_cons (k_fld (K := K) rfl (pv 0) rfl) pa_nil))))
      (pss_one (ps_rz rfl X_Stale (hr.mono (by decide)) (takes_of rfl rfl rfl rfl) (pa_cons (pv 1) pa_nil)))
      pss_nil)), ?_⟩
   obtain ⟨N, p, v, vl, now, rfl, hh, h1, h2⟩ := h
   obtain ⟨dx, lh, ll, le, xh, xe, e1, n1, n2, n3, eh, th, eb, el, te⟩ := hh.ex
   have xl : xh.length = vl.length := by rw [th.length]; exact List.length_map _
   walk_at "g"
   refine q_dec (fun c => ?_) (fun c => ?_)
   · walk_at "g"
     refine q_fldE Kl_History e1 (by simp) hfs_h ?_
     walk_at "g"
     refine q_lenL (.inl (.inl eh)) ?_
     walk_at "g"
     rw [xl]
     refine q_ndec (fun c2 => ?_) (fun c2 => ?_)
     · walk_at "g"
       exact q_mk rfl fun d H' s _ hd => h2 (fun z => c2 z.2) d H' s hd
     · walk_at "g"
       exact h1 ⟨c, c2⟩
   · walk_at "g"
     exact q_mk rfl fun d H' s _ hd => h2 (fun z => c z.1) d H' s hd
  case len =>
   obtain ⟨N, p, v, vl, now, rfl, _⟩ := h
   rfl
/-- History.count(self) -/
def spHn (C : Addr) (K : PySem.W.Frag) : Sp := fun vs H Q _ => ∃ (N : Addr → Prop) (p : Addr) (vl : List Ver) (now : Nat), vs = [.ref p] ∧ HiAt C K N H p vl now ∧ Q (.int vl.length) H
theorem sc_History_count : FnScope ["self"] ["self"] (defScope s_History_count) := ⟨rfl, rfl, rfl, by decide +kernel, rfl, by decide +kernel, by decide +kernel⟩
theorem d_History_count (B : Bt mg) (F : TopM K C_History "count" "History.count" s_History_count ["self"]) (Kl_History : Kl K mg "History" C_History ["houses", "labels", "lists", "now"]) : Dm P w K mg base C_History "count" ["self"] 1 (spHn C_History K) := by
  refine F.dm sc_History_count (fun vs H Q E h => ?len) (fun f cdv A outer s H vs Q E hr h => ?body)
  case body =>
   have hu := hr.units
   refine ⟨_, (pss_one (ps_ret (pe_callB (k_len (K := K) rfl) (by rfl) B.b_len (by decide +kernel) (pa_cons (k_fld (K := K) rfl (pv 0) rfl) pa_nil)))), ?_⟩
   obtain ⟨N, p, vl, now, rfl, hh, hq⟩ := h
   obtain ⟨dx, lh, ll, le, xh, xe, e1, n1, n2, n3, eh, th, eb, el, te⟩ := hh.ex
   have xl : xh.length = vl.length := by rw [th.length]; exact List.length_map _
   walk_at "g"
   refine q_fldE Kl_History e1 (by simp) hfs_h ?_
   walk_at "g"
   refine q_lenL (.inl (.inl eh)) ?_
   rw [xl]
   exact hq
  case len =>
   obtain ⟨N, p, vl, now, rfl, _⟩ := h
   rfl
theorem dh_History_count (B : Bt mg) (F : TopM K C_History "count" "History.count" s_History_count ["self"]) (Kl_History : Kl K mg "History" C_History ["houses", "labels", "lists", "now"]) : DmH P w K mg base C_History "count" ["self"] 1 (spHn C_History K) := by
  refine F.dmH sc_History_count (fun vs H Q E h => ?len) (fun f cdv A outer s H vs Q E pin hr hC h => ?body)
  case body =>
   have hu := hr.units
   refine ⟨_, (pss_one (ps_ret (pe_callB (k_len (K := K) rfl) (by rfl) B.b_len (by decide +kernel) (pa_cons (k_fld (K := K) rfl (pv 0) rfl) pa_nil)))), ?_⟩
   obtain ⟨N, p, vl, now, rfl, hh, hq⟩ := h
   obtain ⟨dx, lh, ll, le, xh, xe, e1, n1, n2, n3, eh, th, eb, el, te⟩ := hh.ex
   have xl : xh.length = vl.length := by rw [th.length]; exact List.length_map _
   walk_at "g"
   refine q_fldE Kl_History e1 (by simp) hfs_h ?_
   walk_at "g"
   refine q_lenL (.inl (.inl eh)) ?_
   rw [xl]
   exact hq
  case len =>
   obtain ⟨N, p, vl, now, rfl, _⟩ := h
   rfl
/-- History.house_at(self, version) -/
def spHA (C CS : Addr) (K : PySem.W.Frag) : Sp := fun vs H Q E => ∃ (N : Addr → Prop) (p : Addr) (v : Int) (vl : List Ver) (now : Nat), vs = [.ref p, .int v] ∧ HiAt C K N H p vl now ∧ (∀ u ∈ vl, VOk u) ∧
  (∀ i u, v = (i : Nat) → vl[i]? = some u → ∀ r H', Same H H' → Own K (fun b => H b = none) H' r (cpH u.h) → Q (.ref r) H') ∧ (¬ (0 ≤ v ∧ v < vl.length) → XSt CS v H E)
theorem sc_History_house_at : FnScope ["self", "version"] ["self", "version"] (defScope s_History_house_at) := ⟨rfl, rfl, rfl, by decide +kernel, rfl, by decide +kernel, by decide +kernel⟩
theorem d_History_house_at (B : Bt mg) (F : TopM K C_History "house_at" "History.house_at" s_History_house_at ["self", "version"]) (Kl_History : Kl K mg "History" C_History ["houses", "labels", "lists", "now"]) (D_copy_house : Df P w K mg base "copy_house" ["house"] 1 (spCH K)) (D_History_check_version : Dm P w K mg base C_History "check_version" ["self", "version"] 3 (spCV C_History C_Stale K)) : Dm P w K mg base C_History "house_at" ["self", "version"] 4 (spHA C_History C_Stale K) := by
  refine F.dm sc_History_house_at (fun vs H Q E h => ?len) (fun f cdv A outer s H vs Q E hr h => ?body)
  case body =>
   have hu := hr.units
   refine ⟨_, (pss_cons (ps_expr (pe_dm (pv 0) Kl_History D_History_check_version (hr.mono (by decide)) (fun σ => passAt (takes_of rfl rfl rfl rfl) σ) (pa_cons (pv 1) pa_nil)))
      (pss_one (ps_ret (pe_df D_copy_house (hr.mono (by decide)) (fun σ => passAt (takes_of rfl rfl rfl rfl) σ) (pa_cons (pe_ix (k_ix (K := K) rfl hu) (k_fld (K := K) rfl (pv 0) rfl) (pv 1) (fun _ _ => rfl)) pa_nil))))), ?_⟩
   obtain ⟨N, p, v, vl, now, rfl, hh, ok, h1, h2⟩ := h
   obtain ⟨dx, lh, ll, le, xh, xe, e1, n1, n2, n3, eh, th, eb, el, te⟩ := hh.ex
   walk_at "g"
   refine ⟨p, dx, _, rfl, e1, hfs_no (by decide +kernel), ?_⟩
   walk_at "g"
   refine ⟨N, p, v, vl, now, rfl, hh, fun hv => ?_, fun hv => h2 hv⟩
   obtain ⟨i, rfl⟩ : ∃ i : Nat, v = i := ⟨v.toNat, by omega⟩
   have hi : i < vl.length := by omega
   have eu := List.getElem?_eq_getElem hi
   obtain ⟨x, ex, tx⟩ := th.get' (i := i) (d := .dic (hK vl[i].h)) (by unfold vH; rw [List.getElem?_map, eu]; rfl)
   have vk := ok _ (List.getElem_mem hi)
   walk_at "g"
   refine q_fldE Kl_History e1 (by simp) hfs_h ?_
   walk_at "g"
   refine q_ixL (.inl (.inl eh)) (atI_nat ex) ?_
   walk_at "g"
   obtain ⟨a, kvs, rfl, _⟩ := tx.dicAt
   refine ⟨N, a, _, rfl, tx, vk.wf, fun q hq => Nat.le_trans (vk.fit q hq) (by decide), Nat.le_trans vk.len (by decide), fun r H' s o => h1 i _ rfl eu r H' s o⟩
  case len =>
   obtain ⟨N, p, v, vl, now, rfl, _⟩ := h
   rfl
/-- History.undo(self), where there is something to undo -/
def spHU (C : Addr) (K : PySem.W.Frag) : Sp := fun vs H Q _ => ∃ (N : Addr → Prop) (p : Addr) (vl : List Ver) (m : Nat), vs = [.ref p] ∧ HiAt C K N H p vl (m + 1) ∧ (∀ z, N z → z ≠ p) ∧ ∀ H', Kp p H H' → HiAt C K N H' p vl m → Q (.int m) H'
theorem sc_History_undo : FnScope ["self"] ["self"] (defScope s_History_undo) := ⟨rfl, rfl, rfl, by decide +kernel, rfl, by decide +kernel, by decide +kernel⟩
theorem dh_History_undo (B : Bt mg) (F : TopM K C_History "undo" "History.undo" s_History_undo ["self"]) (Kl_History : Kl K mg "History" C_History ["houses", "labels", "lists", "now"]) : DmH P w K mg base C_History "undo" ["self"] 1 (spHU C_History K) := by
  refine F.dmH sc_History_undo (fun vs H Q E h => ?len) (fun f cdv A outer s H vs Q E pin hr hC h => ?body)
  case body =>
   have hu := hr.units
   refine ⟨_, (pss_cons (ps_if (pt_cmpR (k_eq (K := K) rfl hu) (k_fld (K := K) rfl (pv 0) rfl) pe_int (nomark _))
      (pss_one TU.ps_never)
      pss_nil)
      (pss_cons (k_sfld (K := K) rfl (pv 0) (pe_op op_sub (k_fld (K := K) rfl (pv 0) rfl) pe_int) rfl)
      (pss_one (ps_ret (k_fld (K := K) rfl (pv 0) rfl))))), ?_⟩
   obtain ⟨N, p, vl, m, rfl, hh, hN, hq⟩ := h
   have hh0 := hh
   obtain ⟨dx, lh, ll, le, xh, xe, e1, n1, n2, n3, eh, th, eb, el, te⟩ := hh.ex
   walk_at "g"
   refine q_fldE Kl_History e1 (by simp) hfs_n ?_
   walk_at "g"
   refine q_dec (fun c => absurd c (by omega)) (fun c => ?_)
   walk_at "g"
   refine q_fldE Kl_History e1 (by simp) hfs_n ?_
   walk_at "g"
   refine q_sfldE Kl_History e1 (by simp) (show 4 < 1000 by decide) ?_
   walk_at "g"
   refine q_fldE Kl_History upd_same (by simp) (by rw [hfs_sn]; exact hfs_n) ?_
   rw [show ((m + 1 : Nat) : Int) - 1 = (m : Int) by omega]
   have nt : ∀ z xs, z = p → ¬ Rd H z (.tup xs) := nt_of e1 (fun _ z => nomatch z) fun _ _ z => nomatch z
   have lt := hh0.lt
   refine hq _ Kp.upd ⟨⟨dx, lh, ll, le, xh, xe, by rw [upd_same, hfs_sn], n1, n2, n3, ?_, th.keep keeps_upd nt fun z n => ⟨n, hN z n⟩, ?_, ?_, te.keep keeps_upd nt fun z n => ⟨n, hN z n⟩⟩, by omega, hh0.few⟩
   · rw [upd_ne (hN _ n1)]
     exact eh
   · rw [upd_ne (hN _ n2)]
     exact eb
   · rw [upd_ne (hN _ n3)]
     exact el
  case len =>
   obtain ⟨N, p, vl, m, rfl, _⟩ := h
   rfl
/-- History.commit(self, edits, label) -/
def spHC (C CU CT : Addr) (K : PySem.W.Frag) : Sp := fun vs H Q E => ∃ (N : Addr → Prop) (p b : Addr) (lb : Str) (vl : List Ver) (now : Nat) (u : Ver) (xs : List V) (es : List Ed), vs = [.ref p, .ref b, .str lb] ∧ HiAt C K N H p vl now ∧ (∀ z, N z → z ≠ p) ∧ vl[now]? = some u ∧ VOk u ∧
  H b = some (.lst xs) ∧ Ts K H ff xs (es.map Ed.tr) ∧ (∀ e ∈ es, e.Imm) ∧ es.length ≤ 30 ∧
  (now + 2 ≤ 401 → match appAll (cpH u.h) es with
    | .ok f => ∀ H', Kp p H H' → HiAt C K (fun z => N z ∨ H z = none) H' p (vl.take (now + 1) ++ [⟨cpH f, lb, es⟩]) (now + 1) → Q (.int (now + 1 : Nat)) H'
    | .error (w, n) => XUnk CU w n H E) ∧ (¬ now + 2 ≤ 401 → XTm CT H E)
theorem sc_History_commit : FnScope ["self", "edits", "label", "house", "behind"] ["self", "edits", "label"] (defScope s_History_commit) := ⟨rfl, rfl, rfl, by decide +kernel, rfl, by decide +kernel, by decide +kernel⟩
theorem dn_History_commit (B : Bt mg) (F : TopM K C_History "commit" "History.commit" s_History_commit ["self", "edits", "label"]) (G_MOST_VERSIONS : ∃ t, mg "MOST_VERSIONS" = some (.int 401 t)) (Kl_History : Kl K mg "History" C_History ["houses", "labels", "lists", "now"]) (X_TooMany : Xc P w K mg base "TooMany" ["what", "limit"] C_TooMany) (N_apply_edits : DfN P w K mg base "apply_edits" ["house", "edits"] 6 (spAE K C_Unknown)) : DmN P w K mg base C_History "commit" ["self", "edits", "label"] 7 (spHC C_History C_Unknown C_TooMany K) := by
  refine F.dmN sc_History_commit (fun vs H Q E h => ?len) (fun f cdv A outer s H vs Q E hr h => ?body)
  case body =>
   have hu := hr.units
   refine ⟨_, (pss_cons (ps_if (pt_cmpR op_gt (pe_op (k_add (K := K) rfl) (k_fld (K := K) rfl (pv 0) rfl) pe_int) (pe_glob (v := .int 401) (by rfl) G_MOST_VERSIONS.choose_spec ⟨_, rfl⟩) (nomark _))
      (pss_one (ps_rzN rfl X_TooMany.n (hr.mono (by decide)) (L2N.takes_of rfl rfl rfl rfl) (pa_cons pe_str (pa_cons (pe_glob (v := .int 401) (by rfl) G_MOST_VERSIONS.choose_spec ⟨_, rfl⟩) pa_nil))))
      pss_nil)
      (pss_cons (ps_set (i := 3) sc_History_commit.nd rfl (Or.inl rfl) (pe_dfN N_apply_edits (hr.mono (by decide)) (fun σ => L2N.passAt (L2N.takes_of rfl rfl rfl rfl) σ) (pa_cons (pe_ix (k_ix (K := K) rfl hu) (k_fld (K := K) rfl (pv 0) rfl) (k_fld (K := K) rfl (pv 0) rfl) (fun _ _ => rfl)) (pa_cons (pv 1) pa_nil))))
      (pss_cons (ps_set (i := 4) sc_History_commit.nd rfl (Or.inl rfl) (pe_op (k_add (K := K) rfl) (k_fld (K := K) rfl (pv 0) rfl) pe_int))
      (pss_cons (k_sfld (K := K) rfl (pv 0) (pe_op (k_add (K := K) rfl) (pe_slice (k_sl (K := K) rfl) (k_fld (K := K) rfl (pv 0) rfl) po_none (po_some (pv 4))) (pe_lst (pa_cons (pv 3) pa_nil))) rfl)
      (pss_cons (k_sfld (K := K) rfl (pv 0) (pe_op (k_add (K := K) rfl) (pe_slice (k_sl (K := K) rfl) (k_fld (K := K) rfl (pv 0) rfl) po_none (po_some (pv 4))) (pe_lst (pa_cons (pv 2) pa_nil))) rfl)
      (pss_cons (k_sfld (K := K) rfl (pv 0) (pe_op (k_add (K := K) rfl) (pe_slice (k_sl (K := K) rfl) (k_fld (K := K) rfl (pv 0) rfl) po_none (po_some (pv 4))) (pe_lst (pa_cons (pe_callTy (k_list (K := K) rfl rfl) (by rfl) B.b_list (by decide +kernel) (pa_cons (pv 1) pa_nil)) pa_nil))) rfl)
      (pss_cons (k_sfld (K := K) rfl (pv 0) (pv 4) rfl)
      (pss_one (ps_ret (pv 4)))))))))), ?_⟩
   obtain ⟨N, p, b, lb, vl, now, u, xs, es, rfl, hh, hN, eu, vk, hs, ts, im, el30, h1, h2⟩ := h
   have hh0 := hh
   obtain ⟨dx, lh, ll, le, xh, xe, e1, n1, n2, n3, eh, th, eb, el, te⟩ := hh.ex
   have lt := hh0.lt
   have few := hh0.few
   have xl : xh.length = vl.length := by rw [th.length]; exact List.length_map _
   have xel : xe.length = vl.length := by rw [te.len]; exact List.length_map _
   walk_at "g"
   refine q_fldE Kl_History e1 (by simp) hfs_n ?_
   walk_at "g"
   refine q_dec (fun c => ?_) (fun c => ?_)
   · walk_at "g"
     exact q_mk rfl fun d H' s _ hd => h2 (by omega) d H' s hd
   · have h3 := h1 (by omega)
     walk_at "g"
     refine q_fldE Kl_History e1 (by simp) hfs_h ?_
     walk_at "g"
     refine q_fldE Kl_History e1 (by simp) hfs_n ?_
     obtain ⟨x, ex, tx⟩ := th.get' (i := now) (d := .dic (hK u.h)) (by unfold vH; rw [List.getElem?_map, eu]; rfl)
     refine q_ixL (.inl (.inl eh)) (atI_nat ex) ?_
     walk_at "g"
     obtain ⟨a, kvs, rfl, _⟩ := tx.dicAt
     refine ⟨N, a, b, u.h, xs, es, rfl, tx, .inl (.inl hs), ts, vk.wf, im, ⟨20, vk.fit, by omega⟩, Nat.le_trans vk.len (by decide), ?_⟩
     cases q : appAll (cpH u.h) es with
     | error x => 
       rw [q] at h3
       exact h3
     | ok f =>
       rw [q] at h3
       intro r H1 s1 o1
       have p1 := s1 _ _ e1
       walk_at "g"
       refine q_fldE Kl_History p1 (by simp) hfs_n ?_
       walk_at "g"
       refine q_fldE Kl_History p1 (by simp) hfs_h ?_
       walk_at "g"
       rw [show (now : Int) + 1 = ((now + 1 : Nat) : Int) by omega]
       refine q_slL (.inl (.inl (s1 _ _ eh))) fun l1 hl1 => ?_
       rw [cutV_to (by omega)]
       have s2 := same_new (o := .lst (xh.take (now + 1))) hl1
       walk_at "g"
       intro l2 hl2
       have s3 := same_new (o := .lst [.ref r]) hl2
       refine q_addL (s3 _ _ upd_same) upd_same ?_ fun lh' hlh' => ?_
       · rw [List.length_take]
         show _ + 1 ≤ _
         exact Nat.le_of_lt (len_small (by omega))
       have s4 := same_new (o := .lst (xh.take (now + 1) ++ [.ref r])) hlh'
       have s14 := s1.trans ((s2.trans s3).trans s4)
       have o4 := o1.mono ((s2.trans s3).trans s4)
       have kp4 : Kp p H (upd (upd (upd H1 l1 (.lst (xh.take (now + 1)))) l2 (.lst [.ref r])) lh' (.lst (xh.take (now + 1) ++ [.ref r]))) := Kp.of s14
       have p4 := s14 _ _ e1
       have eh4 : (upd (upd (upd H1 l1 (.lst (xh.take (now + 1)))) l2 (.lst [.ref r])) lh' (.lst (xh.take (now + 1) ++ [.ref r]))) lh' = some (.lst (xh.take (now + 1) ++ [.ref r])) := upd_same
       have lhH : H lh' = none := s1.free ((s2.trans s3).free hlh')
       have rp : ∀ z, H z = none → z ≠ p := fun z e c => by
         rw [c, e1] at e
         cases e
       generalize upd (upd (upd H1 l1 (.lst (xh.take (now + 1)))) l2 (.lst [.ref r])) lh' (.lst (xh.take (now + 1) ++ [.ref r])) = G4 at o4 kp4 p4 eh4
       clear s14 s4 s3 s2 hlh' hl2 hl1 p1 o1 s1
       have ntp : ∀ {Hx : Hp} {fs : List (Str × V)}, Hx p = some (.ins C_History dx fs) → ∀ z xs, z = p → ¬ Rd Hx z (.tup xs) := fun e => nt_of e (fun _ z => nomatch z) fun _ _ z => nomatch z
       walk_at "g"
       refine q_sfldE Kl_History p4 (by simp) (show 4 < 1000 by decide) ?_
       rw [hfs_sh]
       have o5 := o4.keep (keeps_upd (p := p) (o := .ins C_History dx (hfs (.ref lh') (.ref ll) (.ref le) (.int now)))) (ntp p4) rp
       have kp5 : Kp p H (upd G4 p (.ins C_History dx (hfs (.ref lh') (.ref ll) (.ref le) (.int now)))) := kp4.trans Kp.upd
       have p5 : (upd G4 p (.ins C_History dx (hfs (.ref lh') (.ref ll) (.ref le) (.int now)))) p = some (.ins C_History dx (hfs (.ref lh') (.ref ll) (.ref le) (.int now))) := upd_same
       have eh5 : (upd G4 p (.ins C_History dx (hfs (.ref lh') (.ref ll) (.ref le) (.int now)))) lh' = some (.lst (xh.take (now + 1) ++ [.ref r])) := by rw [upd_ne (rp _ lhH)]; exact eh4
       generalize upd G4 p (.ins C_History dx (hfs (.ref lh') (.ref ll) (.ref le) (.int now))) = G5 at o5 kp5 p5 eh5
       clear o4 kp4 p4 eh4
       -- labels
       walk_at "g"
       refine q_fldE Kl_History p5 (by simp) hfs_b ?_
       walk_at "g"
       refine q_slL (.inl (.inl (kp5 _ _ (hN _ n2) eb))) fun l3 hl3 => ?_
       rw [cutV_to (by unfold vB; rw [List.length_map]; omega)]
       have s6 := same_new (o := .lst ((vB vl).take (now + 1))) hl3
       walk_at "g"
       intro l4 hl4
       have s7 := same_new (o := .lst [.str lb]) hl4
       refine q_addL (s7 _ _ upd_same) upd_same ?_ fun ll' hll' => ?_
       · rw [List.length_take]
         show _ + 1 ≤ _
         exact Nat.le_of_lt (len_small (by omega))
       have s8 := same_new (o := .lst ((vB vl).take (now + 1) ++ [.str lb])) hll'
       have s58 := (s6.trans s7).trans s8
       have o8 := o5.mono s58
       have kp8 : Kp p H (upd (upd (upd G5 l3 (.lst ((vB vl).take (now + 1)))) l4 (.lst [.str lb])) ll' (.lst ((vB vl).take (now + 1) ++ [.str lb]))) := kp5.trans (Kp.of s58)
       have p8 := s58 _ _ p5
       have eh8 := s58 _ _ eh5
       have eb8 : (upd (upd (upd G5 l3 (.lst ((vB vl).take (now + 1)))) l4 (.lst [.str lb])) ll' (.lst ((vB vl).take (now + 1) ++ [.str lb]))) ll' = some (.lst ((vB vl).take (now + 1) ++ [.str lb])) := upd_same
       have llH : H ll' = none := kp5.fresh p5 ((s6.trans s7).free hll')
       generalize upd (upd (upd G5 l3 (.lst ((vB vl).take (now + 1)))) l4 (.lst [.str lb])) ll' (.lst ((vB vl).take (now + 1) ++ [.str lb])) = G8 at o8 kp8 p8 eh8 eb8
       clear s58 s8 s7 s6 hll' hl4 hl3 o5 kp5 p5 eh5
       walk_at "g"
       refine q_sfldE Kl_History p8 (by simp) (show 4 < 1000 by decide) ?_
       rw [hfs_sb]
       have o9 := o8.keep (keeps_upd (p := p) (o := .ins C_History dx (hfs (.ref lh') (.ref ll') (.ref le) (.int now)))) (ntp p8) rp
       have kp9 : Kp p H (upd G8 p (.ins C_History dx (hfs (.ref lh') (.ref ll') (.ref le) (.int now)))) := kp8.trans Kp.upd
       have p9 : (upd G8 p (.ins C_History dx (hfs (.ref lh') (.ref ll') (.ref le) (.int now)))) p = some (.ins C_History dx (hfs (.ref lh') (.ref ll') (.ref le) (.int now))) := upd_same
       have eh9 : (upd G8 p (.ins C_History dx (hfs (.ref lh') (.ref ll') (.ref le) (.int now)))) lh' = some (.lst (xh.take (now + 1) ++ [.ref r])) := by rw [upd_ne (rp _ lhH)]; exact eh8
       have eb9 : (upd G8 p (.ins C_History dx (hfs (.ref lh') (.ref ll') (.ref le) (.int now)))) ll' = some (.lst ((vB vl).take (now + 1) ++ [.str lb])) := by rw [upd_ne (rp _ llH)]; exact eb8
       generalize upd G8 p (.ins C_History dx (hfs (.ref lh') (.ref ll') (.ref le) (.int now))) = G9 at o9 kp9 p9 eh9 eb9
       clear o8 kp8 p8 eh8 eb8
       -- lists
       walk_at "g"
       refine q_fldE Kl_History p9 (by simp) hfs_l ?_
       walk_at "g"
       refine q_slL (.inl (.inl (kp9 _ _ (hN _ n3) el))) fun l5 hl5 => ?_
       rw [cutV_to (by omega)]
       have s10 := same_new (o := .lst (xe.take (now + 1))) hl5
       walk_at "g"
       have bp : b ≠ p := ne_of hs e1 fun z => nomatch z
       have hs10 := s10 _ _ (kp9 _ _ bp hs)
       refine q_listL (.inl (.inl hs10)) fun l6 hl6 => ?_
       have s11 := same_new (o := .lst xs) hl6
       have l6H : H l6 = none := kp9.fresh p9 (s10.free hl6)
       walk_at "g"
       intro l7 hl7
       have s12 := same_new (o := .lst [.ref l6]) hl7
       refine q_addL (s12 _ _ (s11 _ _ upd_same)) upd_same ?_ fun le' hle' => ?_
       · rw [List.length_take]
         show _ + 1 ≤ _
         exact Nat.le_of_lt (len_small (by omega))
       have s13 := same_new (o := .lst (xe.take (now + 1) ++ [.ref l6])) hle'
       have s9e := ((s10.trans s11).trans s12).trans s13
       have leH : H le' = none := kp9.fresh p9 (((s10.trans s11).trans s12).free hle')
       walk_at "g"
       refine q_sfldE Kl_History (s9e _ _ p9) (by simp) (show 4 < 1000 by decide) ?_
       rw [hfs_sl]
       walk_at "g"
       refine q_sfldE Kl_History upd_same (by simp) (show 4 < 1000 by decide) ?_
       rw [hfs_sn]
       walk_at "g"
       have kpe := (kp9.trans (Kp.of s9e)).trans ((Kp.upd (a := p) (o := .ins C_History dx (hfs (.ref lh') (.ref ll') (.ref le') (.int now)))).trans (Kp.upd (a := p) (o := .ins C_History dx (hfs (.ref lh') (.ref ll') (.ref le') (.int (now + 1 : Nat))))))
       have Np : ∀ z, N z → (N z ∨ H z = none) ∧ ¬ z = p := fun z n => ⟨.inl n, hN z n⟩
       have pts : ∀ {z : Addr} {o : HO}, z ≠ p → (upd (upd (upd (upd G9 l5 (.lst (xe.take (now + 1)))) l6 (.lst xs)) l7 (.lst [.ref l6])) le' (.lst (xe.take (now + 1) ++ [.ref l6]))) z = some o → (upd (upd (upd (upd (upd (upd G9 l5 (.lst (xe.take (now + 1)))) l6 (.lst xs)) l7 (.lst [.ref l6])) le' (.lst (xe.take (now + 1) ++ [.ref l6]))) p (.ins C_History dx (hfs (.ref lh') (.ref ll') (.ref le') (.int now)))) p (.ins C_History dx (hfs (.ref lh') (.ref ll') (.ref le') (.int (now + 1 : Nat))))) z = some o := fun n e => by
         rw [upd_ne n, upd_ne n]
         exact e
       refine h3 _ kpe ⟨⟨dx, lh', ll', le', xh.take (now + 1) ++ [.ref r], xe.take (now + 1) ++ [.ref l6], upd_same, .inr lhH, .inr llH, .inr leH, pts (rp _ lhH) (s9e _ _ eh9), ?_, ?_, pts (rp _ leH) upd_same, ?_⟩, ?_, ?_⟩
       · have e0 : vH (vl.take (now + 1) ++ [⟨cpH f, lb, es⟩]) = (vH vl).take (now + 1) ++ [.dic (hK (cpH f))] := by
           unfold vH
           rw [List.map_append, List.map_take]
           rfl
         rw [e0]
         have o10 := ((o9.mono s9e).keep (keeps_upd (p := p) (o := .ins C_History dx (hfs (.ref lh') (.ref ll') (.ref le') (.int now)))) (ntp (s9e _ _ p9)) rp).keep (keeps_upd (p := p) (o := .ins C_History dx (hfs (.ref lh') (.ref ll') (.ref le') (.int (now + 1 : Nat))))) (ntp upd_same) rp
         exact ((th.take (now + 1)).keep kpe (ntp e1) Np).append (.cons (o10.T.imp fun z e => .inr e) .nil)
       · have e0 : vB (vl.take (now + 1) ++ [⟨cpH f, lb, es⟩]) = (vB vl).take (now + 1) ++ [.str lb] := by
           unfold vB
           rw [List.map_append, List.map_take]
           rfl
         rw [e0]
         exact pts (rp _ llH) (s9e _ _ eb9)
       · have e0 : vL (vl.take (now + 1) ++ [⟨cpH f, lb, es⟩]) = (vL vl).take (now + 1) ++ [es] := by
           unfold vL
           rw [List.map_append, List.map_take]
           rfl
         rw [e0]
         refine ((te.take (now + 1)).keep kpe (ntp e1) Np).append (.cons (.inr l6H) (pts (rp _ l6H) ((s12.trans s13) _ _ upd_same)) ?_ .nil)
         exact ts.keep kpe (ntp e1) fun z c => c.elim
       · rw [List.length_append, List.length_take]
         show _ < _ + 1
         omega
       · rw [List.length_append, List.length_take]
         show _ + 1 ≤ _
         omega
  case len =>
   obtain ⟨N, p, b, lb, vl, now, u, xs, es, rfl, _⟩ := h
   rfl

/-- History.current(self) -/
def spHcur (C : Addr) (K : PySem.W.Frag) : Sp := fun vs H Q _ => ∃ (N : Addr → Prop) (p : Addr) (vl : List Ver) (now : Nat), vs = [.ref p] ∧ HiAt C K N H p vl now ∧ Q (.int now) H
theorem sc_History_current : FnScope ["self"] ["self"] (defScope s_History_current) := ⟨rfl, rfl, rfl, by decide +kernel, rfl, by decide +kernel, by decide +kernel⟩
theorem d_History_current (B : Bt mg) (F : TopM K C_History "current" "History.current" s_History_current ["self"]) (Kl_History : Kl K mg "History" C_History ["houses", "labels", "lists", "now"]) : Dm P w K mg base C_History "current" ["self"] 1 (spHcur C_History K) := by
  refine F.dm sc_History_current (fun vs H Q E h => ?len) (fun f cdv A outer s H vs Q E hr h => ?body)
  case body =>
   have hu := hr.units
   refine ⟨_, (pss_one (ps_ret (k_fld (K := K) rfl (pv 0) rfl))), ?_⟩
   obtain ⟨N, p, vl, now, rfl, hh, hq⟩ := h
   obtain ⟨dx, lh, ll, le, xh, xe, e1, n1, n2, n3, eh, th, eb, el, te⟩ := hh.ex
   walk_at "g"
   refine q_fldE Kl_History e1 (by simp) hfs_n ?_
   exact hq
  case len =>
   obtain ⟨N, p, vl, now, rfl, _⟩ := h
   rfl
theorem dh_History_current (B : Bt mg) (F : TopM K C_History "current" "History.current" s_History_current ["self"]) (Kl_History : Kl K mg "History" C_History ["houses", "labels", "lists", "now"]) : DmH P w K mg base C_History "current" ["self"] 1 (spHcur C_History K) := by
  refine F.dmH sc_History_current (fun vs H Q E h => ?len) (fun f cdv A outer s H vs Q E pin hr hC h => ?body)
  case body =>
   have hu := hr.units
   refine ⟨_, (pss_one (ps_ret (k_fld (K := K) rfl (pv 0) rfl))), ?_⟩
   obtain ⟨N, p, vl, now, rfl, hh, hq⟩ := h
   obtain ⟨dx, lh, ll, le, xh, xe, e1, n1, n2, n3, eh, th, eb, el, te⟩ := hh.ex
   walk_at "g"
   refine q_fldE Kl_History e1 (by simp) hfs_n ?_
   exact hq
  case len =>
   obtain ⟨N, p, vl, now, rfl, _⟩ := h
   rfl
/-- History.undo(self) -/
def spHU2 (C CE : Addr) (K : PySem.W.Frag) : Sp := fun vs H Q E => ∃ (N : Addr → Prop) (p : Addr) (vl : List Ver) (now : Nat), vs = [.ref p] ∧ HiAt C K N H p vl now ∧ (∀ z, N z → z ≠ p) ∧ (now = 0 → E (.ref CE) none H) ∧ ∀ m, now = m + 1 → ∀ H', Kp p H H' → HiAt C K N H' p vl m → Q (.int m) H'
theorem d_History_undo (B : Bt mg) (F : TopM K C_History "undo" "History.undo" s_History_undo ["self"]) (Kl_History : Kl K mg "History" C_History ["houses", "labels", "lists", "now"]) (X_NothingToUndo : X0 K mg "NothingToUndo" C_NothingToUndo) : Dm P w K mg base C_History "undo" ["self"] 1 (spHU2 C_History C_NothingToUndo K) := by
  refine F.dm sc_History_undo (fun vs H Q E h => ?len) (fun f cdv A outer s H vs Q E hr h => ?body)
  case body =>
   have hu := hr.units
   refine ⟨_, (pss_cons (ps_if (pt_cmpR (k_eq (K := K) rfl hu) (k_fld (K := K) rfl (pv 0) rfl) pe_int (nomark _))
      (pss_one (ps_rz0 rfl X_NothingToUndo (takes_of rfl rfl rfl rfl)))
      pss_nil)
      (pss_cons (k_sfld (K := K) rfl (pv 0) (pe_op op_sub (k_fld (K := K) rfl (pv 0) rfl) pe_int) rfl)
      (pss_one (ps_ret (k_fld (K := K) rfl (pv 0) rfl))))), ?_⟩
   obtain ⟨N, p, vl, now, rfl, hh, hN, h0, hq⟩ := h
   have hh0 := hh
   obtain ⟨dx, lh, ll, le, xh, xe, e1, n1, n2, n3, eh, th, eb, el, te⟩ := hh.ex
   walk_at "g"
   refine q_fldE Kl_History e1 (by simp) hfs_n ?_
   walk_at "g"
   refine q_dec (fun c => ?_) (fun c => ?_)
   · walk_at "g"
     exact h0 (by omega)
   obtain ⟨m, rfl⟩ : ∃ m, now = m + 1 := ⟨now - 1, by omega⟩
   walk_at "g"
   refine q_fldE Kl_History e1 (by simp) hfs_n ?_
   walk_at "g"
   refine q_sfldE Kl_History e1 (by simp) (show 4 < 1000 by decide) ?_
   walk_at "g"
   refine q_fldE Kl_History upd_same (by simp) (by rw [hfs_sn]; exact hfs_n) ?_
   rw [show ((m + 1 : Nat) : Int) - 1 = (m : Int) by omega]
   have nt : ∀ z xs, z = p → ¬ Rd H z (.tup xs) := nt_of e1 (fun _ z => nomatch z) fun _ _ z => nomatch z
   have lt := hh0.lt
   refine hq m rfl _ Kp.upd ⟨⟨dx, lh, ll, le, xh, xe, by rw [upd_same, hfs_sn], n1, n2, n3, ?_, th.keep keeps_upd nt fun z n => ⟨n, hN z n⟩, ?_, ?_, te.keep keeps_upd nt fun z n => ⟨n, hN z n⟩⟩, by omega, hh0.few⟩
   · rw [upd_ne (hN _ n1)]
     exact eh
   · rw [upd_ne (hN _ n2)]
     exact eb
   · rw [upd_ne (hN _ n3)]
     exact el
  case len =>
   obtain ⟨N, p, vl, now, rfl, _⟩ := h
   rfl
/-- History.redo(self) -/
def spHR (C CE : Addr) (K : PySem.W.Frag) : Sp := fun vs H Q E => ∃ (N : Addr → Prop) (p : Addr) (vl : List Ver) (now : Nat), vs = [.ref p] ∧ HiAt C K N H p vl now ∧ (∀ z, N z → z ≠ p) ∧ (now + 1 = vl.length → E (.ref CE) none H) ∧ (now + 1 < vl.length → ∀ H', Kp p H H' → HiAt C K N H' p vl (now + 1) → Q (.int (now + 1 : Nat)) H')
theorem sc_History_redo : FnScope ["self"] ["self"] (defScope s_History_redo) := ⟨rfl, rfl, rfl, by decide +kernel, rfl, by decide +kernel, by decide +kernel⟩
theorem d_History_redo (B : Bt mg) (F : TopM K C_History "redo" "History.redo" s_History_redo ["self"]) (Kl_History : Kl K mg "History" C_History ["houses", "labels", "lists", "now"]) (X_NothingToRedo : X0 K mg "NothingToRedo" C_NothingToRedo) : Dm P w K mg base C_History "redo" ["self"] 1 (spHR C_History C_NothingToRedo K) := by
  refine F.dm sc_History_redo (fun vs H Q E h => ?len) (fun f cdv A outer s H vs Q E hr h => ?body)
  case body =>
   have hu := hr.units
   refine ⟨_, (pss_cons (ps_if (pt_cmpR (k_eq (K := K) rfl hu) (pe_op (k_add (K := K) rfl) (k_fld (K := K) rfl (pv 0) rfl) pe_int) (pe_callB (k_len (K := K) rfl) (by rfl) B.b_len (by decide +kernel) (pa_cons (k_fld (K := K) rfl (pv 0) rfl) pa_nil)) (nomark _))
      (pss_one (ps_rz0 rfl X_NothingToRedo (takes_of rfl rfl rfl rfl)))
      pss_nil)
      (pss_cons (k_sfld (K := K) rfl (pv 0) (pe_op (k_add (K := K) rfl) (k_fld (K := K) rfl (pv 0) rfl) pe_int) rfl)
      (pss_one (ps_ret (k_fld (K := K) rfl (pv 0) rfl))))), ?_⟩
   obtain ⟨N, p, vl, now, rfl, hh, hN, h0, hq⟩ := h
   have hh0 := hh
   obtain ⟨dx, lh, ll, le, xh, xe, e1, n1, n2, n3, eh, th, eb, el, te⟩ := hh.ex
   have xl : xh.length = vl.length := by rw [th.length]; exact List.length_map _
   walk_at "g"
   refine q_fldE Kl_History e1 (by simp) hfs_n ?_
   walk_at "g"
   refine q_fldE Kl_History e1 (by simp) hfs_h ?_
   walk_at "g"
   refine q_lenL (.inl (.inl eh)) ?_
   walk_at "g"
   rw [xl]
   refine q_dec (fun c => ?_) (fun c => ?_)
   · walk_at "g"
     exact h0 (by omega)
   have lt := hh0.lt
   walk_at "g"
   refine q_fldE Kl_History e1 (by simp) hfs_n ?_
   walk_at "g"
   refine q_sfldE Kl_History e1 (by simp) (show 4 < 1000 by decide) ?_
   walk_at "g"
   refine q_fldE Kl_History upd_same (by simp) (by rw [hfs_sn]; exact hfs_n) ?_
   rw [show (now : Int) + 1 = ((now + 1 : Nat) : Int) by omega]
   have nt : ∀ z xs, z = p → ¬ Rd H z (.tup xs) := nt_of e1 (fun _ z => nomatch z) fun _ _ z => nomatch z
   refine hq (by omega) _ Kp.upd ⟨⟨dx, lh, ll, le, xh, xe, by rw [upd_same, hfs_sn], n1, n2, n3, ?_, th.keep keeps_upd nt fun z n => ⟨n, hN z n⟩, ?_, ?_, te.keep keeps_upd nt fun z n => ⟨n, hN z n⟩⟩, by omega, hh0.few⟩
   · rw [upd_ne (hN _ n1)]
     exact eh
   · rw [upd_ne (hN _ n2)]
     exact eb
   · rw [upd_ne (hN _ n3)]
     exact el
  case len =>
   obtain ⟨N, p, vl, now, rfl, _⟩ := h
   rfl
/-- History.label_at(self, version) -/
def spHL (C CS : Addr) (K : PySem.W.Frag) : Sp := fun vs H Q E => ∃ (N : Addr → Prop) (p : Addr) (v : Int) (vl : List Ver) (now : Nat), vs = [.ref p, .int v] ∧ HiAt C K N H p vl now ∧ (∀ i u, v = (i : Nat) → vl[i]? = some u → Q (.str u.lb) H) ∧ (¬ (0 ≤ v ∧ v < vl.length) → XSt CS v H E)
theorem sc_History_label_at : FnScope ["self", "version"] ["self", "version"] (defScope s_History_label_at) := ⟨rfl, rfl, rfl, by decide +kernel, rfl, by decide +kernel, by decide +kernel⟩
theorem d_History_label_at (B : Bt mg) (F : TopM K C_History "label_at" "History.label_at" s_History_label_at ["self", "version"]) (Kl_History : Kl K mg "History" C_History ["houses", "labels", "lists", "now"]) (D_History_check_version : Dm P w K mg base C_History "check_version" ["self", "version"] 3 (spCV C_History C_Stale K)) : Dm P w K mg base C_History "label_at" ["self", "version"] 4 (spHL C_History C_Stale K) := by
  refine F.dm sc_History_label_at (fun vs H Q E h => ?len) (fun f cdv A outer s H vs Q E hr h => ?body)
  case body =>
   have hu := hr.units
   refine ⟨_, (pss_cons (ps_expr (pe_dm (pv 0) Kl_History D_History_check_version (hr.mono (by decide)) (fun σ => passAt (takes_of rfl rfl rfl rfl) σ) (pa_cons (pv 1) pa_nil)))
      (pss_one (ps_ret (pe_ix (k_ix (K := K) rfl hu) (k_fld (K := K) rfl (pv 0) rfl) (pv 1) (fun _ _ => rfl))))), ?_⟩
   obtain ⟨N, p, v, vl, now, rfl, hh, h1, h2⟩ := h
   obtain ⟨dx, lh, ll, le, xh, xe, e1, n1, n2, n3, eh, th, eb, el, te⟩ := hh.ex
   walk_at "g"
   refine ⟨p, dx, _, rfl, e1, hfs_no (by decide +kernel), ?_⟩
   walk_at "g"
   refine ⟨N, p, v, vl, now, rfl, hh, fun hv => ?_, fun hv => h2 hv⟩
   obtain ⟨i, rfl⟩ : ∃ i : Nat, v = i := ⟨v.toNat, by omega⟩
   have hi : i < vl.length := by omega
   have eu := List.getElem?_eq_getElem hi
   walk_at "g"
   refine q_fldE Kl_History e1 (by simp) hfs_b ?_
   walk_at "g"
   refine q_ixL (.inl (.inl eb)) (atI_nat (by unfold vB; rw [List.getElem?_map, eu]; rfl)) ?_
   exact h1 i _ rfl eu
  case len =>
   obtain ⟨N, p, v, vl, now, rfl, _⟩ := h
   rfl
/-- History.edits_at(self, version) -/
def spHE (C CS : Addr) (K : PySem.W.Frag) : Sp := fun vs H Q E => ∃ (N : Addr → Prop) (p : Addr) (v : Int) (vl : List Ver) (now : Nat), vs = [.ref p, .int v] ∧ HiAt C K N H p vl now ∧
  (∀ i u, v = (i : Nat) → vl[i]? = some u → ∀ l H' zs, Same H H' → H l = none → H' l = some (.lst zs) → Ts K H' ff zs (u.es.map Ed.tr) → Q (.ref l) H') ∧ (¬ (0 ≤ v ∧ v < vl.length) → XSt CS v H E)
theorem sc_History_edits_at : FnScope ["self", "version"] ["self", "version"] (defScope s_History_edits_at) := ⟨rfl, rfl, rfl, by decide +kernel, rfl, by decide +kernel, by decide +kernel⟩
theorem d_History_edits_at (B : Bt mg) (F : TopM K C_History "edits_at" "History.edits_at" s_History_edits_at ["self", "version"]) (Kl_History : Kl K mg "History" C_History ["houses", "labels", "lists", "now"]) (D_History_check_version : Dm P w K mg base C_History "check_version" ["self", "version"] 3 (spCV C_History C_Stale K)) : Dm P w K mg base C_History "edits_at" ["self", "version"] 4 (spHE C_History C_Stale K) := by
  refine F.dm sc_History_edits_at (fun vs H Q E h => ?len) (fun f cdv A outer s H vs Q E hr h => ?body)
  case body =>
   have hu := hr.units
   refine ⟨_, (pss_cons (ps_expr (pe_dm (pv 0) Kl_History D_History_check_version (hr.mono (by decide)) (fun σ => passAt (takes_of rfl rfl rfl rfl) σ) (pa_cons (pv 1) pa_nil)))
      (pss_one (ps_ret (pe_callTy (k_list (K := K) rfl rfl) (by rfl) B.b_list (by decide +kernel) (pa_cons (pe_ix (k_ix (K := K) rfl hu) (k_fld (K := K) rfl (pv 0) rfl) (pv 1) (fun _ _ => rfl)) pa_nil))))), ?_⟩
   obtain ⟨N, p, v, vl, now, rfl, hh, h1, h2⟩ := h
   obtain ⟨dx, lh, ll, le, xh, xe, e1, n1, n2, n3, eh, th, eb, el, te⟩ := hh.ex
   walk_at "g"
   refine ⟨p, dx, _, rfl, e1, hfs_no (by decide +kernel), ?_⟩
   walk_at "g"
   refine ⟨N, p, v, vl, now, rfl, hh, fun hv => ?_, fun hv => h2 hv⟩
   obtain ⟨i, rfl⟩ : ∃ i : Nat, v = i := ⟨v.toNat, by omega⟩
   have hi : i < vl.length := by omega
   have eu := List.getElem?_eq_getElem hi
   obtain ⟨c, zs, g1, g2, g3, g4⟩ := te.at (i := i) (es := vl[i].es) (by unfold vL; rw [List.getElem?_map, eu]; rfl)
   walk_at "g"
   refine q_fldE Kl_History e1 (by simp) hfs_l ?_
   walk_at "g"
   refine q_ixL (.inl (.inl el)) (atI_nat g1) ?_
   walk_at "g"
   refine q_listL (.inl (.inl g3)) fun l hl => ?_
   have s := same_new (o := .lst zs) hl
   exact h1 i _ rfl eu l _ zs s hl upd_same (g4.mono s)
  case len =>
   obtain ⟨N, p, v, vl, now, rfl, _⟩ := h
   rfl
/-- History.standing(self) -/
def spHS (C : Addr) (K : PySem.W.Frag) : Sp := fun vs H Q _ => ∃ (N : Addr → Prop) (p : Addr) (vl : List Ver) (now : Nat) (u : Ver), vs = [.ref p] ∧ HiAt C K N H p vl now ∧ vl[now]? = some u ∧ VOk u ∧ ∀ r H', Same H H' → Own K (fun b => H b = none) H' r (cpH u.h) → Q (.ref r) H'
theorem sc_History_standing : FnScope ["self"] ["self"] (defScope s_History_standing) := ⟨rfl, rfl, rfl, by decide +kernel, rfl, by decide +kernel, by decide +kernel⟩
theorem d_History_standing (B : Bt mg) (F : TopM K C_History "standing" "History.standing" s_History_standing ["self"]) (Kl_History : Kl K mg "History" C_History ["houses", "labels", "lists", "now"]) (D_copy_house : Df P w K mg base "copy_house" ["house"] 1 (spCH K)) : Dm P w K mg base C_History "standing" ["self"] 2 (spHS C_History K) := by
  refine F.dm sc_History_standing (fun vs H Q E h => ?len) (fun f cdv A outer s H vs Q E hr h => ?body)
  case body =>
   have hu := hr.units
   refine ⟨_, (pss_one (ps_ret (pe_df D_copy_house (hr.mono (by decide)) (fun σ => passAt (takes_of rfl rfl rfl rfl) σ) (pa_cons (pe_ix (k_ix (K := K) rfl hu) (k_fld (K := K) rfl (pv 0) rfl) (k_fld (K := K) rfl (pv 0) rfl) (fun _ _ => rfl)) pa_nil)))), ?_⟩
   obtain ⟨N, p, vl, now, u, rfl, hh, eu, vk, hq⟩ := h
   obtain ⟨dx, lh, ll, le, xh, xe, e1, n1, n2, n3, eh, th, eb, el, te⟩ := hh.ex
   obtain ⟨x, ex, tx⟩ := th.get' (i := now) (d := .dic (hK u.h)) (by unfold vH; rw [List.getElem?_map, eu]; rfl)
   walk_at "g"
   refine q_fldE Kl_History e1 (by simp) hfs_h ?_
   walk_at "g"
   refine q_fldE Kl_History e1 (by simp) hfs_n ?_
   refine q_ixL (.inl (.inl eh)) (atI_nat ex) ?_
   walk_at "g"
   obtain ⟨a, kvs, rfl, _⟩ := tx.dicAt
   exact ⟨N, a, _, rfl, tx, vk.wf, fun q hq => Nat.le_trans (vk.fit q hq) (by decide), Nat.le_trans vk.len (by decide), hq⟩
  case len =>
   obtain ⟨N, p, vl, now, u, rfl, _⟩ := h
   rfl

/-- check_version of a version that is held -/
def spCVh (C : Addr) (K : PySem.W.Frag) : Sp := fun vs H Q _ => ∃ (N : Addr → Prop) (p : Addr) (v : Int) (vl : List Ver) (now : Nat), vs = [.ref p, .int v] ∧ HiAt C K N H p vl now ∧ 0 ≤ v ∧ v < vl.length ∧ Q .non H
theorem dh_History_check_version (B : Bt mg) (F : TopM K C_History "check_version" "History.check_version" s_History_check_version ["self", "version"]) (Kl_History : Kl K mg "History" C_History ["houses", "labels", "lists", "now"]) : DmH P w K mg base C_History "check_version" ["self", "version"] 3 (spCVh C_History K) := by
  refine F.dmH sc_History_check_version (fun vs H Q E h => ?len) (fun f cdv A outer s H vs Q E pin hr hC h => ?body)
  case body =>
   have hu := hr.units
   refine ⟨_, (pss_one (ps_if (pt_not (pt_chain op_le op_lt pe_int (pv 1) (pe_callB (k_len (K := K) rfl) (by rfl) B.b_len (by decide +kernel) (pa_cons (k_fld (K := K) rfl (pv 0) rfl) pa_nil))))
      (pss_one TU.ps_never)
      pss_nil)), ?_⟩
   obtain ⟨N, p, v, vl, now, rfl, hh, v0, v1, hq⟩ := h
   obtain ⟨dx, lh, ll, le, xh, xe, e1, n1, n2, n3, eh, th, eb, el, te⟩ := hh.ex
   have xl : xh.length = vl.length := by rw [th.length]; exact List.length_map _
   walk_at "g"
   refine q_dec (fun c => ?_) (fun c => absurd v0 c)
   walk_at "g"
   refine q_fldE Kl_History e1 (by simp) hfs_h ?_
   walk_at "g"
   refine q_lenL (.inl (.inl eh)) ?_
   walk_at "g"
   rw [xl]
   refine q_ndec (fun c2 => absurd v1 c2) (fun c2 => ?_)
   walk_at "g"
   exact hq
  case len =>
   obtain ⟨N, p, v, vl, now, rfl, _⟩ := h
   rfl
/-- label_at of a version that is held -/
def spHLh (C : Addr) (K : PySem.W.Frag) : Sp := fun vs H Q _ => ∃ (N : Addr → Prop) (p : Addr) (i : Nat) (vl : List Ver) (now : Nat) (u : Ver), vs = [.ref p, .int (i : Nat)] ∧ HiAt C K N H p vl now ∧ vl[i]? = some u ∧ Q (.str u.lb) H
theorem dh_History_label_at (B : Bt mg) (F : TopM K C_History "label_at" "History.label_at" s_History_label_at ["self", "version"]) (Kl_History : Kl K mg "History" C_History ["houses", "labels", "lists", "now"]) (H_History_check_version : DmH P w K mg base C_History "check_version" ["self", "version"] 3 (spCVh C_History K)) : DmH P w K mg base C_History "label_at" ["self", "version"] 4 (spHLh C_History K) := by
  refine F.dmH sc_History_label_at (fun vs H Q E h => ?len) (fun f cdv A outer s H vs Q E pin hr hC h => ?body)
  case body =>
   have hu := hr.units
   refine ⟨_, (pss_cons (ps_expr (pe_dmH (pv 0) Kl_History H_History_check_version (hr.mono (by decide)) hC (pa_cons (pv 1) pa_nil)))
      (pss_one (ps_ret (pe_ix (k_ix (K := K) rfl hu) (k_fld (K := K) rfl (pv 0) rfl) (pv 1) (fun _ _ => rfl))))), ?_⟩
   obtain ⟨N, p, i, vl, now, u, rfl, hh, eu, hq⟩ := h
   obtain ⟨dx, lh, ll, le, xh, xe, e1, n1, n2, n3, eh, th, eb, el, te⟩ := hh.ex
   have hi := (List.getElem?_eq_some_iff.mp eu).1
   walk_at "g"
   refine ⟨p, dx, _, rfl, e1, hfs_no (by decide +kernel), ?_⟩
   walk_at "g"
   refine ⟨N, p, i, vl, now, rfl, hh, by omega, by omega, ?_⟩
   walk_at "g"
   refine q_fldE Kl_History e1 (by simp) hfs_b ?_
   walk_at "g"
   refine q_ixL (.inl (.inl eb)) (atI_nat (by unfold vB; rw [List.getElem?_map, eu]; rfl)) ?_
   exact hq
  case len =>
   obtain ⟨N, p, i, vl, now, u, rfl, _⟩ := h
   rfl

/-- commit of no edits, where there is room -/
def spHCh (C : Addr) (K : PySem.W.Frag) : Sp := fun vs H Q _ => ∃ (N : Addr → Prop) (p b : Addr) (lb : Str) (vl : List Ver) (now : Nat) (u : Ver), vs = [.ref p, .ref b, .str lb] ∧ HiAt C K N H p vl now ∧ (∀ z, N z → z ≠ p) ∧ vl[now]? = some u ∧ VOk u ∧ H b = some (.lst []) ∧ now + 2 ≤ 401 ∧
  ∀ H', Kp p H H' → HiAt C K (fun z => N z ∨ H z = none) H' p (vl.take (now + 1) ++ [⟨cpH (cpH u.h), lb, []⟩]) (now + 1) → Q (.int (now + 1 : Nat)) H'
theorem dh_History_commit (B : Bt mg) (F : TopM K C_History "commit" "History.commit" s_History_commit ["self", "edits", "label"]) (G_MOST_VERSIONS : ∃ t, mg "MOST_VERSIONS" = some (.int 401 t)) (Kl_History : Kl K mg "History" C_History ["houses", "labels", "lists", "now"]) (H_apply_edits : DfH P w K mg base "apply_edits" ["house", "edits"] 6 (spAE0 K)) : DmH P w K mg base C_History "commit" ["self", "edits", "label"] 7 (spHCh C_History K) := by
  refine F.dmH sc_History_commit (fun vs H Q E h => ?len) (fun f cdv A outer s H vs Q E pin hr hC h => ?body)
  case body =>
   have hu := hr.units
   refine ⟨_, (pss_cons (ps_if (pt_cmpR op_gt (pe_op (k_add (K := K) rfl) (k_fld (K := K) rfl (pv 0) rfl) pe_int) (pe_glob (v := .int 401) (by rfl) G_MOST_VERSIONS.choose_spec ⟨_, rfl⟩) (nomark _))
      (pss_one TU.ps_never)
      pss_nil)
      (pss_cons (ps_set (i := 3) sc_History_commit.nd rfl (Or.inl rfl) (pe_dfH H_apply_edits (hr.mono (by decide)) hC (pa_cons (pe_ix (k_ix (K := K) rfl hu) (k_fld (K := K) rfl (pv 0) rfl) (k_fld (K := K) rfl (pv 0) rfl) (fun _ _ => rfl)) (pa_cons (pv 1) pa_nil))))
      (pss_cons (ps_set (i := 4) sc_History_commit.nd rfl (Or.inl rfl) (pe_op (k_add (K := K) rfl) (k_fld (K := K) rfl (pv 0) rfl) pe_int))
      (pss_cons (k_sfld (K := K) rfl (pv 0) (pe_op (k_add (K := K) rfl) (pe_slice (k_sl (K := K) rfl) (k_fld (K := K) rfl (pv 0) rfl) po_none (po_some (pv 4))) (pe_lst (pa_cons (pv 3) pa_nil))) rfl)
      (pss_cons (k_sfld (K := K) rfl (pv 0) (pe_op (k_add (K := K) rfl) (pe_slice (k_sl (K := K) rfl) (k_fld (K := K) rfl (pv 0) rfl) po_none (po_some (pv 4))) (pe_lst (pa_cons (pv 2) pa_nil))) rfl)
      (pss_cons (k_sfld (K := K) rfl (pv 0) (pe_op (k_add (K := K) rfl) (pe_slice (k_sl (K := K) rfl) (k_fld (K := K) rfl (pv 0) rfl) po_none (po_some (pv 4))) (pe_lst (pa_cons (pe_callTy (k_listH (K := K) rfl hC) (by rfl) B.b_list (by decide +kernel) (pa_cons (pv 1) pa_nil)) pa_nil))) rfl)
      (pss_cons (k_sfld (K := K) rfl (pv 0) (pv 4) rfl)
      (pss_one (ps_ret (pv 4)))))))))), ?_⟩
   obtain ⟨N, p, b, lb, vl, now, u, rfl, hh, hN, eu, vk, hs0, n401, hq⟩ := h
   obtain ⟨f, hf⟩ : ∃ f, f = cpH u.h := ⟨_, rfl⟩
   obtain ⟨xs, exs⟩ : ∃ xs : List V, xs = [] := ⟨_, rfl⟩
   obtain ⟨es, ees⟩ : ∃ es : List Ed, es = [] := ⟨_, rfl⟩
   have hs : H b = some (.lst xs) := by rw [exs]; exact hs0
   have ts : Ts K H ff xs (es.map Ed.tr) := by rw [exs, ees]; exact .nil
   have h3 : ∀ H', Kp p H H' → HiAt C_History K (fun z => N z ∨ H z = none) H' p (vl.take (now + 1) ++ [⟨cpH f, lb, es⟩]) (now + 1) → Q (.int (now + 1 : Nat)) H' := by rw [hf, ees]; exact hq
   have hh0 := hh
   obtain ⟨dx, lh, ll, le, xh, xe, e1, n1, n2, n3, eh, th, eb, el, te⟩ := hh.ex
   have lt := hh0.lt
   have few := hh0.few
   have xl : xh.length = vl.length := by rw [th.length]; exact List.length_map _
   have xel : xe.length = vl.length := by rw [te.len]; exact List.length_map _
   walk_at "g"
   refine q_fldE Kl_History e1 (by simp) hfs_n ?_
   walk_at "g"
   refine q_dec (fun c => absurd c (by omega)) (fun c => ?_)
   · walk_at "g"
     refine q_fldE Kl_History e1 (by simp) hfs_h ?_
     walk_at "g"
     refine q_fldE Kl_History e1 (by simp) hfs_n ?_
     obtain ⟨x, ex, tx⟩ := th.get' (i := now) (d := .dic (hK u.h)) (by unfold vH; rw [List.getElem?_map, eu]; rfl)
     refine q_ixL (.inl (.inl eh)) (atI_nat ex) ?_
     walk_at "g"
     obtain ⟨a, kvs, rfl, _⟩ := tx.dicAt
     refine ⟨N, a, b, u.h, rfl, tx, hs0, vk.wf, fun q hq => Nat.le_trans (vk.fit q hq) (by decide), Nat.le_trans vk.len (by decide), ?_⟩
     rw [← hf]
     · intro r H1 s1 o1
       have p1 := s1 _ _ e1
       walk_at "g"
       refine q_fldE Kl_History p1 (by simp) hfs_n ?_
       walk_at "g"
       refine q_fldE Kl_History p1 (by simp) hfs_h ?_
       walk_at "g"
       rw [show (now : Int) + 1 = ((now + 1 : Nat) : Int) by omega]
       refine q_slL (.inl (.inl (s1 _ _ eh))) fun l1 hl1 => ?_
       rw [cutV_to (by omega)]
       have s2 := same_new (o := .lst (xh.take (now + 1))) hl1
       walk_at "g"
       intro l2 hl2
       have s3 := same_new (o := .lst [.ref r]) hl2
       refine q_addL (s3 _ _ upd_same) upd_same ?_ fun lh' hlh' => ?_
       · rw [List.length_take]
         show _ + 1 ≤ _
         exact Nat.le_of_lt (len_small (by omega))
       have s4 := same_new (o := .lst (xh.take (now + 1) ++ [.ref r])) hlh'
       have s14 := s1.trans ((s2.trans s3).trans s4)
       have o4 := o1.mono ((s2.trans s3).trans s4)
       have kp4 : Kp p H (upd (upd (upd H1 l1 (.lst (xh.take (now + 1)))) l2 (.lst [.ref r])) lh' (.lst (xh.take (now + 1) ++ [.ref r]))) := Kp.of s14
       have p4 := s14 _ _ e1
       have eh4 : (upd (upd (upd H1 l1 (.lst (xh.take (now + 1)))) l2 (.lst [.ref r])) lh' (.lst (xh.take (now + 1) ++ [.ref r]))) lh' = some (.lst (xh.take (now + 1) ++ [.ref r])) := upd_same
       have lhH : H lh' = none := s1.free ((s2.trans s3).free hlh')
       have rp : ∀ z, H z = none → z ≠ p := fun z e c => by
         rw [c, e1] at e
         cases e
       generalize upd (upd (upd H1 l1 (.lst (xh.take (now + 1)))) l2 (.lst [.ref r])) lh' (.lst (xh.take (now + 1) ++ [.ref r])) = G4 at o4 kp4 p4 eh4
       clear s14 s4 s3 s2 hlh' hl2 hl1 p1 o1 s1
       have ntp : ∀ {Hx : Hp} {fs : List (Str × V)}, Hx p = some (.ins C_History dx fs) → ∀ z xs, z = p → ¬ Rd Hx z (.tup xs) := fun e => nt_of e (fun _ z => nomatch z) fun _ _ z => nomatch z
       walk_at "g"
       refine q_sfldE Kl_History p4 (by simp) (show 4 < 1000 by decide) ?_
       rw [hfs_sh]
       have o5 := o4.keep (keeps_upd (p := p) (o := .ins C_History dx (hfs (.ref lh') (.ref ll) (.ref le) (.int now)))) (ntp p4) rp
       have kp5 : Kp p H (upd G4 p (.ins C_History dx (hfs (.ref lh') (.ref ll) (.ref le) (.int now)))) := kp4.trans Kp.upd
       have p5 : (upd G4 p (.ins C_History dx (hfs (.ref lh') (.ref ll) (.ref le) (.int now)))) p = some (.ins C_History dx (hfs (.ref lh') (.ref ll) (.ref le) (.int now))) := upd_same
       have eh5 : (upd G4 p (.ins C_History dx (hfs (.ref lh') (.ref ll) (.ref le) (.int now)))) lh' = some (.lst (xh.take (now + 1) ++ [.ref r])) := by rw [upd_ne (rp _ lhH)]; exact eh4
       generalize upd G4 p (.ins C_History dx (hfs (.ref lh') (.ref ll) (.ref le) (.int now))) = G5 at o5 kp5 p5 eh5
       clear o4 kp4 p4 eh4
       -- labels
       walk_at "g"
       refine q_fldE Kl_History p5 (by simp) hfs_b ?_
       walk_at "g"
       refine q_slL (.inl (.inl (kp5 _ _ (hN _ n2) eb))) fun l3 hl3 => ?_
       rw [cutV_to (by unfold vB; rw [List.length_map]; omega)]
       have s6 := same_new (o := .lst ((vB vl).take (now + 1))) hl3
       walk_at "g"
       intro l4 hl4
       have s7 := same_new (o := .lst [.str lb]) hl4
       refine q_addL (s7 _ _ upd_same) upd_same ?_ fun ll' hll' => ?_
       · rw [List.length_take]
         show _ + 1 ≤ _
         exact Nat.le_of_lt (len_small (by omega))
       have s8 := same_new (o := .lst ((vB vl).take (now + 1) ++ [.str lb])) hll'
       have s58 := (s6.trans s7).trans s8
       have o8 := o5.mono s58
       have kp8 : Kp p H (upd (upd (upd G5 l3 (.lst ((vB vl).take (now + 1)))) l4 (.lst [.str lb])) ll' (.lst ((vB vl).take (now + 1) ++ [.str lb]))) := kp5.trans (Kp.of s58)
       have p8 := s58 _ _ p5
       have eh8 := s58 _ _ eh5
       have eb8 : (upd (upd (upd G5 l3 (.lst ((vB vl).take (now + 1)))) l4 (.lst [.str lb])) ll' (.lst ((vB vl).take (now + 1) ++ [.str lb]))) ll' = some (.lst ((vB vl).take (now + 1) ++ [.str lb])) := upd_same
       have llH : H ll' = none := kp5.fresh p5 ((s6.trans s7).free hll')
       generalize upd (upd (upd G5 l3 (.lst ((vB vl).take (now + 1)))) l4 (.lst [.str lb])) ll' (.lst ((vB vl).take (now + 1) ++ [.str lb])) = G8 at o8 kp8 p8 eh8 eb8
       clear s58 s8 s7 s6 hll' hl4 hl3 o5 kp5 p5 eh5
       walk_at "g"
       refine q_sfldE Kl_History p8 (by simp) (show 4 < 1000 by decide) ?_
       rw [hfs_sb]
       have o9 := o8.keep (keeps_upd (p := p) (o := .ins C_History dx (hfs (.ref lh') (.ref ll') (.ref le) (.int now)))) (ntp p8) rp
       have kp9 : Kp p H (upd G8 p (.ins C_History dx (hfs (.ref lh') (.ref ll') (.ref le) (.int now)))) := kp8.trans Kp.upd
       have p9 : (upd G8 p (.ins C_History dx (hfs (.ref lh') (.ref ll') (.ref le) (.int now)))) p = some (.ins C_History dx (hfs (.ref lh') (.ref ll') (.ref le) (.int now))) := upd_same
       have eh9 : (upd G8 p (.ins C_History dx (hfs (.ref lh') (.ref ll') (.ref le) (.int now)))) lh' = some (.lst (xh.take (now + 1) ++ [.ref r])) := by rw [upd_ne (rp _ lhH)]; exact eh8
       have eb9 : (upd G8 p (.ins C_History dx (hfs (.ref lh') (.ref ll') (.ref le) (.int now)))) ll' = some (.lst ((vB vl).take (now + 1) ++ [.str lb])) := by rw [upd_ne (rp _ llH)]; exact eb8
       generalize upd G8 p (.ins C_History dx (hfs (.ref lh') (.ref ll') (.ref le) (.int now))) = G9 at o9 kp9 p9 eh9 eb9
       clear o8 kp8 p8 eh8 eb8
       -- lists
       walk_at "g"
       refine q_fldE Kl_History p9 (by simp) hfs_l ?_
       walk_at "g"
       refine q_slL (.inl (.inl (kp9 _ _ (hN _ n3) el))) fun l5 hl5 => ?_
       rw [cutV_to (by omega)]
       have s10 := same_new (o := .lst (xe.take (now + 1))) hl5
       walk_at "g"
       have bp : b ≠ p := ne_of hs e1 fun z => nomatch z
       have hs10 := s10 _ _ (kp9 _ _ bp hs)
       refine q_listL (.inl (.inl hs10)) fun l6 hl6 => ?_
       have s11 := same_new (o := .lst xs) hl6
       have l6H : H l6 = none := kp9.fresh p9 (s10.free hl6)
       walk_at "g"
       intro l7 hl7
       have s12 := same_new (o := .lst [.ref l6]) hl7
       refine q_addL (s12 _ _ (s11 _ _ upd_same)) upd_same ?_ fun le' hle' => ?_
       · rw [List.length_take]
         show _ + 1 ≤ _
         exact Nat.le_of_lt (len_small (by omega))
       have s13 := same_new (o := .lst (xe.take (now + 1) ++ [.ref l6])) hle'
       have s9e := ((s10.trans s11).trans s12).trans s13
       have leH : H le' = none := kp9.fresh p9 (((s10.trans s11).trans s12).free hle')
       walk_at "g"
       refine q_sfldE Kl_History (s9e _ _ p9) (by simp) (show 4 < 1000 by decide) ?_
       rw [hfs_sl]
       walk_at "g"
       refine q_sfldE Kl_History upd_same (by simp) (show 4 < 1000 by decide) ?_
       rw [hfs_sn]
       walk_at "g"
       have kpe := (kp9.trans (Kp.of s9e)).trans ((Kp.upd (a := p) (o := .ins C_History dx (hfs (.ref lh') (.ref ll') (.ref le') (.int now)))).trans (Kp.upd (a := p) (o := .ins C_History dx (hfs (.ref lh') (.ref ll') (.ref le') (.int (now + 1 : Nat))))))
       have Np : ∀ z, N z → (N z ∨ H z = none) ∧ ¬ z = p := fun z n => ⟨.inl n, hN z n⟩
       have pts : ∀ {z : Addr} {o : HO}, z ≠ p → (upd (upd (upd (upd G9 l5 (.lst (xe.take (now + 1)))) l6 (.lst xs)) l7 (.lst [.ref l6])) le' (.lst (xe.take (now + 1) ++ [.ref l6]))) z = some o → (upd (upd (upd (upd (upd (upd G9 l5 (.lst (xe.take (now + 1)))) l6 (.lst xs)) l7 (.lst [.ref l6])) le' (.lst (xe.take (now + 1) ++ [.ref l6]))) p (.ins C_History dx (hfs (.ref lh') (.ref ll') (.ref le') (.int now)))) p (.ins C_History dx (hfs (.ref lh') (.ref ll') (.ref le') (.int (now + 1 : Nat))))) z = some o := fun n e => by
         rw [upd_ne n, upd_ne n]
         exact e
       refine h3 _ kpe ⟨⟨dx, lh', ll', le', xh.take (now + 1) ++ [.ref r], xe.take (now + 1) ++ [.ref l6], upd_same, .inr lhH, .inr llH, .inr leH, pts (rp _ lhH) (s9e _ _ eh9), ?_, ?_, pts (rp _ leH) upd_same, ?_⟩, ?_, ?_⟩
       · have e0 : vH (vl.take (now + 1) ++ [⟨cpH f, lb, es⟩]) = (vH vl).take (now + 1) ++ [.dic (hK (cpH f))] := by
           unfold vH
           rw [List.map_append, List.map_take]
           rfl
         rw [e0]
         have o10 := ((o9.mono s9e).keep (keeps_upd (p := p) (o := .ins C_History dx (hfs (.ref lh') (.ref ll') (.ref le') (.int now)))) (ntp (s9e _ _ p9)) rp).keep (keeps_upd (p := p) (o := .ins C_History dx (hfs (.ref lh') (.ref ll') (.ref le') (.int (now + 1 : Nat))))) (ntp upd_same) rp
         exact ((th.take (now + 1)).keep kpe (ntp e1) Np).append (.cons (o10.T.imp fun z e => .inr e) .nil)
       · have e0 : vB (vl.take (now + 1) ++ [⟨cpH f, lb, es⟩]) = (vB vl).take (now + 1) ++ [.str lb] := by
           unfold vB
           rw [List.map_append, List.map_take]
           rfl
         rw [e0]
         exact pts (rp _ llH) (s9e _ _ eb9)
       · have e0 : vL (vl.take (now + 1) ++ [⟨cpH f, lb, es⟩]) = (vL vl).take (now + 1) ++ [es] := by
           unfold vL
           rw [List.map_append, List.map_take]
           rfl
         rw [e0]
         refine ((te.take (now + 1)).keep kpe (ntp e1) Np).append (.cons (.inr l6H) (pts (rp _ l6H) ((s12.trans s13) _ _ upd_same)) ?_ .nil)
         exact ts.keep kpe (ntp e1) fun z c => c.elim
       · rw [List.length_append, List.length_take]
         show _ < _ + 1
         omega
       · rw [List.length_append, List.length_take]
         show _ + 1 ≤ _
         omega
  case len =>
   obtain ⟨N, p, b, lb, vl, now, u, rfl, _⟩ := h
   rfl

theorem invs_len : ∀ (es : List Ed) (h : Hs), (invs h es).length ≤ es.length
  | [], h => Nat.le_refl _
  | e :: es, h => by
    unfold invs
    cases q : app1 h e with
    | error x => exact Nat.succ_le_succ (Nat.zero_le _)
    | ok h' => exact Nat.succ_le_succ (invs_len es h')
/-- History.way_of(self, first, last) -/
def spWO (C CS : Addr) (K : PySem.W.Frag) : Sp := fun vs H Q E => ∃ (N : Addr → Prop) (p : Addr) (i j : Int) (vl : List Ver) (now : Nat), vs = [.ref p, .int i, .int j] ∧ HiAt C K N H p vl now ∧ Chn vl ∧
  (∀ a b : Nat, i = a → j = b → a < vl.length → b < vl.length → ∀ l H' xs, Same H H' → H l = none → H' l = some (.lst xs) → Ts K H' ff xs ((wayE vl a b).map Ed.tr) → Q (.ref l) H') ∧
  (¬ (0 ≤ i ∧ i < vl.length) → XSt CS i H E) ∧ (0 ≤ i ∧ i < vl.length → ¬ (0 ≤ j ∧ j < vl.length) → XSt CS j H E)
theorem sc_History_way_of : FnScope ["self", "first", "last", "way", "version"] ["self", "first", "last"] (defScope s_History_way_of) := ⟨rfl, rfl, rfl, by decide +kernel, rfl, by decide +kernel, by decide +kernel⟩
theorem d_History_way_of (B : Bt mg) (F : TopM K C_History "way_of" "History.way_of" s_History_way_of ["self", "first", "last"]) (Kl_History : Kl K mg "History" C_History ["houses", "labels", "lists", "now"]) (D_inverse_of : Df P w K mg base "inverse_of" ["house", "edits"] 6 (spIO K C_Unknown)) (D_History_check_version : Dm P w K mg base C_History "check_version" ["self", "version"] 3 (spCV C_History C_Stale K)) : Dm P w K mg base C_History "way_of" ["self", "first", "last"] 7 (spWO C_History C_Stale K) := by
  refine F.dm sc_History_way_of (fun vs H Q E h => ?len) (fun f cdv A outer s H vs Q E hr h => ?body)
  case body =>
   have hu := hr.units
   refine ⟨_, (pss_cons (ps_expr (pe_dm (pv 0) Kl_History D_History_check_version (hr.mono (by decide)) (fun σ => passAt (takes_of rfl rfl rfl rfl) σ) (pa_cons (pv 1) pa_nil)))
      (pss_cons (ps_expr (pe_dm (pv 0) Kl_History D_History_check_version (hr.mono (by decide)) (fun σ => passAt (takes_of rfl rfl rfl rfl) σ) (pa_cons (pv 2) pa_nil)))
      (pss_cons (ps_set (i := 3) sc_History_way_of.nd rfl (Or.inl rfl) (pe_lst pa_nil))
      (pss_cons (ps_for (passes_of rfl) rfl (pi_range2 (by rfl) B.b_range (pa_cons (pe_op (k_add (K := K) rfl) (pv 1) pe_int) (pa_cons (pe_op (k_add (K := K) rfl) (pv 2) pe_int) pa_nil))) (pg_name (i := 4) sc_History_way_of.nd rfl (Or.inl rfl))
      (pss_one (ps_expr (k_extend (K := K) rfl (pv 3) (pa_cons (pe_ix (k_ix (K := K) rfl hu) (k_fld (K := K) rfl (pv 0) rfl) (pv 4) (fun _ _ => rfl)) pa_nil)))))
      (pss_cons (ps_for (passes_of rfl) rfl (pi_range3 (by rfl) B.b_range (pa_cons (pv 1) (pa_cons (pv 2) (pa_cons (pe_un un_neg pe_int) pa_nil)))) (pg_name (i := 4) sc_History_way_of.nd rfl (Or.inl rfl))
      (pss_one (ps_expr (k_extend (K := K) rfl (pv 3) (pa_cons (pe_df D_inverse_of (hr.mono (by decide)) (fun σ => passAt (takes_of rfl rfl rfl rfl) σ) (pa_cons (pe_ix (k_ix (K := K) rfl hu) (k_fld (K := K) rfl (pv 0) rfl) (pe_op op_sub (pv 4) pe_int) (fun _ _ => rfl)) (pa_cons (pe_ix (k_ix (K := K) rfl hu) (k_fld (K := K) rfl (pv 0) rfl) (pv 4) (fun _ _ => rfl)) pa_nil))) pa_nil)))))
      (pss_one (ps_ret (pv 3)))))))), ?_⟩
   obtain ⟨N, p, i, j, vl, now, rfl, hh, ch, h1, h2, h3⟩ := h
   obtain ⟨dx, lh, ll, le, xh, xe, e1, n1, n2, n3, eh, th, eb, el, te⟩ := hh.ex
   have few := hh.few
   walk_at "g"
   refine ⟨p, dx, _, rfl, e1, hfs_no (by decide +kernel), ?_⟩
   walk_at "g"
   refine ⟨N, p, i, vl, now, rfl, hh, fun hi => ?_, fun hi => h2 hi⟩
   walk_at "g"
   refine ⟨p, dx, _, rfl, e1, hfs_no (by decide +kernel), ?_⟩
   walk_at "g"
   refine ⟨N, p, j, vl, now, rfl, hh, fun hj => ?_, fun hj => h3 hi hj⟩
   obtain ⟨a, rfl⟩ : ∃ a : Nat, i = a := ⟨i.toNat, by omega⟩
   obtain ⟨b, rfl⟩ : ∃ b : Nat, j = b := ⟨j.toNat, by omega⟩
   have hq := h1 a b rfl rfl (by omega) (by omega)
   have vAtk : ∀ k, k < vl.length → vl[k]? = some (vAt vl k) := fun k hk => by
     rw [vAt_of (List.getElem?_eq_getElem hk)]
     exact List.getElem?_eq_getElem hk
   have vOk : ∀ k, k < vl.length → VOk (vAt vl k) := fun k hk => ch.1 _ (mem_at (vAtk k hk))
   clear h1 h2 h3
   walk_at "g"
   intro l hl
   have s1 := same_new (o := .lst []) hl
   have nl : ∀ {Hx : Hp} {o : HO}, Same H Hx → Same H (upd Hx l o) := fun s z u e => by
     rw [upd_ne (ne_of_none e hl)]
     exact s _ _ e
   walk_at "g"
   refine ⟨_, _, rfl, ⟨by omega, by omega, by omega, by omega⟩, ?_⟩
   have e9 : (((b : Int) + 1) - ((a : Int) + 1)).toNat = b - a := by omega
   rw [e9]
   refine for_rng (lo := (a : Int) + 1) (n := b - a) (fun k σ Hk => ∃ (v4 : Option V) (xs : List V), σ = [some (.ref p), some (.int a), some (.int b), some (.ref l), v4] ∧ Same H Hk ∧ Hk l = some (.lst xs) ∧ Ts K Hk ff xs ((wayF vl a k).map Ed.tr) ∧ xs.length ≤ 30 * k) ?_ ?_ ?_
   · exact ⟨none, [], rfl, s1, upd_same, .nil, Nat.le_refl _⟩
   · rintro k σ Hk hk ⟨v4, xs, rfl, sk, lk1, tk, ln⟩
     have hlt : a + 1 + k < vl.length := by omega
     obtain ⟨c, zs, g1, g2, g3, g4⟩ := te.at (i := a + 1 + k) (es := (vAt vl (a + 1 + k)).es) (by unfold vL; rw [List.getElem?_map, vAtk _ hlt]; rfl)
     have vk := vOk _ hlt
     walk_at "g"
     refine tyL lk1 ?_
     walk_at "g"
     refine q_fldE Kl_History (sk _ _ e1) (by simp) hfs_l ?_
     walk_at "g"
     rw [show ((a : Int) + 1 + (k : Nat)) = ((a + 1 + k : Nat) : Int) by omega]
     refine q_ixL (.inl (.inl (sk _ _ el))) (atI_nat g1) ?_
     walk_at "g"
     have zl : zs.length ≤ 30 := by rw [g4.length, List.length_map]; exact vk.few
     refine q_extend lk1 (sk _ _ g3) (Nat.le_of_lt (len_small (by omega))) ?_
     refine ⟨_, xs ++ zs, rfl, nl sk, upd_same, ?_, by rw [List.length_append]; omega⟩
     have e10 : wayF vl a (k + 1) = wayF vl a k ++ (vAt vl (a + 1 + k)).es := flat_succ _ _
     rw [e10, List.map_append]
     exact (tk.append (g4.mono sk)).upd lk1 (fun _ z => nomatch z) (fun _ _ z => nomatch z) fun _ z => z.elim
   · rintro σ Hk ⟨v4, xs, rfl, sk, lk1, tk, ln⟩
     walk_at "g"
     refine ⟨_, _, _, _, rfl, RgC.neg (by omega) (by omega) (by omega) (by omega), ?_⟩
     have e11 : ((a : Int) - (b : Int)).toNat = a - b := by omega
     rw [e11]
     refine for_rngC (lo := (a : Int)) (c := -1) (n := a - b) (fun k σ Hk => ∃ (v4 : Option V) (xs : List V), σ = [some (.ref p), some (.int a), some (.int b), some (.ref l), v4] ∧ Same H Hk ∧ Hk l = some (.lst xs) ∧ Ts K Hk ff xs ((wayF vl a (b - a) ++ wayB vl a k).map Ed.tr) ∧ xs.length ≤ 30 * (b - a) + 30 * k) ?_ ?_ ?_
     · refine ⟨v4, xs, rfl, sk, lk1, ?_, by omega⟩
       show Ts K Hk ff xs ((wayF vl a (b - a) ++ []).map Ed.tr)
       rw [List.append_nil]
       exact tk
     · rintro k σ Hm hk ⟨v4, xs, rfl, sm, lm1, tm, lm⟩
       have hlt : a - k < vl.length := by omega
       have hl1 : a - k - 1 < vl.length := by omega
       obtain ⟨c, zs, g1, g2, g3, g4⟩ := te.at (i := a - k) (es := (vAt vl (a - k)).es) (by unfold vL; rw [List.getElem?_map, vAtk _ hlt]; rfl)
       obtain ⟨x, y1, y2⟩ := th.get' (i := a - k - 1) (d := .dic (hK (vAt vl (a - k - 1)).h)) (by unfold vH; rw [List.getElem?_map, vAtk _ hl1]; rfl)
       have vk := vOk _ hlt
       have vk1 := vOk _ hl1
       obtain ⟨f, ap, _⟩ := ch.2 (a - k - 1) _ _ (vAtk _ hl1) (by rw [show a - k - 1 + 1 = a - k by omega]; exact vAtk _ hlt)
       obtain ⟨ax, kvs, rfl, _⟩ := y2.dicAt
       walk_at "g"
       refine tyL lm1 ?_
       walk_at "g"
       refine q_fldE Kl_History (sm _ _ e1) (by simp) hfs_h ?_
       walk_at "g"
       rw [show ((a : Int) + (k : Nat) * -1) - 1 = ((a - k - 1 : Nat) : Int) by omega]
       refine q_ixL (.inl (.inl (sm _ _ eh))) (atI_nat y1) ?_
       walk_at "g"
       refine q_fldE Kl_History (sm _ _ e1) (by simp) hfs_l ?_
       walk_at "g"
       rw [show ((a : Int) + (k : Nat) * -1) = ((a - k : Nat) : Int) by omega]
       refine q_ixL (.inl (.inl (sm _ _ el))) (atI_nat g1) ?_
       walk_at "g"
       refine ⟨N, ax, c, _, zs, _, rfl, y2.mono sm, .inl (.inl (sm _ _ g3)), g4.mono sm, vk1.wf, vk.imm, ⟨20, vk1.fit, by have := vk.few; omega⟩, Nat.le_trans vk1.len (by decide), ?_⟩
       rw [ap]
       intro r H2 ys s2 hr0 er ty
       walk_at "g"
       have yl : ys.length ≤ 30 := by
         rw [ty.length, List.length_map, List.length_reverse]
         exact Nat.le_trans (invs_len _ _) vk.few
       refine q_extend (s2 _ _ lm1) er (Nat.le_of_lt (len_small (by omega))) ?_
       refine ⟨_, xs ++ ys, rfl, nl (sm.trans s2), upd_same, ?_, by rw [List.length_append]; omega⟩
       have e12 : wayB vl a (k + 1) = wayB vl a k ++ (invs (cpH (vAt vl (a - k - 1)).h) (vAt vl (a - k)).es).reverse := flat_succ _ _
       rw [e12, ← List.append_assoc, List.map_append]
       exact ((tm.mono s2).append ty).upd (s2 _ _ lm1) (fun _ z => nomatch z) (fun _ _ z => nomatch z) fun _ z => z.elim
     · rintro σ Hm ⟨v4, xs, rfl, sm, lm1, tm, lm⟩
       walk_at "g"
       exact hq l Hm xs sm hl lm1 tm
  case len =>
   obtain ⟨N, p, i, j, vl, now, rfl, _⟩ := h
   rfl
/-- the houses from the first one on, by lists of edits -/
def Row (g : Hs) : List Hs → List (List Ed) → Prop
  | [], [] => True
  | h :: hs, es :: ess => (∃ f, appAll (cpH g) es = .ok f ∧ cpH f = h) ∧ VOk ⟨g, "", es⟩ ∧ Row h hs ess
  | _, _ => False
theorem Row.len : ∀ {g : Hs} {hs : List Hs} {ess : List (List Ed)}, Row g hs ess → hs.length = ess.length
  | _, [], [], _ => rfl
  | _, _ :: _, _ :: _, r => congrArg Nat.succ (Row.len r.2.2)
  | _, [], _ :: _, r => r.elim
  | _, _ :: _, [], r => r.elim
theorem Row.at : ∀ {g : Hs} {hs : List Hs} {ess : List (List Ed)} {i : Nat} {u : Hs} {es : List Ed}, Row g hs ess → (g :: hs)[i]? = some u → ess[i]? = some es → ∃ f v, hs[i]? = some v ∧ appAll (cpH u) es = .ok f ∧ cpH f = v ∧ VOk ⟨u, "", es⟩
  | _, [], [], _, _, _, _, _, e => by simp at e
  | g, h :: hs, es0 :: ess, 0, u, es, r, e1, e2 => by
    cases (show some g = some u from e1)
    cases (show some es0 = some es from e2)
    obtain ⟨⟨f, a, b⟩, c, _⟩ := r
    exact ⟨f, h, rfl, a, b, c⟩
  | g, h :: hs, es0 :: ess, i + 1, u, es, r, e1, e2 => by
    obtain ⟨f, v, h1, h2⟩ := Row.at (i := i) r.2.2 (by simpa using e1) (by simpa using e2)
    exact ⟨f, v, by simpa using h1, h2⟩
  | _, [], _ :: _, _, _, _, r, _, _ => r.elim
  | _, _ :: _, [], _, _, _, r, _, _ => r.elim
theorem Ts.last {H : Hp} {P : Addr → Prop} : ∀ {vs : List V} {ds : List Tr} {d : Tr}, Ts K H P vs (ds ++ [d]) → ∃ us v, vs = us ++ [v] ∧ T K H P v d
  | _, [], d, .cons a .nil => ⟨[], _, rfl, a⟩
  | _, x :: ds, d, .cons a b => by
    obtain ⟨us, v, e, h⟩ := Ts.last (ds := ds) b
    exact ⟨_ :: us, v, by rw [e]; rfl, h⟩
/-- replayed(house, lists) -/
def spRP (K : PySem.W.Frag) : Sp := fun vs H Q _ => ∃ (N N2 : Addr → Prop) (a b : Addr) (h : Hs) (xs : List V) (hs : List Hs) (ess : List (List Ed)), vs = [.ref a, .ref b] ∧ T K H N (.ref a) (.dic (hK h)) ∧ Wf h ∧ Fits 20 h ∧ h.length ≤ 40 ∧ H b = some (.lst xs) ∧ EL K N2 H xs ess ∧ Row (cpH h) hs ess ∧ ess.length ≤ 400 ∧
  ∀ l H' ys, Same H H' → H l = none → H' l = some (.lst ys) → Ts K H' (fun z => H z = none) ys ((cpH h :: hs).map fun g => Tr.dic (hK g)) → Q (.ref l) H'
def logT (vl : List Ver) : List Tr := (List.range vl.length).map fun k => Tr.tup [.int (k : Nat), .str (vAt vl k).lb, .int ((vAt vl k).es.length : Nat)]
/-- History.log(self) -/
def spHG (C : Addr) (K : PySem.W.Frag) : Sp := fun vs H Q _ => ∃ (N : Addr → Prop) (p : Addr) (vl : List Ver) (now : Nat), vs = [.ref p] ∧ HiAt C K N H p vl now ∧ ∀ l H' xs, Same H H' → H l = none → H' l = some (.lst xs) → Ts K H' ff xs (logT vl) → Q (.ref l) H'
theorem sc_History_log : FnScope ["self", "at"] ["self"] (defScope s_History_log) := ⟨rfl, rfl, rfl, by decide +kernel, rfl, by decide +kernel, by decide +kernel⟩
theorem d_History_log (B : Bt mg) (F : TopM K C_History "log" "History.log" s_History_log ["self"]) (Kl_History : Kl K mg "History" C_History ["houses", "labels", "lists", "now"]) : Dm P w K mg base C_History "log" ["self"] 1 (spHG C_History K) := by
  refine F.dm sc_History_log (fun vs H Q E h => ?len) (fun f cdv A outer s H vs Q E hr h => ?body)
  case body =>
   have hu := hr.units
   refine ⟨_, (pss_one (ps_ret (pe_lockU (pe_lc (own := [("at", 1)]) (by rfl) sc_History_log.nd (pi_range1 (by rfl) B.b_range (pa_cons (pe_callB (k_len (K := K) rfl) (by rfl) B.b_len (by decide +kernel) (pa_cons (k_fld (K := K) rfl (pv 0) rfl) pa_nil)) pa_nil)) (blkOk_by (by kernel_rfl)) (fun _ _ _ _ _ => (pg_name (i := 1) sc_History_log.nd rfl (Or.inl rfl))) (fun _ _ _ _ _ => pts_nil) (fun _ _ _ _ _ => (pe_tup (pa_cons (pv 1) (pa_cons (pe_ix (k_ix (K := K) rfl hu) (k_fld (K := K) rfl (pv 0) rfl) (pv 1) (fun _ _ => rfl)) (pa_cons (pe_callB (k_len (K := K) rfl) (by rfl) B.b_len (by decide +kernel) (pa_cons (pe_ix (k_ix (K := K) rfl hu) (k_fld (K := K) rfl (pv 0) rfl) (pv 1) (fun _ _ => rfl)) pa_nil)) pa_nil))))))))), ?_⟩
   obtain ⟨N, p, vl, now, rfl, hh, hq⟩ := h
   obtain ⟨dx, lh, ll, le, xh, xe, e1, n1, n2, n3, eh, th, eb, el, te⟩ := hh.ex
   have few := hh.few
   have xl : xh.length = vl.length := by rw [th.length]; exact List.length_map _
   walk_at "g"
   refine .inl ?_
   walk_at "g"
   refine q_fldE Kl_History e1 (by simp) hfs_h ?_
   walk_at "g"
   refine q_lenL (.inl (.inl eh)) ?_
   walk_at "g"
   rw [xl]
   refine ⟨_, rfl, by omega, by omega, ?_⟩
   walk_at "g"
   intro dl hdl
   have ev : ((vl.length : Nat) : Int).toNat = vl.length := by omega
   rw [ev]
   have sD := same_new (o := .lst []) hdl
   refine lc_any walk_range (fun i Hx => Same H Hx ∧ ∃ acc, Hx dl = some (.lst acc) ∧ Ts K Hx ff acc ((List.range i).map fun k => Tr.tup [.int (k : Nat), .str (vAt vl k).lb, .int ((vAt vl k).es.length : Nat)]) ∧ acc.length ≤ i) ?_ (fun _ _ _ _ => trivial) ?_ ?_
   · exact ⟨sD, [], upd_same, .nil, Nat.le_refl _⟩
   · rintro i x Hx' Hx hi ⟨sx, acc, ea, ta, la⟩ ⟨rfl, rfl⟩
     have vi := List.getElem?_eq_getElem hi
     have hb9 : (vB vl)[i]? = some (.str vl[i].lb) := by unfold vB; rw [List.getElem?_map, vi]; rfl
     obtain ⟨c, zs, g1, g2, g3, g4⟩ := te.at (i := i) (es := vl[i].es) (by unfold vL; rw [List.getElem?_map, vi]; rfl)
     have zl : zs.length = vl[i].es.length := by rw [g4.length, List.length_map]
     show gName 1 (V.int (0 + (i : Nat))) _ _ _
     rw [Int.zero_add]
     walk_at "g"
     refine ⟨rfl, ?_⟩
     walk_at "g"
     refine q_fldE Kl_History (sx _ _ e1) (by simp) hfs_b ?_
     walk_at "g"
     refine q_ixL (.inl (.inl (sx _ _ eb))) (atI_nat hb9) ?_
     walk_at "g"
     refine q_fldE Kl_History (sx _ _ e1) (by simp) hfs_l ?_
     walk_at "g"
     refine q_ixL (.inl (.inl (sx _ _ el))) (atI_nat g1) ?_
     walk_at "g"
     refine q_lenL (.inl (.inl (sx _ _ g3))) ?_
     walk_at "g"
     intro q hq9
     rw [zl]
     have sq := same_new (o := .tup [.int (i : Nat), .str vl[i].lb, .int (vl[i].es.length : Nat)]) hq9
     refine ⟨acc, sq _ _ ea, len_small (by omega), fun z u ez => ?_, _, upd_same, ?_, by rw [List.length_append]; exact Nat.succ_le_succ la⟩
     · rw [upd_ne (ne_of_none ez hdl)]
       exact sq _ _ (sx _ _ ez)
     · rw [List.range_succ, List.map_append]
       have tt : T K (upd Hx q (.tup [.int (i : Nat), .str vl[i].lb, .int (vl[i].es.length : Nat)])) ff (.ref q) (.tup [.int (i : Nat), .str (vAt vl i).lb, .int ((vAt vl i).es.length : Nat)]) := by
         rw [vAt_of vi]
         exact .tup st_new (.cons (.int _) (.cons (.str _) (.cons (.int _) .nil)))
       exact ((ta.mono sq).append (.cons tt .nil)).upd (sq _ _ ea) (fun _ z => nomatch z) (fun _ _ z => nomatch z) fun _ z => z.elim
   · rintro Hx ⟨sx, acc, ea, ta, la⟩
     walk_at "g"
     exact hq dl Hx acc sx hdl ea ta
  case len =>
   obtain ⟨N, p, vl, now, rfl, _⟩ := h
   rfl

/-- _law_jar(script): a list of numbers below 1000 -/
def spJar (K : PySem.W.Frag) : Sp := fun vs H Q _ => ∃ (a : Addr) (ns : List Int), vs = [.ref a] ∧ SqL K H a (ns.map V.int) ∧ ns.length ≤ 63 ∧
  ∀ (r : Addr) (H' : Hp) (ms : List Int), Same H H' → H r = none → H' r = some (.lst (ms.map V.int)) → ms.length ≤ 2000 → (∀ m ∈ ms, (0 : Int) ≤ m ∧ m < 1000) → Q (.ref r) H'
theorem cut_ints {ns : List Int} {lo hi : Option Int} {i : Nat} {x : V} (h : (cutV (ns.map V.int) lo hi)[i]? = some x) : ∃ n, x = .int n := by
  have m : x ∈ cutV (ns.map V.int) lo hi := mem_at h
  unfold cutV at m
  obtain ⟨n, _, e⟩ := List.mem_map.mp (List.mem_of_mem_drop (List.mem_of_mem_take m))
  exact ⟨n, e.symm⟩
theorem ints_snoc (ms : List Int) (x : Int) : ms.map V.int ++ [V.int x] = (ms ++ [x]).map V.int := by rw [List.map_append] <;> rfl
theorem snoc_bound {ms : List Int} {x : Int} (h : ∀ m ∈ ms, (0 : Int) ≤ m ∧ m < 1000) (hx : 0 ≤ x ∧ x < 1000) : ∀ m ∈ ms ++ [x], (0 : Int) ≤ m ∧ m < 1000 := fun m hm => by
  rcases List.mem_append.mp hm with q | q
  · exact h m q
  · rw [List.mem_singleton.mp q]
    exact hx
theorem sc_law_jar : FnScope ["script", "jar", "at", "cell", "number", "k", "low"] ["script"] (defScope s_law_jar) := ⟨rfl, rfl, rfl, by decide +kernel, rfl, by decide +kernel, by decide +kernel⟩
theorem d_law_jar (B : Bt mg) (F : TopF K mg "_law_jar" s_law_jar ["script"]) : Df P w K mg base "_law_jar" ["script"] 1 (spJar K) := by
  refine F.df sc_law_jar (fun vs H Q E h => ?len) (fun f cdv A outer s H vs Q E hr h => ?body)
  case body =>
   have hu := hr.units
   refine ⟨_, (pss_cons (ps_set (i := 1) sc_law_jar.nd rfl (Or.inl rfl) (pe_lst pa_nil))
      (pss_cons (ps_set (i := 2) sc_law_jar.nd rfl (Or.inl rfl) pe_int)
      (pss_cons (ps_lockU (ps_for (passes_of rfl) rfl (k_walk (K := K) rfl (pe_slice (k_sl (K := K) rfl) (pv 0) po_none (po_some pe_int))) (pg_name (i := 3) sc_law_jar.nd rfl (Or.inl rfl))
      (pss_cons (ps_set (i := 2) sc_law_jar.nd rfl (Or.inl rfl) (pe_op (k_add (K := K) rfl) (pv 2) pe_int))
      (pss_cons (ps_set (i := 4) sc_law_jar.nd rfl (Or.inl rfl) (pe_callB k_abs (by rfl) B.b_abs (by decide +kernel) (pa_cons (pe_callTy k_int (by rfl) B.b_int (by decide +kernel) (pa_cons (pv 3) pa_nil)) pa_nil)))
      (pss_one (ps_if (pt_cmpR op_ge (pv 4) pe_int (nomark _))
      (pss_one (ps_for (passes_of rfl) rfl (pi_range1 (by rfl) B.b_range (pa_cons pe_int pa_nil)) (pg_name (i := 5) sc_law_jar.nd rfl (Or.inl rfl))
      (pss_one (ps_if (pt_cmpR op_gt (pv 4) pe_int (nomark _))
      (pss_cons (ps_expr (k_append (K := K) rfl (pv 1) (pa_cons (pe_op op_modN (pv 4) pe_int) pa_nil)))
      (pss_one (ps_set (i := 4) sc_law_jar.nd rfl (Or.inl rfl) (pe_op op_fdivN (pv 4) pe_int))))
      pss_nil))))
      (pss_cons (ps_set (i := 6) sc_law_jar.nd rfl (Or.inl rfl) (pe_op op_modN (pv 4) pe_int))
      (pss_cons (ps_expr (k_append (K := K) rfl (pv 1) (pa_cons (pe_op op_modN (pv 6) pe_int) pa_nil)))
      (pss_cons (ps_expr (k_append (K := K) rfl (pv 1) (pa_cons (pe_op op_modN (pe_op op_mul (pv 6) (pe_op (k_add (K := K) rfl) (pv 6) (pe_op op_mul pe_int (pv 2)))) pe_int) pa_nil)))
      (pss_one (ps_expr (k_append (K := K) rfl (pv 1) (pa_cons (pe_op op_modN (pe_op op_fdivN (pe_op op_mul (pv 6) (pe_op (k_add (K := K) rfl) pe_int (pv 2))) pe_int) pe_int) pa_nil)))))))))))))
      (pss_one (ps_ret (pv 1)))))), ?_⟩
   obtain ⟨a, ns, rfl, ha, hns, hq⟩ := h
   walk_at "g"
   intro r hr1
   have s1 : Same H (upd H r (.lst [])) := same_new hr1
   walk_at "g"
   refine .inl ?_
   walk_at "g"
   refine q_items ?_
   walk_at "g"
   refine q_slL (Sm.sqL s1 ha) fun p hp => ?_
   generalize hxs : cutV (ns.map V.int) none (some 63) = xs
   have hxl : xs.length ≤ 63 := by
     rw [← hxs]
     have := cutV_length (ns.map V.int) none (some 63)
     rw [List.length_map] at this
     omega
   have hrp : r ≠ p := ne_of_none (H := upd H r (.lst [])) upd_same hp
   have s2 : Same (upd H r (.lst [])) (upd (upd H r (.lst [])) p (.lst xs)) := same_new hp
   refine q_itemsE sq_new ?_
   refine for_items (xs := xs) (fun i σ Hi => ∃ (v3 v4 v5 v6 : Option V) (ms : List Int), σ = [some (.ref a), some (.ref r), some (.int i), v3, v4, v5, v6] ∧ Same H Hi ∧ SqL K Hi p xs ∧ Hi r = some (.lst (ms.map V.int)) ∧ ms.length ≤ 20 * i ∧ ∀ m ∈ ms, (0 : Int) ≤ m ∧ m < 1000) ?_ ?_ ?_ ?_
   · exact ⟨none, none, none, none, [], rfl, s1.trans s2, sq_new, s2 _ _ upd_same, Nat.le_refl _, fun m hm => by cases hm⟩
   · rintro i σ Hi _ ⟨v3, v4, v5, v6, ms, rfl, si, sq, _⟩
     exact sq
   · rintro i x σ Hi hx ⟨v3, v4, v5, v6, ms, rfl, si, sq, er, hl, hb⟩
     obtain ⟨c, rfl⟩ : ∃ n, x = .int n := by
       rw [← hxs] at hx
       exact cut_ints hx
     have hi : i < 63 := Nat.lt_of_lt_of_le (List.getElem?_eq_some_iff.mp hx).1 hxl
     have step : ∀ {H2 : Hp} {o : HO}, Same H H2 → SqL K H2 p xs → H2 r = some o → (∀ u v, o ≠ .frz u v) → ∀ o', Same H (upd H2 r o') ∧ SqL K (upd H2 r o') p xs := fun {H2 o} s q e nf o' =>
       ⟨fun z u ez => by
         rw [upd_ne (ne_of_none ez hr1)]
         exact s z u ez, sqL_keep keeps_upd hrp.symm q⟩
     walk_at "g"
     refine q_intI ?_
     walk_at "g"
     refine q_abs ?_
     walk_at "g"
     generalize hn : (if c < 0 then -c else c) = n
     have hn0 : 0 ≤ n := by
       rw [← hn]
       split <;> omega
     refine q_dec (fun _ => ?_) (fun hlt => ?_)
     · -- a large number
       walk_at "g"
       refine ⟨20, rfl, by decide, by decide, ?_⟩
       refine for_rng (lo := 0) (n := 20) (fun k σ Hk => ∃ (n : Int) (v5 : Option V) (ms : List Int), σ = [some (.ref a), some (.ref r), some (.int (i + 1)), some (.int c), some (.int n), v5, v6] ∧ 0 ≤ n ∧ Same H Hk ∧ SqL K Hk p xs ∧ Hk r = some (.lst (ms.map V.int)) ∧ ms.length ≤ 20 * i + k ∧ ∀ m ∈ ms, (0 : Int) ≤ m ∧ m < 1000) ?_ ?_ ?_
       · exact ⟨n, v5, ms, rfl, hn0, si, sq, er, hl, hb⟩
       · rintro k σ Hk hk ⟨n, v5, ms, rfl, hn0, sk, sqk, ek, hlk, hbk⟩
         walk_at "g"
         refine q_dec (fun hpos => ?_) (fun _ => ?_)
         · walk_at "g"
           refine tyL ek ?_
           walk_at "g"
           refine q_I (by decide) ?_
           walk_at "g"
           refine q_append ek (by rw [List.length_map]; exact len_small (by omega)) ?_
           rw [ints_snoc]
           obtain ⟨z1, z2⟩ := step sk sqk ek (fun _ _ z => nomatch z) (.lst ((ms ++ [n.fmod 1000]).map V.int))
           walk_at "g"
           refine q_I ⟨by decide, by decide⟩ ?_
           walk_at "g"
           refine ⟨_, _, _, rfl, (fdiv_le (by decide) hn0).1, z1, z2, upd_same, ?_, snoc_bound hbk (fmod_lt (by decide))⟩
           rw [List.length_append]
           show ms.length + 1 ≤ _
           omega
         · walk_at "g"
           exact ⟨n, _, ms, rfl, hn0, sk, sqk, ek, by omega, hbk⟩
       · rintro σ Hk ⟨n, v5, ms, rfl, hn0, sk, sqk, ek, hlk, hbk⟩
         walk_at "g"
         exact ⟨some (.int c), some (.int n), v5, v6, ms, rfl, sk, sqk, ek, by omega, hbk⟩
     · walk_at "g"
       refine q_I (by decide) ?_
       walk_at "g"
       obtain ⟨l0, l1⟩ := fmod_lt (a := n) (b := 1000003) (by decide)
       generalize n.fmod 1000003 = low at l0 l1
       refine tyL er ?_
       walk_at "g"
       refine q_I (by decide) ?_
       walk_at "g"
       refine q_append er (by rw [List.length_map]; exact len_small (by omega)) ?_
       rw [ints_snoc]
       obtain ⟨z1, z2⟩ := step si sq er (fun _ _ z => nomatch z) (.lst ((ms ++ [low.fmod 1000]).map V.int))
       generalize hH1 : upd Hi r (.lst ((ms ++ [low.fmod 1000]).map V.int)) = Ha at z1 z2
       have ea : Ha r = some (.lst ((ms ++ [low.fmod 1000]).map V.int)) := by rw [← hH1]; exact upd_same
       have ba := snoc_bound hb (fmod_lt (a := low) (b := 1000) (by decide))
       have la : (ms ++ [low.fmod 1000]).length ≤ 20 * i + 1 := by
         rw [List.length_append]
         show ms.length + 1 ≤ _
         omega
       generalize ms ++ [low.fmod 1000] = msa at ea ba la
       walk_at "g"
       refine tyL ea ?_
       walk_at "g"
       refine q_I (.inl ⟨by decide, by decide⟩) ?_
       walk_at "g"
       refine q_I (.inl ⟨by omega, by omega⟩) ?_
       walk_at "g"
       refine q_I (by decide) ?_
       walk_at "g"
       obtain ⟨y0, y1⟩ := fmod_lt (a := low * (low + 7 * (i + 1))) (b := 991) (by decide)
       generalize (low * (low + 7 * (↑i + 1))).fmod 991 = y at y0 y1
       refine q_append ea (by rw [List.length_map]; exact len_small (by omega)) ?_
       rw [ints_snoc]
       obtain ⟨z3, z4⟩ := step z1 z2 ea (fun _ _ z => nomatch z) (.lst ((msa ++ [y]).map V.int))
       generalize hH2 : upd Ha r (.lst ((msa ++ [y]).map V.int)) = Hb at z3 z4
       have eb : Hb r = some (.lst ((msa ++ [y]).map V.int)) := by rw [← hH2]; exact upd_same
       have bb := snoc_bound ba (x := y) ⟨y0, by omega⟩
       have lb : (msa ++ [y]).length ≤ 20 * i + 2 := by
         rw [List.length_append]
         show msa.length + 1 ≤ _
         omega
       generalize msa ++ [y] = msb at eb bb lb
       walk_at "g"
       refine tyL eb ?_
       walk_at "g"
       refine q_I (.inl ⟨by omega, by omega⟩) ?_
       walk_at "g"
       refine q_I ⟨by decide, by decide⟩ ?_
       walk_at "g"
       refine q_I (by decide) ?_
       walk_at "g"
       obtain ⟨x0, x1⟩ := fmod_lt (a := (low * (31 + (i + 1))).fdiv 7) (b := 997) (by decide)
       generalize ((low * (31 + (↑i + 1))).fdiv 7).fmod 997 = x at x0 x1
       refine q_append eb (by rw [List.length_map]; exact len_small (by omega)) ?_
       rw [ints_snoc]
       obtain ⟨z5, z6⟩ := step z3 z4 eb (fun _ _ z => nomatch z) (.lst ((msb ++ [x]).map V.int))
       walk_at "g"
       refine ⟨_, _, _, _, msb ++ [x], rfl, z5, z6, upd_same, ?_, snoc_bound bb ⟨x0, by omega⟩⟩
       rw [List.length_append]
       show msb.length + 1 ≤ _
       omega
   · rintro σ Hi ⟨v3, v4, v5, v6, ms, rfl, si, sq, er, hl, hb⟩
     walk_at "g"
     exact hq r Hi ms si hr1 er (by omega) hb
  case len =>
   obtain ⟨a, ns, rfl, _⟩ := h
   rfl

abbrev lim : Int := 1000000000000
/-- _law_draw(jar, at, many): a number from 0 to many - 1, the place goes on -/
def spDraw : Sp := fun vs H Q _ => ∃ (j a : Addr) (p many : Int), vs = [.ref j, .ref a, .int many] ∧ Rnd H j a p ∧ p ≤ lim ∧ 0 < many ∧
  ∀ v p', 0 ≤ v → v < many → p ≤ p' → p' ≤ p + 1 → Q (.int v) (upd H a (.lst [.int p']))
theorem atI_int {ns : List Int} {p : Int} (h0 : 0 ≤ p) (h1 : p < ns.length) : ∃ n ∈ ns, atI (ns.map V.int) p = some (.int n) := by
  obtain ⟨k, rfl⟩ : ∃ k : Nat, p = k := ⟨p.toNat, by omega⟩
  have hk : k < ns.length := by omega
  exact ⟨ns[k], List.getElem_mem hk, atI_nat (by rw [List.getElem?_map, List.getElem?_eq_getElem hk]; rfl)⟩
theorem sc_law_draw : FnScope ["jar", "at", "many", "place"] ["jar", "at", "many"] (defScope s_law_draw) := ⟨rfl, rfl, rfl, by decide +kernel, rfl, by decide +kernel, by decide +kernel⟩
theorem d_law_draw (B : Bt mg) (F : TopF K mg "_law_draw" s_law_draw ["jar", "at", "many"]) : Df P w K mg base "_law_draw" ["jar", "at", "many"] 1 (spDraw) := by
  refine F.df sc_law_draw (fun vs H Q E h => ?len) (fun f cdv A outer s H vs Q E hr h => ?body)
  case body =>
   have hu := hr.units
   refine ⟨_, (pss_cons (ps_if (pt_cmpR (k_eq (K := K) rfl hu) (pe_callB (k_len (K := K) rfl) (by rfl) B.b_len (by decide +kernel) (pa_cons (pv 0) pa_nil)) pe_int (nomark _))
      (pss_one (ps_ret pe_int))
      pss_nil)
      (pss_cons (ps_set (i := 3) sc_law_draw.nd rfl (Or.inl rfl) (pe_ix (k_ix (K := K) rfl hu) (pv 1) pe_int (fun _ _ => rfl)))
      (pss_cons (ps_asg (pe_op (k_add (K := K) rfl) (pv 3) pe_int) (pg_sub (pv 1) pe_int (set_any hu)))
      (pss_cons (ps_if (pt_cmpR op_lt (pv 3) (pe_callB (k_len (K := K) rfl) (by rfl) B.b_len (by decide +kernel) (pa_cons (pv 0) pa_nil)) (nomark _))
      (pss_one (ps_ret (pe_op op_modN (pe_callTy k_int (by rfl) B.b_int (by decide +kernel) (pa_cons (pe_ix (k_ix (K := K) rfl hu) (pv 0) (pv 3) (fun _ _ => rfl)) pa_nil)) (pv 2))))
      pss_nil)
      (pss_one (ps_ret (pe_op op_modN (pe_op op_modN (pe_callTy k_int (by rfl) B.b_int (by decide +kernel) (pa_cons (pe_op (k_add (K := K) rfl) (pe_op (k_add (K := K) rfl) (pe_op op_mul (pe_ix (k_ix (K := K) rfl hu) (pv 0) (pe_op op_modN (pe_callTy k_int (by rfl) B.b_int (by decide +kernel) (pa_cons (pv 3) pa_nil)) (pe_callB (k_len (K := K) rfl) (by rfl) B.b_len (by decide +kernel) (pa_cons (pv 0) pa_nil))) (fun _ _ => rfl)) pe_int) (pe_op op_mul (pv 3) pe_int)) (pe_op op_mul (pe_op op_fdivN (pv 3) (pe_callB (k_len (K := K) rfl) (by rfl) B.b_len (by decide +kernel) (pa_cons (pv 0) pa_nil))) pe_int)) pa_nil)) pe_int) (pv 2)))))))), ?_⟩
   obtain ⟨j, a, p, many, rfl, hR, hp, hm, hq⟩ := h
   obtain ⟨ns, e1, l1, b1⟩ := hR.ex
   have p0 := hR.p0
   have ea := hR.at_
   walk_at "g"
   refine q_lenL (.inl (.inl e1)) ?_
   walk_at "g"
   rw [List.length_map]
   refine q_dec (fun h0 => ?_) (fun h0 => ?_)
   · walk_at "g"
     have := hq 0 p (Int.le_refl 0) hm (Int.le_refl p) (by omega)
     rw [upd_self ea] at this
     exact this
   · walk_at "g"
     refine q_ixL (.inl (.inl ea)) (atI_nat (j := 0) rfl) ?_
     walk_at "g"
     refine q_setL (j := 0) ea rfl ?_
     have hh := hq
     have e2 : (upd H a (.lst [.int (p + 1)])) j = some (.lst (ns.map V.int)) := by rw [upd_ne hR.ne]; exact e1
     walk_at "g"
     refine q_lenL (.inl (.inl e2)) ?_
     walk_at "g"
     rw [List.length_map]
     refine q_dec (fun h1 => ?_) (fun h1 => ?_)
     · obtain ⟨n, hn, hat⟩ := atI_int p0 h1
       walk_at "g"
       refine q_ixL (.inl (.inl e2)) hat ?_
       walk_at "g"
       refine q_intI ?_
       walk_at "g"
       refine q_I (show many ≠ 0 by omega) ?_
       obtain ⟨z1, z2⟩ := fmod_lt (a := n) hm
       exact hq _ (p + 1) z1 z2 (by omega) (by omega)
     · walk_at "g"
       refine q_intI ?_
       walk_at "g"
       refine q_lenL (.inl (.inl e2)) ?_
       have hl0 : (0 : Int) < ns.length := by omega
       walk_at "g"
       rw [List.length_map]
       refine q_I (show (ns.length : Int) ≠ 0 by omega) ?_
       walk_at "g"
       obtain ⟨z1, z2⟩ := fmod_lt (a := p) hl0
       obtain ⟨n, hn, hat⟩ := atI_int z1 z2
       have hb := b1 n hn
       refine q_ixL (.inl (.inl e2)) hat ?_
       walk_at "g"
       refine q_I (.inr ⟨by decide, by decide⟩) ?_
       walk_at "g"
       refine q_I (.inr ⟨by decide, by decide⟩) ?_
       walk_at "g"
       refine q_lenL (.inl (.inl e2)) ?_
       walk_at "g"
       rw [List.length_map]
       refine q_I ⟨show (ns.length : Int) ≠ 0 by omega, by omega⟩ ?_
       walk_at "g"
       refine q_I (.inr ⟨by decide, by decide⟩) ?_
       walk_at "g"
       refine q_intI ?_
       walk_at "g"
       refine q_I (by decide) ?_
       walk_at "g"
       refine q_I (show many ≠ 0 by omega) ?_
       generalize ((n * 61 + p * 37 + p.fdiv ↑(List.length ns) * 11).fmod 983) = y
       obtain ⟨z1, z2⟩ := fmod_lt (a := y) hm
       exact hq _ (p + 1) z1 z2 (by omega) (by omega)
  case len =>
   obtain ⟨j, a, p, many, rfl, _⟩ := h
   rfl
/-- an entry that is drawn -/
inductive Ent : Tr → Prop
  | int (i : Int) : 1 ≤ i → i ≤ 3 → Ent (.int i)
  | tup (k : Int) : 0 ≤ k → k < 3 → Ent (.tup [.str "b", .int k])
  | word : Ent (.str "word")
theorem Ent.imm {d : Tr} (h : Ent d) : imm d = true := by
  cases h <;> rfl
/-- _law_entry(jar, at) -/
def spEnt (K : PySem.W.Frag) : Sp := fun vs H Q _ => ∃ (j a : Addr) (p : Int), vs = [.ref j, .ref a] ∧ Rnd H j a p ∧ p + 1 ≤ lim ∧
  ∀ v d H' p', Ent d → Kp a H H' → Rnd H' j a p' → p ≤ p' → p' ≤ p + 2 → T K H' ff v d → Q v H'
theorem sc_law_entry : FnScope ["jar", "at", "pick"] ["jar", "at"] (defScope s_law_entry) := ⟨rfl, rfl, rfl, by decide +kernel, rfl, by decide +kernel, by decide +kernel⟩
theorem d_law_entry (B : Bt mg) (F : TopF K mg "_law_entry" s_law_entry ["jar", "at"]) (D_law_draw : Df P w K mg base "_law_draw" ["jar", "at", "many"] 1 (spDraw)) : Df P w K mg base "_law_entry" ["jar", "at"] 2 (spEnt K) := by
  refine F.df sc_law_entry (fun vs H Q E h => ?len) (fun f cdv A outer s H vs Q E hr h => ?body)
  case body =>
   have hu := hr.units
   refine ⟨_, (pss_cons (ps_set (i := 2) sc_law_entry.nd rfl (Or.inl rfl) (pe_df D_law_draw (hr.mono (by decide)) (fun σ => passAt (takes_of rfl rfl rfl rfl) σ) (pa_cons (pv 0) (pa_cons (pv 1) (pa_cons pe_int pa_nil)))))
      (pss_cons (ps_if (pt_cmpR op_lt (pv 2) pe_int (nomark _))
      (pss_one (ps_ret (pe_op (k_add (K := K) rfl) (pv 2) pe_int)))
      pss_nil)
      (pss_cons (ps_if (pt_cmpR (k_eq (K := K) rfl hu) (pv 2) pe_int (nomark _))
      (pss_one (ps_ret (pe_tup (pa_cons pe_str (pa_cons (pe_df D_law_draw (hr.mono (by decide)) (fun σ => passAt (takes_of rfl rfl rfl rfl) σ) (pa_cons (pv 0) (pa_cons (pv 1) (pa_cons pe_int pa_nil)))) pa_nil)))))
      pss_nil)
      (pss_one (ps_ret pe_str))))), ?_⟩
   obtain ⟨j, a, p, rfl, hR, hp, hq⟩ := h
   have p0 := hR.p0
   walk_at "g"
   refine ⟨j, a, p, 5, rfl, hR, by omega, by decide, fun v p1 v0 v1 h1 h2 => ?_⟩
   have R1 := hR.set (p' := p1) (by omega)
   have k1 : Kp a H (upd H a (.lst [.int p1])) := Kp.upd
   walk_at "g"
   refine q_dec (fun c => ?_) (fun c => ?_)
   · walk_at "g"
     exact hq _ (.int (v + 1)) _ p1 (.int _ (by omega) (by omega)) k1 R1 h1 (by omega) (.int _)
   · walk_at "g"
     refine q_dec (fun c2 => ?_) (fun c2 => ?_)
     · walk_at "g"
       refine ⟨j, a, p1, 3, rfl, R1, by omega, by decide, fun w p2 w0 w1 g1 g2 => ?_⟩
       have R2 := R1.set (p' := p2) (by omega)
       walk_at "g"
       intro t ht
       refine hq _ (.tup [.str "b", .int w]) _ p2 (.tup w w0 w1) ((k1.trans Kp.upd).new ?_) (R2.same (same_new ht)) (by omega) (by omega) (.tup st_new (.cons (.str _) (.cons (.int _) .nil)))
       cases z : H t with
       | none => rfl
       | some o =>
         by_cases hta : t = a
         · rw [hta, upd_same] at ht
           cases ht
         · rw [upd_ne hta, upd_ne hta, z] at ht
           cases ht
     · walk_at "g"
       exact hq _ (.str "word") _ p1 .word k1 R1 h1 (by omega) (.str _)
  case len =>
   obtain ⟨j, a, p, rfl, _⟩ := h
   rfl

-- _law_copy(house): as copy_house
theorem sc_law_copy : FnScope ["house", "found", "key", "name"] ["house"] (defScope s_law_copy) := ⟨rfl, rfl, rfl, by decide +kernel, rfl, by decide +kernel, by decide +kernel⟩
theorem d_law_copy (B : Bt mg) (F : TopF K mg "_law_copy" s_law_copy ["house"]) : Df P w K mg base "_law_copy" ["house"] 1 (spCH K) := by
  refine F.df sc_law_copy (fun vs H Q E h => ?len) (fun f cdv A outer s H vs Q E hr h => ?body)
  case body =>
   have hu := hr.units
   refine ⟨_, (pss_cons (ps_set (i := 1) sc_law_copy.nd rfl (Or.inl rfl) pe_dnewK)
      (pss_cons (ps_lockU (ps_for (passes_of rfl) rfl (k_walk (K := K) rfl (pv 0)) (pg_name (i := 2) sc_law_copy.nd rfl (Or.inl rfl))
      (pss_cons (ps_asg pe_dnewK (pg_sub (pv 1) (pv 2) (set_any hu)))
      (pss_one (ps_for (passes_of rfl) rfl (k_walk (K := K) rfl (pe_callB (k_sort (K := K) rfl rfl) (by rfl) B.b_sorted (by decide +kernel) (pa_cons (pe_ix (k_ix (K := K) rfl hu) (pv 0) (pv 2) (fun _ _ => rfl)) pa_nil))) (pg_name (i := 3) sc_law_copy.nd rfl (Or.inl rfl))
      (pss_one (ps_asg (pe_ix (k_ix (K := K) rfl hu) (pe_ix (k_ix (K := K) rfl hu) (pv 0) (pv 2) (fun _ _ => rfl)) (pv 3) (fun _ _ => rfl)) (pg_sub (pe_ix (k_ix (K := K) rfl hu) (pv 1) (pv 2) (fun _ _ => rfl)) (pv 3) (set_any hu)))))))))
      (pss_one (ps_ret (pv 1))))), ?_⟩
   obtain ⟨N, a, h, rfl, ha, wf, fit, hl, hq⟩ := h
   obtain ⟨a', kvs, ea, _, hrd, tk⟩ := ha.dicAt
   cases ea
   walk_at "g"
   intro r hr0
   have s0 : Same H (upd H r (.dK [])) := same_new hr0
   generalize hH0 : upd H r (.dK []) = Hz at s0
   have er0 : Hz r = some (.dK []) := by rw [← hH0]; exact upd_same
   walk_at "g"
   refine q_lockS (Sm.rd s0 hrd) fun Hl od un D' lkd hD' => ?_
   walk_at "g"
   refine q_keys ?_
   walk_at "g"
   refine q_keysE lkd.at_ ?_
   have hlen : kvs.length = h.length := by rw [tk.length]; unfold hK; rw [List.length_map]
   have L0 : Lk1 H a kvs od Hl := ⟨fun b o e n => lkd.l1.keep b o (s0 b o e) n, lkd.at_⟩
   have era : Hl r = some (.dK []) := by rw [lkd.el r (L0.ne hrd hr0)]; exact er0
   refine for_keysS (kvs := kvs) (fun i σ H1 => ∃ (v2 v3 : Option V), σ = [some (.ref a), some (.ref r), v2, v3] ∧ Lk1 H a kvs od H1 ∧ Own K (fun b => H b = none) H1 r (cpH (h.take i))) ?_ ?_ ?_ ?_
   · exact ⟨none, none, rfl, L0, by rw [List.take_zero]; exact Own.nil era hr0⟩
   · rintro i σ H1 _ ⟨v2, v3, rfl, l, _⟩
     exact l.at_
   · rintro i k v σ H1 hkv ⟨v2, v3, rfl, l1, o1⟩
     obtain ⟨d0, g1, g2⟩ := Tk.at tk hkv
     obtain ⟨n, t, hn, rfl, rfl⟩ := hK_at g1
     have hm := mem_at hn
     have wft := wf.tab _ hm
     have ft : t.length ≤ 60 := fit _ hm
     have hlk : lk h n = some t := lk_of_mem wf.nd hm
     obtain ⟨q', es', hv, _, hq2, tkq'⟩ := T.tab tk hlk
     have tkq := (tkq'.imm wft.2 : Tk K H ff es' (tK t))
     have nn : n ∉ nms (cpH (h.take i)) := by
       rw [nms_cpH, nms_take]
       exact nd_at wf.nd (nms_at hn)
     have hil : i < h.length := by
       rw [← hlen]
       exact (List.getElem?_eq_some_iff.mp hkv).1
     walk_at "g"
     intro q hqn
     have s2 : Same H1 (upd H1 q (.dK [])) := same_new hqn
     have hqf := l1.fresh hqn
     obtain ⟨kvs2, k1, k2, k3⟩ := o1.push (t := []) nn hqn hqf s2 upd_same .nil
     have l3 : kvs2.length < sizeLine := by
       rw [k2, len_cp, List.length_take]
       exact len_small (by omega)
     walk_at "g"
     refine q_setD (.inr n) k1 l3 ?_
     have l2 : Lk1 H a kvs od (upd (upd H1 q (.dK [])) r (.dK (putK kvs2 (.inr n) (.ref q)))) := (l1.upd hrd hqf).upd hrd hr0
     generalize hH2 : upd (upd H1 q (.dK [])) r (.dK (putK kvs2 (.inr n) (.ref q))) = H2 at k3 l2
     walk_at "g"
     refine q_items ?_
     walk_at "g"
     refine q_ixK (.inr n) (.inr ⟨od, l2.at_⟩) hv ?_
     walk_at "g"
     refine q_sortD (ks := nms t) ((l2.rs hrd).dk hq2) (by rw [tkq.keys, keys_tK]) (by rw [nms_len]; omega) fun p hp => ?_
     have s3 : Same H2 (upd H2 p (.lst ((srt (nms t)).map V.str))) := same_new hp
     generalize hH3 : upd H2 p (.lst ((srt (nms t)).map V.str)) = H3 at s3
     have ep3 : H3 p = some (.lst ((srt (nms t)).map V.str)) := by rw [← hH3]; exact upd_same
     have l3' := l2.same s3
     have hpf := l2.fresh hp
     refine q_itemsE (.inl (.inl ep3)) ?_
     have nn2 : n ∉ nms (cpH (h.take i)) := nn
     refine for_items (xs := (srt (nms t)).map V.str) (fun jj σ H4 => ∃ (v3 : Option V), σ = [some (.ref a), some (.ref r), some (.str n), v3] ∧ Lk1 H a kvs od H4 ∧ H4 p = some (.lst ((srt (nms t)).map V.str)) ∧ Own K (fun b => H b = none) H4 r (cpH (h.take i) ++ [(n, (ord t).take jj)])) ?_ ?_ ?_ ?_
     · exact ⟨v3, rfl, l3', ep3, by rw [List.take_zero]; exact k3.mono s3⟩
     · rintro jj σ H4 _ ⟨v3, rfl, l4, e4, o4⟩
       exact .inl (.inl e4)
     · rintro jj x σ H4 hx ⟨v3, rfl, l4, e4, o4⟩
       obtain ⟨m, hm2, rfl⟩ := srt_at hx
       obtain ⟨dm, ho, hlm⟩ := ord_at hm2
       obtain ⟨vm, hvm, tvm⟩ := tkq.ent hlm
       obtain ⟨kv4, q4, es4, c1, c2, c3, c4, c5, c6, c7, back⟩ := o4.at (lk_snoc nn)
       have hq4 : es4.length < sizeLine := by
         rw [c4.length]
         unfold tK
         rw [List.length_map, List.length_take, len_ord]
         exact len_small (by omega)
       walk_at "g"
       refine q_ixK (.inr n) (.inr ⟨od, l4.at_⟩) hv ?_
       walk_at "g"
       refine q_ixK (.inr m) ((l4.rs hrd).dk hq2) hvm ?_
       walk_at "g"
       refine q_ixK (.inr n) (.inl c1) c2 ?_
       walk_at "g"
       refine q_setD (.inr m) c3 hq4 ?_
       have nk : (Sum.inr m : Key) ∉ es4.map (·.1) := by
         rw [c4.keys, keys_tK, nms_take, nms_ord]
         exact fun z => nd_at ((srt_perm _).nodup_iff.mpr wft.1) hm2 (inr_mem.mp z)
       have tk5 : Tk K H4 ff (putK es4 (.inr m) vm) (tK ((ord t).take (jj + 1))) := by
         rw [putK_fresh nk, take_more ho, tK_snoc]
         exact c4.append (Tk.cons (k := Sum.inr m) (tvm.rs (l4.rs hrd)) .nil)
       have o5 := back _ _ tk5
       rw [put_snoc nn] at o5
       exact ⟨_, rfl, l4.upd hrd c5, sqL_dk c3 e4, o5⟩
     · rintro σ H4 ⟨v3, rfl, l4, e4, o4⟩
       have hle : (ord t).take ((srt (nms t)).map V.str).length = ord t := by
         rw [List.length_map, (srt_perm _).length_eq, nms_len, ← len_ord t, List.take_length]
       rw [hle] at o4
       refine ⟨some (.str n), v3, rfl, l4, ?_⟩
       rw [cpH_take, take_more (cpH_at hn), ← cpH_take]
       exact o4
   · rintro σ H1 ⟨v2, v3, rfl, l1, o1⟩
     refine hD'.nx _ _ l1.at_ ?_
     rw [hlen, List.take_length] at o1
     walk_at "g"
     exact hq r _ (l1.out lkd s0) (lkd.own (fun b e => l1.ne hrd e) l1.at_ o1)
  case len =>
   obtain ⟨N, a, h, rfl, _⟩ := h
   rfl

/-- _law_after(house, edit), the edit can be applied -/
def spAF (K : PySem.W.Frag) : Sp := fun vs H Q _ => ∃ (N : Addr → Prop) (a : Addr) (v : V) (h h' : Hs) (e : Ed), vs = [.ref a, v] ∧ T K H N (.ref a) (.dic (hK h)) ∧ T K H ff v e.tr ∧
  Wf h ∧ e.Imm ∧ Fits 59 h ∧ h.length ≤ 900 ∧ app1 (cpH h) e = .ok h' ∧ ∀ r H', Same H H' → Own K (fun b => H b = none) H' r (cpH h') → Q (.ref r) H'
theorem sc_law_after : FnScope ["house", "edit", "found"] ["house", "edit"] (defScope s_law_after) := ⟨rfl, rfl, rfl, by decide +kernel, rfl, by decide +kernel, by decide +kernel⟩
theorem d_law_after (B : Bt mg) (F : TopF K mg "_law_after" s_law_after ["house", "edit"]) (D_law_copy : Df P w K mg base "_law_copy" ["house"] 1 (spCH K)) : Df P w K mg base "_law_after" ["house", "edit"] 3 (spAF K) := by
  refine F.df sc_law_after (fun vs H Q E h => ?len) (fun f cdv A outer s H vs Q E hr h => ?body)
  case body =>
   have hu := hr.units
   refine ⟨_, (pss_cons (ps_set (i := 2) sc_law_after.nd rfl (Or.inl rfl) (pe_df D_law_copy (hr.mono (by decide)) (fun σ => passAt (takes_of rfl rfl rfl rfl) σ) (pa_cons (pv 0) pa_nil)))
      (pss_cons (ps_if (pt_cmpR (k_eq (K := K) rfl hu) (pe_ix (k_ix (K := K) rfl hu) (pv 1) pe_int (fun _ _ => rfl)) pe_str (nomark _))
      (pss_one (ps_asg (pe_ix (k_ix (K := K) rfl hu) (pv 1) pe_int (fun _ _ => rfl)) (pg_sub (pe_ix (k_ix (K := K) rfl hu) (pv 2) (pe_ix (k_ix (K := K) rfl hu) (pv 1) pe_int (fun _ _ => rfl)) (fun _ _ => rfl)) (pe_ix (k_ix (K := K) rfl hu) (pv 1) pe_int (fun _ _ => rfl)) (set_any hu))))
      (pss_one (ps_expr (pe_dpop1 (pe_ix (k_ix (K := K) rfl hu) (pv 2) (pe_ix (k_ix (K := K) rfl hu) (pv 1) pe_int (fun _ _ => rfl)) (fun _ _ => rfl)) (pe_ix (k_ix (K := K) rfl hu) (pv 1) pe_int (fun _ _ => rfl)) ⟨rfl, rfl, rfl, rfl⟩))))
      (pss_one (ps_ret (pe_df D_law_copy (hr.mono (by decide)) (fun σ => passAt (takes_of rfl rfl rfl rfl) σ) (pa_cons (pv 2) pa_nil)))))), ?_⟩
   obtain ⟨N, a, v, h, h', e, rfl, ha, he, wf, im, fit, hl, hap, hq⟩ := h
   obtain ⟨w', f', n'⟩ := app1_ok wf.cp im fit.cp hap
   walk_at "g"
   refine ⟨N, a, h, rfl, ha, wf, fun p hp => Nat.le_trans (fit p hp) (by decide), hl, fun r H1 s1 o1 => ?_⟩
   obtain ⟨b, rfl, he'⟩ := Ed.at (he.mono s1)
   cases e1 : lk (cpH h) e.key with
   | none =>
     simp only [app1, e1] at hap
     cases hap
   | some t =>
     obtain ⟨kvs, q, es, h1, h2, h3, h4, nq, nr, ne, back⟩ := o1.at e1
     have hm := lk_mem e1
     have wt := wf.cp.tab _ hm
     have ft : t.length ≤ 59 := fit.cp _ hm
     have hsz : es.length < sizeLine := by
       rw [h4.length]
       unfold tK
       rw [List.length_map]
       exact len_small (by omega)
     have fin : ∀ es', Own K (fun b => H b = none) (upd H1 q (.dK es')) r h' → tRet (tCallS (spCH K) (WE fun cls d _ H => E cls d H) (tCons (tVar 2) tNil)) { nx := fun _ H' => Q .non H', rt := Q } [some (.ref a), some (.ref b), some (.ref r)] (upd H1 q (.dK es')) := fun es' o' => by
       walk_at "g"
       refine ⟨_, r, h', rfl, o'.T, w', f', by rw [len_of_nms n', len_cp]; exact hl, fun r2 H2 s2 o2 => ?_⟩
       have sq : Same H (upd H1 q (.dK es')) := fun z o ez => by
         rw [upd_ne (ne_of_none ez nq)]
         exact s1 z o ez
       exact hq r2 H2 (sq.trans s2) (o2.imp fun b e => sq.free e)
     cases e with
     | put k n x =>
       obtain ⟨y, hs, ty⟩ := he'
       simp only [app1, e1] at hap
       cases hap
       walk_at "g"
       walk_at "ix"
       walk_at "g"
       rw [decide_eq_true rfl]
       walk_at "g"
       walk_at "ix"
       walk_at "g"
       walk_at "ix"
       walk_at "g"
       refine q_ixK (.inr k) (.inl h1) h2 ?_
       walk_at "g"
       walk_at "ix"
       refine q_setD (.inr n) h3 hsz ?_
       refine fin _ (back _ _ ?_)
       rw [← put_tK wt.1]
       exact h4.put ty
     | drop k n =>
       have hs := he'
       by_cases hn : n ∈ nms t
       · simp only [app1, e1, if_pos hn] at hap
         cases hap
         obtain ⟨d, e3⟩ : ∃ d, lk t n = some d := by
           cases e3 : lk t n with
           | none => exact absurd hn (lk_none.mp e3)
           | some d => exact ⟨d, rfl⟩
         obtain ⟨vd, g1, g2⟩ := h4.ent e3
         walk_at "g"
         walk_at "ix"
         walk_at "g"
         rw [decide_eq_false (by decide)]
         walk_at "g"
         refine q_dpop1 ?_
         walk_at "g"
         walk_at "ix"
         walk_at "g"
         refine q_ixK (.inr k) (.inl h1) h2 ?_
         refine ⟨q, rfl, .inl ⟨es, .inl h3⟩, ?_⟩
         walk_at "g"
         walk_at "ix"
         refine ⟨es, .inr n, vd, h3, rfl, g1, ?_⟩
         refine fin _ (back _ _ ?_)
         rw [← del_tK wt.1]
         exact h4.del _
       · simp only [app1, e1, if_neg hn] at hap
         cases hap
  case len =>
   obtain ⟨N, a, v, h, h', e, rfl, _⟩ := h
   rfl
/-- _law_back(house, edit) -/
def spLB (K : PySem.W.Frag) : Sp := fun vs H Q _ => ∃ (N : Addr → Prop) (a : Addr) (v : V) (h : Hs) (e : Ed) (t : Tab), vs = [.ref a, v] ∧ T K H N (.ref a) (.dic (hK h)) ∧ T K H ff v e.tr ∧ Wf h ∧ lk h e.key = some t ∧
  ∀ u H', Same H H' → T K H' ff u (inv1 h e).tr → Q u H'
theorem Ed.two {H : Hp} {v : V} {e : Ed} {N : Addr → Prop} (h : T K H N v e.tr) : ∃ b ws, v = .ref b ∧ SqT K H b ws ∧ atI ws 1 = some (.str e.key) ∧ atI ws 2 = some (.str e.name) := by
  obtain ⟨b, rfl, he⟩ := Ed.at h
  cases e with
  | put k n x =>
    obtain ⟨y, hs, _⟩ := he
    exact ⟨b, _, rfl, hs, atI_nat (j := 1) rfl, atI_nat (j := 2) rfl⟩
  | drop k n => exact ⟨b, _, rfl, he, atI_nat (j := 1) rfl, atI_nat (j := 2) rfl⟩
/-- _law_same(told, house): True of one house twice, its tables in order -/
def spSame (K : PySem.W.Frag) : Sp := fun vs H Q _ => ∃ (N1 N2 : Addr → Prop) (a b : Addr) (h : Hs), vs = [.ref a, .ref b] ∧ T K H N1 (.ref a) (.dic (hK h)) ∧ T K H N2 (.ref b) (.dic (hK h)) ∧ Wf h ∧ Sml h ∧ AscH h ∧ Fits 60 h ∧ h.length ≤ 900 ∧
  ∀ H', Same H H' → Q (.bl true) H'
theorem sc_law_same : FnScope ["told", "house", "key"] ["told", "house"] (defScope s_law_same) := ⟨rfl, rfl, rfl, by decide +kernel, rfl, by decide +kernel, by decide +kernel⟩
theorem d_law_same (B : Bt mg) (F : TopF K mg "_law_same" s_law_same ["told", "house"]) : Df P w K mg base "_law_same" ["told", "house"] 1 (spSame K) := by
  refine F.df sc_law_same (fun vs H Q E h => ?len) (fun f cdv A outer s H vs Q E hr h => ?body)
  case body =>
   have hu := hr.units
   refine ⟨_, (pss_cons (ps_if (PW.pt (pw_or (pt_not (k_tr (K := K) rfl (pe_callB (k_isi (K := K) rfl) (by rfl) B.b_isinstance (by decide +kernel) (pa_cons (pv 0) (pa_cons (pe_bltn (v := .ty "dict") (by rfl) B.b_dict (by decide +kernel) rfl) pa_nil))))) (pw_or1 (pt_cmpR (k_ne (K := K) rfl hu) (pe_callTy (k_list (K := K) rfl rfl) (by rfl) B.b_list (by decide +kernel) (pa_cons (pv 0) pa_nil)) (pe_callTy (k_list (K := K) rfl rfl) (by rfl) B.b_list (by decide +kernel) (pa_cons (pv 1) pa_nil)) (nomark _)))))
      (pss_one (ps_ret pe_bl))
      pss_nil)
      (pss_cons (ps_lockU (ps_for (passes_of rfl) rfl (k_walk (K := K) rfl (pv 1)) (pg_name (i := 2) sc_law_same.nd rfl (Or.inl rfl))
      (pss_one (ps_if (PW.pt (pw_or (pt_not (k_tr (K := K) rfl (pe_callB (k_isi (K := K) rfl) (by rfl) B.b_isinstance (by decide +kernel) (pa_cons (pe_ix (k_ix (K := K) rfl hu) (pv 0) (pv 2) (fun _ _ => rfl)) (pa_cons (pe_bltn (v := .ty "dict") (by rfl) B.b_dict (by decide +kernel) rfl) pa_nil))))) (pw_or (pt_cmpR (k_ne (K := K) rfl hu) (pe_callTy (k_list (K := K) rfl rfl) (by rfl) B.b_list (by decide +kernel) (pa_cons (pe_ix (k_ix (K := K) rfl hu) (pv 0) (pv 2) (fun _ _ => rfl)) pa_nil)) (pe_callB (k_sort (K := K) rfl rfl) (by rfl) B.b_sorted (by decide +kernel) (pa_cons (pe_ix (k_ix (K := K) rfl hu) (pv 1) (pv 2) (fun _ _ => rfl)) pa_nil)) (nomark _)) (pw_or1 (pt_cmpR (k_ne (K := K) rfl hu) (pe_ix (k_ix (K := K) rfl hu) (pv 0) (pv 2) (fun _ _ => rfl)) (pe_ix (k_ix (K := K) rfl hu) (pv 1) (pv 2) (fun _ _ => rfl)) (nomark _))))))
      (pss_one (ps_ret pe_bl))
      pss_nil))))
      (pss_one (ps_ret pe_bl)))), ?_⟩
   obtain ⟨N1, N2, a, b, h, rfl, ha, hb, wf, sm, asc, fit, hl, hq⟩ := h
   obtain ⟨a', ka, ea, _, hra, tka⟩ := ha.dicAt
   cases ea
   obtain ⟨b', kb, eb, _, hrb, tkb⟩ := hb.dicAt
   cases eb
   have ka1 := tka.keys.trans (keys_hK h)
   have kb1 := tkb.keys.trans (keys_hK h)
   walk_at "g"
   refine q_isiD hra ?_
   walk_at "g"
   refine q_listK hra fun p hp => ?_
   have s1 := same_new (o := .lst (ka.map fun kv => kV kv.1)) hp
   walk_at "g"
   refine q_listK (Sm.rd s1 hrb) fun q hq1 => ?_
   have s2 := same_new (o := .lst (kb.map fun kv => kV kv.1)) hq1
   refine q_neStrs (ss := nms h) (by rw [← keysV ka1]; exact Sm.sqL s2 sq_new) (by rw [← keysV kb1]; exact sq_new) ?_
   have s3 := s1.trans s2
   generalize hHz : upd (upd H p (.lst (ka.map fun kv => kV kv.1))) q (.lst (kb.map fun kv => kV kv.1)) = Hz at s3
   walk_at "g"
   refine q_lockS (Sm.rd s3 hrb) fun Hl od un D' lkd hD' => ?_
   walk_at "g"
   refine q_keys ?_
   walk_at "g"
   refine q_keysE lkd.at_ ?_
   have hlen : kb.length = h.length := by rw [tkb.length]; unfold hK; rw [List.length_map]
   have L0 : Lk1 H b kb od Hl := ⟨fun c o e n => lkd.l1.keep c o (s3 c o e) n, lkd.at_⟩
   refine for_keysS (kvs := kb) (fun i σ H1 => ∃ (v2 : Option V), σ = [some (.ref a), some (.ref b), v2] ∧ Lk1 H b kb od H1) ?_ ?_ ?_ ?_
   · exact ⟨none, rfl, L0⟩
   · rintro i σ H1 _ ⟨v2, rfl, l⟩
     exact l.at_
   · rintro i k v σ H1 hkv ⟨v2, rfl, l1⟩
     obtain ⟨d0, g1, g2⟩ := Tk.at tkb hkv
     obtain ⟨n, t, hn, rfl, rfl⟩ := hK_at g1
     have hm := mem_at hn
     have wft := wf.tab _ hm
     have ft : t.length ≤ 60 := fit _ hm
     have hlk : lk h n = some t := lk_of_mem wf.nd hm
     obtain ⟨qa, ea, hva, _, hqa, tqa⟩ := T.tab tka hlk
     obtain ⟨qb, eb, hvb, _, hqb, tqb⟩ := T.tab tkb hlk
     have rs := l1.rs hrb
     walk_at "g"
     refine q_ixK (.inr n) (rs.dk hra) hva ?_
     walk_at "g"
     refine q_isiD (rs.dk hqa) ?_
     walk_at "g"
     refine q_ixK (.inr n) (rs.dk hra) hva ?_
     walk_at "g"
     refine q_listK (rs.dk hqa) fun p hp => ?_
     have s4 := same_new (o := .lst (ea.map fun kv => kV kv.1)) hp
     have rs4 := rs.trans (RS.of s4)
     walk_at "g"
     refine q_ixK (.inr n) (rs4.dk hrb) hvb ?_
     walk_at "g"
     refine q_sortD (ks := nms t) (rs4.dk hqb) (by rw [tqb.keys, keys_tK]) (by rw [nms_len]; omega) fun q hq2 => ?_
     have s5 := same_new (o := .lst ((srt (nms t)).map V.str)) hq2
     have rs5 := rs4.trans (RS.of s5)
     refine q_neStrs (ss := nms t) (by rw [← keysV (tqa.keys.trans (keys_tK t))]; exact Sm.sqL s5 sq_new) (by rw [srt_of_asc (asc _ hm)]; exact sq_new) ?_
     walk_at "g"
     refine q_ixK (.inr n) (rs5.dk hra) hva ?_
     walk_at "g"
     refine q_ixK (.inr n) (rs5.dk hrb) hvb ?_
     refine q_neTab (rs5.dk hqa) (rs5.dk hqb) (tqa.rs rs5) (tqb.rs rs5) wft.1 (wf.ent sm hm) ?_
     walk_at "g"
     exact ⟨_, rfl, (l1.same s4).same s5⟩
   · rintro σ H1 ⟨v2, rfl, l1⟩
     refine hD'.nx _ _ l1.at_ ?_
     walk_at "g"
     exact hq _ (l1.out lkd s3)
  case len =>
   obtain ⟨N1, N2, a, b, h, rfl, _⟩ := h
   rfl

abbrev keysL : List Str := ["t", "lanes", "a0"]
abbrev namesL : List Str := ["c", "a", "b10", "b9"]
/-- a house that is drawn -/
structure HG (h : Hs) : Prop where
  wf : Wf h
  keys : ∃ n, 1 ≤ n ∧ n ≤ 3 ∧ nms h = keysL.take n
  ent : ∀ q ∈ h, q.2.length ≤ 4 ∧ ∀ x ∈ q.2, x.1 ∈ namesL ∧ Ent x.2
/-- _law_house(jar, at) -/
def spHouse (K : PySem.W.Frag) : Sp := fun vs H Q _ => ∃ (j a : Addr) (p : Int), vs = [.ref j, .ref a] ∧ Rnd H j a p ∧ p + 200 ≤ lim ∧
  ∀ r h H' p', Kp a H H' → Rnd H' j a p' → p ≤ p' → p' ≤ p + 200 → H r = none → Own K (fun b => H b = none) H' r h → HG h → Q (.ref r) H'
theorem keysL_nd : keysL.Nodup := by decide +kernel
theorem namesL_nd : namesL.Nodup := by decide +kernel
theorem sc_law_house : FnScope ["jar", "at", "house", "key", "name"] ["jar", "at"] (defScope s_law_house) := ⟨rfl, rfl, rfl, by decide +kernel, rfl, by decide +kernel, by decide +kernel⟩
theorem d_law_house (B : Bt mg) (F : TopF K mg "_law_house" s_law_house ["jar", "at"]) (D_law_draw : Df P w K mg base "_law_draw" ["jar", "at", "many"] 1 (spDraw)) (D_law_entry : Df P w K mg base "_law_entry" ["jar", "at"] 2 (spEnt K)) : Df P w K mg base "_law_house" ["jar", "at"] 3 (spHouse K) := by
  refine F.df sc_law_house (fun vs H Q E h => ?len) (fun f cdv A outer s H vs Q E hr h => ?body)
  case body =>
   have hu := hr.units
   refine ⟨_, (pss_cons (ps_set (i := 2) sc_law_house.nd rfl (Or.inl rfl) pe_dnewK)
      (pss_cons (ps_lockU (ps_for (passes_of rfl) rfl (k_walk (K := K) rfl (pe_slice (k_sl (K := K) rfl) (pe_lst (pa_cons pe_str (pa_cons pe_str (pa_cons pe_str pa_nil)))) po_none (po_some (pe_op (k_add (K := K) rfl) pe_int (pe_df D_law_draw (hr.mono (by decide)) (fun σ => passAt (takes_of rfl rfl rfl rfl) σ) (pa_cons (pv 0) (pa_cons (pv 1) (pa_cons pe_int pa_nil)))))))) (pg_name (i := 3) sc_law_house.nd rfl (Or.inl rfl))
      (pss_cons (ps_asg pe_dnewK (pg_sub (pv 2) (pv 3) (set_any hu)))
      (pss_one (ps_lockU (ps_for (passes_of rfl) rfl (k_walk (K := K) rfl (pe_lst (pa_cons pe_str (pa_cons pe_str (pa_cons pe_str (pa_cons pe_str pa_nil)))))) (pg_name (i := 4) sc_law_house.nd rfl (Or.inl rfl))
      (pss_one (ps_if (pt_cmpR (k_eq (K := K) rfl hu) (pe_df D_law_draw (hr.mono (by decide)) (fun σ => passAt (takes_of rfl rfl rfl rfl) σ) (pa_cons (pv 0) (pa_cons (pv 1) (pa_cons pe_int pa_nil)))) pe_int (nomark _))
      (pss_one (ps_asg (pe_df D_law_entry (hr.mono (by decide)) (fun σ => passAt (takes_of rfl rfl rfl rfl) σ) (pa_cons (pv 0) (pa_cons (pv 1) pa_nil))) (pg_sub (pe_ix (k_ix (K := K) rfl hu) (pv 2) (pv 3) (fun _ _ => rfl)) (pv 4) (set_any hu))))
      pss_nil))))))))
      (pss_one (ps_ret (pv 2))))), ?_⟩
   obtain ⟨j, a, p, rfl, hR, hp, hq⟩ := h
   have p0 := hR.p0
   walk_at "g"
   intro r hr0
   obtain ⟨rj, ra⟩ := hR.ja hr0
   have s1 : Same H (upd H r (.dK [])) := same_new hr0
   walk_at "g"
   refine .inl ?_
   walk_at "g"
   refine q_items ?_
   walk_at "g"
   intro pl0 hpl0
   rw [show [V.str (PySem.Str.ofString "t"), V.str (PySem.Str.ofString "lanes"), V.str (PySem.Str.ofString "a0")] = keysL.map V.str from rfl]
   have s2 : Same (upd H r (.dK [])) (upd (upd H r (.dK [])) pl0 (.lst (keysL.map V.str))) := same_new hpl0
   have hpl0' : H pl0 = none := s1.free hpl0
   walk_at "g"
   refine ⟨j, a, p, 3, rfl, hR.same (s1.trans s2), by omega, by decide, fun v p1 v0 v1 h1 h2 => ?_⟩
   have R2 := (hR.same (s1.trans s2)).set (p' := p1) (by omega)
   walk_at "g"
   have e3 : (upd (upd (upd H r (.dK [])) pl0 (.lst (keysL.map V.str))) a (.lst [.int p1])) pl0 = some (.lst (keysL.map V.str)) := by
     rw [upd_ne (hR.ja hpl0').2, upd_same]
   have k2 : Kp a H (upd (upd (upd H r (.dK [])) pl0 (.lst (keysL.map V.str))) a (.lst [.int p1])) := (Kp.of (s1.trans s2)).trans Kp.upd
   have er : (upd (upd (upd H r (.dK [])) pl0 (.lst (keysL.map V.str))) a (.lst [.int p1])) r = some (.dK []) := by
     rw [upd_ne ra]
     exact s2 _ _ upd_same
   generalize upd (upd (upd H r (.dK [])) pl0 (.lst (keysL.map V.str))) a (.lst [.int p1]) = Hb at R2 e3 k2 er
   refine q_slL (.inl (.inl e3)) fun pl hpl => ?_
   obtain ⟨n, hn1, hn3, hcut⟩ : ∃ n, 1 ≤ n ∧ n ≤ 3 ∧ cutV (keysL.map V.str) none (some (1 + v)) = (keysL.take n).map V.str := by
     refine ⟨(1 + v).toNat, by omega, by omega, ?_⟩
     have : (1 + v) = (((1 + v).toNat : Nat) : Int) := by omega
     rw [this]
     exact cutV_take (by show (1 + v).toNat ≤ 3; omega)
   rw [hcut]
   have s4 : Same Hb (upd Hb pl (.lst ((keysL.take n).map V.str))) := same_new hpl
   have hplf : H pl = none := k2.fresh R2.at_ hpl
   have R3 := R2.same s4
   have k3 := k2.trans (Kp.of s4)
   have e4 := s4 _ _ er
   have e5 : (upd Hb pl (.lst ((keysL.take n).map V.str))) pl = some (.lst ((keysL.take n).map V.str)) := upd_same
   generalize upd Hb pl (.lst ((keysL.take n).map V.str)) = Hc at R3 k3 e4 e5
   have hNa : ∀ b, H b = none → b ≠ a := fun b e z => (hR.ja e).2 z
   have klen : (keysL.take n).length = n := by rw [List.length_take]; show min n 3 = n; omega
   refine q_itemsE (.inl (.inl e5)) ?_
   refine for_items (xs := (keysL.take n).map V.str) (fun i σ Hi => ∃ (v3 v4 : Option V) (hi : Hs) (pi : Int), σ = [some (.ref j), some (.ref a), some (.ref r), v3, v4] ∧ Kp a H Hi ∧ Rnd Hi j a pi ∧ p ≤ pi ∧ pi ≤ p + 1 + i * 20 ∧ Hi pl = some (.lst ((keysL.take n).map V.str)) ∧
     Own K (fun b => H b = none) Hi r hi ∧ nms hi = keysL.take i ∧ Wf hi ∧ ∀ q ∈ hi, q.2.length ≤ 4 ∧ ∀ x ∈ q.2, x.1 ∈ namesL ∧ Ent x.2) ?_ ?_ ?_ ?_
   · exact ⟨none, none, [], p1, rfl, k3, R3, h1, by omega, e5, Own.nil e4 hr0, rfl, ⟨List.nodup_nil, fun p hp => nomatch hp⟩, fun q hq => nomatch hq⟩
   · rintro i σ Hi _ ⟨v3, v4, hi, pi, rfl, _, _, _, _, e, _⟩
     exact .inl (.inl e)
   · rintro i x σ Hi hx ⟨v3, v4, hi, pi, rfl, ki, Ri, g1, g2, ei, oi, nmi, wfi, enti⟩
     obtain ⟨key, hkey, rfl⟩ := hlist_at hx
     have hin : i < n := by
       have := (List.getElem?_eq_some_iff.mp hkey).1
       rw [klen] at this
       exact this
     have hkey2 : keysL[i]? = some key := by
       rw [List.getElem?_take_of_lt hin] at hkey
       exact hkey
     have nk : key ∉ nms hi := by
       rw [nmi]
       exact nd_at keysL_nd hkey2
     have hil : hi.length ≤ 3 := by rw [← nms_len, nmi, List.length_take]; exact Nat.min_le_right _ _
     walk_at "g"
     intro q hqn
     have hqf : H q = none := ki.fresh Ri.at_ hqn
     obtain ⟨kvs2, c1, c2, c3⟩ := oi.push (t := []) nk hqn hqf (same_new hqn) upd_same .nil
     walk_at "g"
     refine q_setD (.inr key) c1 (by rw [c2]; exact len_small (by omega)) ?_
     have kj : Kp a H (upd (upd Hi q (.dK [])) r (.dK (putK kvs2 (.inr key) (.ref q)))) := (ki.trans (Kp.of (same_new hqn))).new hr0
     have Rj : Rnd (upd (upd Hi q (.dK [])) r (.dK (putK kvs2 (.inr key) (.ref q)))) j a pi := (Ri.same (same_new hqn)).upd c1 rj ra
     have ej : (upd (upd Hi q (.dK [])) r (.dK (putK kvs2 (.inr key) (.ref q)))) pl = some (.lst ((keysL.take n).map V.str)) := sq_ne (same_new (o := .dK []) hqn _ _ ei) c1 (fun z => nomatch z)
     generalize upd (upd Hi q (.dK [])) r (.dK (putK kvs2 (.inr key) (.ref q))) = Hj at c3 kj Rj ej
     walk_at "g"
     refine .inl ?_
     walk_at "g"
     refine q_items ?_
     walk_at "g"
     intro p2 hp2
     have s6 : Same Hj (upd Hj p2 (.lst (namesL.map V.str))) := same_new hp2
     have hp2f := kj.fresh Rj.at_ hp2
     refine q_itemsE (xs := namesL.map V.str) sq_new ?_
     refine for_items (xs := namesL.map V.str) (fun k σ Hk => ∃ (v4 : Option V) (tk : Tab) (pk : Int), σ = [some (.ref j), some (.ref a), some (.ref r), some (.str key), v4] ∧ Kp a H Hk ∧ Rnd Hk j a pk ∧ p ≤ pk ∧ pk ≤ p + 1 + i * 20 + k * 4 ∧ Hk pl = some (.lst ((keysL.take n).map V.str)) ∧
       Hk p2 = some (.lst (namesL.map V.str)) ∧ Own K (fun b => H b = none) Hk r (hi ++ [(key, tk)]) ∧ (nms tk).Sublist (namesL.take k) ∧ ∀ x ∈ tk, x.1 ∈ namesL ∧ Ent x.2) ?_ ?_ ?_ ?_
     · exact ⟨v4, [], pi, rfl, kj.trans (Kp.of s6), Rj.same s6, g1, by omega, s6 _ _ ej, upd_same, c3.mono s6, List.nil_sublist _, fun x hx => nomatch hx⟩
     · rintro k σ Hk _ ⟨v4, tk, pk, rfl, _, _, _, _, _, e, _⟩
       exact .inl (.inl e)
     · rintro k x σ Hk hx2 ⟨v4, tk, pk, rfl, kk, Rk, d1, d2, ek, ek2, ok, sub, enk⟩
       obtain ⟨m, hm, rfl⟩ := hlist_at hx2
       have hk4 : k < 4 := (List.getElem?_eq_some_iff.mp hm).1
       walk_at "g"
       refine ⟨j, a, pk, 2, rfl, Rk, by omega, by decide, fun w p4 w0 w1 d3 d4 => ?_⟩
       have R5 := Rk.set (p' := p4) (by omega)
       have k5 : Kp a H (upd Hk a (.lst [.int p4])) := kk.trans Kp.upd
       have o5 := ok.kp (Kp.upd (a := a) (o := .lst [.int p4])) Rk.at_ hNa
       have e5 : (upd Hk a (.lst [.int p4])) pl = some (.lst ((keysL.take n).map V.str)) := by
         rw [upd_ne (hNa pl hplf)]
         exact ek
       have e6 : (upd Hk a (.lst [.int p4])) p2 = some (.lst (namesL.map V.str)) := by
         rw [upd_ne (hNa p2 hp2f)]
         exact ek2
       generalize upd Hk a (.lst [.int p4]) = Hm at R5 k5 o5 e5 e6
       have sub' : (nms tk).Sublist (namesL.take (k + 1)) := sub.trans (by rw [take_more hm]; exact List.sublist_append_left _ _)
       walk_at "g"
       refine q_dec (fun _ => ?_) (fun _ => ?_)
       · walk_at "g"
         refine ⟨j, a, p4, rfl, R5, by omega, fun vd d H7 p7 hent k7 R7 f1 f2 td => ?_⟩
         have o7 := o5.kp k7 R5.at_ hNa
         obtain ⟨kv7, q7, es7, a1, a2, a3, a4, a5, a6, a7, back⟩ := o7.at (lk_snoc nk)
         have nm : m ∉ nms tk := fun z => nd_at namesL_nd hm (sub.subset z)
         have hlt : tk.length ≤ 4 := by
           have := sub.length_le
           rw [nms_len, List.length_take] at this
           omega
         walk_at "g"
         refine q_ixK (.inr key) (.inl a1) a2 ?_
         walk_at "g"
         refine q_setD (.inr m) a3 ?_ ?_
         · rw [a4.length]
           unfold tK
           rw [List.length_map]
           exact len_small (by omega)
         have nk7 : (Sum.inr m : Key) ∉ es7.map (·.1) := by
           rw [a4.keys, keys_tK]
           exact fun z => nm (inr_mem.mp z)
         have t8 : Tk K H7 ff (putK es7 (.inr m) vd) (tK (tk ++ [(m, d)])) := by
           rw [putK_fresh nk7, tK_snoc]
           exact a4.append (Tk.cons (k := Sum.inr m) td .nil)
         have o8 := back _ _ t8
         rw [put_snoc nk] at o8
         have e8 := k7 _ _ (hNa pl hplf) e5
         have e9 := k7 _ _ (hNa p2 hp2f) e6
         obtain ⟨qj, qa⟩ := hR.ja a5
         refine ⟨_, tk ++ [(m, d)], p7, rfl, (k5.trans k7).new a5, R7.upd a3 qj qa, by omega, by omega, sqL_dk a3 e8, sqL_dk a3 e9, o8, ?_, fun x hx => ?_⟩
         · rw [nms_append, take_more hm]
           exact sub.append (List.Sublist.refl _)
         · rcases List.mem_append.mp hx with hx | hx
           · exact enk x hx
           · rw [List.mem_singleton.mp hx]
             exact ⟨mem_at hm, hent⟩
       · walk_at "g"
         exact ⟨_, tk, p4, rfl, k5, R5, by omega, by omega, e5, e6, o5, sub', enk⟩
     · rintro σ Hk ⟨v4, tk, pk, rfl, kk, Rk, d1, d2, ek, ek2, ok, sub, enk⟩
       have d2' : pk ≤ p + 1 + i * 20 + 4 * 4 := d2
       have hlt : tk.length ≤ 4 := by
         have := sub.length_le
         rw [nms_len, List.length_take] at this
         exact Nat.le_trans this (Nat.min_le_right _ _)
       refine ⟨some (.str key), v4, hi ++ [(key, tk)], pk, rfl, kk, Rk, d1, by omega, ek, ok, ?_, ⟨?_, fun q hq => ?_⟩, fun q hq => ?_⟩
       · rw [nms_append, nmi, take_more hkey2]
         rfl
       · have z : nms (hi ++ [(key, tk)]) = keysL.take (i + 1) := by
           rw [nms_append, nmi, take_more hkey2]
           rfl
         rw [z]
         exact keysL_nd.sublist (List.take_sublist _ _)
       · rcases List.mem_append.mp hq with hq | hq
         · exact wfi.tab q hq
         · rw [List.mem_singleton.mp hq]
           exact ⟨(namesL_nd.sublist (List.take_sublist _ _)).sublist sub, fun x hx => (enk x hx).2.imm⟩
       · rcases List.mem_append.mp hq with hq | hq
         · exact enti q hq
         · rw [List.mem_singleton.mp hq]
           exact ⟨hlt, enk⟩
   · rintro σ Hi ⟨v3, v4, hi, pi, rfl, ki, Ri, g1, g2, ei, oi, nmi, wfi, enti⟩
     rw [List.length_map, klen] at nmi g2
     walk_at "g"
     exact hq r hi Hi pi ki Ri g1 (by omega) hr0 oi ⟨wfi, ⟨n, hn1, hn3, nmi⟩, enti⟩
  case len =>
   obtain ⟨j, a, p, rfl, _⟩ := h
   rfl

abbrev names5 : List Str := ["c", "a", "b10", "b9", "e"]
theorem names5_nd : names5.Nodup := by decide +kernel
/-- an edit that is drawn for a house -/
structure EdG (h : Hs) (e : Ed) : Prop where
  key : e.key ∈ nms h
  name : e.name ∈ names5
  ent : ∀ k n x, e = .put k n x → Ent x
theorem EdG.imm {h : Hs} {e : Ed} (g : EdG h e) : e.Imm := by
  cases e with
  | put k n x => exact (g.ent k n x rfl).imm
  | drop k n => trivial
theorem HG.fit {h : Hs} (g : HG h) : Fits 4 h := fun q hq => (g.ent q hq).1
theorem HG.len {h : Hs} (g : HG h) : 1 ≤ h.length ∧ h.length ≤ 3 := by
  obtain ⟨n, h1, h2, h3⟩ := g.keys
  have : h.length = min n 3 := by rw [← nms_len, h3, List.length_take]; rfl
  omega
/-- a house for which edits are drawn -/
structure HE (h : Hs) : Prop where
  wf : Wf h
  fit : Fits 20 h
  len : 1 ≤ h.length ∧ h.length ≤ 3
theorem HG.he {h : Hs} (g : HG h) : HE h := ⟨g.wf, fun q hq => Nat.le_trans (g.fit q hq) (by decide), g.len⟩
/-- _law_edits(jar, at, house, many) -/
def spEds (K : PySem.W.Frag) : Sp := fun vs H Q _ => ∃ (N : Addr → Prop) (j a r : Addr) (p : Int) (h : Hs) (many : Nat), vs = [.ref j, .ref a, .ref r, .int many] ∧ Rnd H j a p ∧ p + 100 ≤ lim ∧ many ≤ 10 ∧ (∀ b, N b → b ≠ a) ∧ T K H N (.ref r) (.dic (hK h)) ∧ HE h ∧
  ∀ l H' p' xs es, Kp a H H' → Rnd H' j a p' → p ≤ p' → p' ≤ p + 100 → H l = none → H' l = some (.lst xs) → Ts K H' ff xs (es.map Ed.tr) → es.length = many → (∀ e ∈ es, EdG h e) → (∃ f, appAll (cpH h) es = .ok f) → Q (.ref l) H'
theorem sc_law_edits : FnScope ["jar", "at", "house", "many", "edits", "shape", "k", "keys", "key", "name"] ["jar", "at", "house", "many"] (defScope s_law_edits) := ⟨rfl, rfl, rfl, by decide +kernel, rfl, by decide +kernel, by decide +kernel⟩
theorem d_law_edits (B : Bt mg) (F : TopF K mg "_law_edits" s_law_edits ["jar", "at", "house", "many"]) (D_law_after : Df P w K mg base "_law_after" ["house", "edit"] 3 (spAF K)) (D_law_draw : Df P w K mg base "_law_draw" ["jar", "at", "many"] 1 (spDraw)) (D_law_entry : Df P w K mg base "_law_entry" ["jar", "at"] 2 (spEnt K)) (D_law_copy : Df P w K mg base "_law_copy" ["house"] 1 (spCH K)) : Df P w K mg base "_law_edits" ["jar", "at", "house", "many"] 4 (spEds K) := by
  refine F.df sc_law_edits (fun vs H Q E h => ?len) (fun f cdv A outer s H vs Q E hr h => ?body)
  case body =>
   have hu := hr.units
   refine ⟨_, (pss_cons (ps_set (i := 4) sc_law_edits.nd rfl (Or.inl rfl) (pe_lst pa_nil))
      (pss_cons (ps_set (i := 5) sc_law_edits.nd rfl (Or.inl rfl) (pe_df D_law_copy (hr.mono (by decide)) (fun σ => passAt (takes_of rfl rfl rfl rfl) σ) (pa_cons (pv 2) pa_nil)))
      (pss_cons (ps_for (passes_of rfl) rfl (pi_range1 (by rfl) B.b_range (pa_cons (pv 3) pa_nil)) (pg_name (i := 6) sc_law_edits.nd rfl (Or.inl rfl))
      (pss_cons (ps_set (i := 7) sc_law_edits.nd rfl (Or.inl rfl) (pe_callTy (k_list (K := K) rfl rfl) (by rfl) B.b_list (by decide +kernel) (pa_cons (pv 2) pa_nil)))
      (pss_cons (ps_set (i := 8) sc_law_edits.nd rfl (Or.inl rfl) (pe_ix (k_ix (K := K) rfl hu) (pv 7) (pe_df D_law_draw (hr.mono (by decide)) (fun σ => passAt (takes_of rfl rfl rfl rfl) σ) (pa_cons (pv 0) (pa_cons (pv 1) (pa_cons (pe_callB (k_len (K := K) rfl) (by rfl) B.b_len (by decide +kernel) (pa_cons (pv 7) pa_nil)) pa_nil)))) (fun _ _ => rfl)))
      (pss_cons (ps_set (i := 9) sc_law_edits.nd rfl (Or.inl rfl) (pe_ix (k_ix (K := K) rfl hu) (pe_lst (pa_cons pe_str (pa_cons pe_str (pa_cons pe_str (pa_cons pe_str (pa_cons pe_str pa_nil)))))) (pe_df D_law_draw (hr.mono (by decide)) (fun σ => passAt (takes_of rfl rfl rfl rfl) σ) (pa_cons (pv 0) (pa_cons (pv 1) (pa_cons pe_int pa_nil)))) (fun _ _ => rfl)))
      (pss_cons (ps_if (PW.pt (pw_and (pt_cmpR (k_eq (K := K) rfl hu) (pe_df D_law_draw (hr.mono (by decide)) (fun σ => passAt (takes_of rfl rfl rfl rfl) σ) (pa_cons (pv 0) (pa_cons (pv 1) (pa_cons pe_int pa_nil)))) pe_int (nomark _)) (pw_and1 (pt_cmpR (k_in (K := K) rfl hu) (pv 9) (pe_ix (k_ix (K := K) rfl hu) (pv 5) (pv 8) (fun _ _ => rfl)) (by rfl)))))
      (pss_one (ps_expr (k_append (K := K) rfl (pv 4) (pa_cons (pe_tup (pa_cons pe_str (pa_cons (pv 8) (pa_cons (pv 9) pa_nil)))) pa_nil))))
      (pss_one (ps_expr (k_append (K := K) rfl (pv 4) (pa_cons (pe_tup (pa_cons pe_str (pa_cons (pv 8) (pa_cons (pv 9) (pa_cons (pe_df D_law_entry (hr.mono (by decide)) (fun σ => passAt (takes_of rfl rfl rfl rfl) σ) (pa_cons (pv 0) (pa_cons (pv 1) pa_nil))) pa_nil))))) pa_nil)))))
      (pss_one (ps_set (i := 5) sc_law_edits.nd rfl (Or.inl rfl) (pe_df D_law_after (hr.mono (by decide)) (fun σ => passAt (takes_of rfl rfl rfl rfl) σ) (pa_cons (pv 5) (pa_cons (pe_ix (k_ix (K := K) rfl hu) (pv 4) (pe_op op_sub (pe_callB (k_len (K := K) rfl) (by rfl) B.b_len (by decide +kernel) (pa_cons (pv 4) pa_nil)) pe_int) (fun _ _ => rfl)) pa_nil))))))))))
      (pss_one (ps_ret (pv 4)))))), ?_⟩
   obtain ⟨N, j, a, r, p, h, many, rfl, hR, hp, hmany, hNa, ho, hG, hq⟩ := h
   have p0 := hR.p0
   obtain ⟨hl1, hl3⟩ := hG.len
   walk_at "g"
   intro l hl
   have s1 : Same H (upd H l (.lst [])) := same_new hl
   walk_at "g"
   refine ⟨N, r, h, rfl, ho.mono s1, hG.wf, fun q hq => Nat.le_trans (hG.fit q hq) (by decide), by omega, fun sh H1 s2 o1 => ?_⟩
   have el : H1 l = some (.lst []) := s2 _ _ upd_same
   have o1' := o1.imp (N' := fun b => H b = none ∧ b ≠ l) fun b e => ⟨s1.free e, fun z => by
     rw [z, upd_same] at e
     cases e⟩
   have s12 := s1.trans s2
   have hja := hR.ja hl
   have hlen : (nms h).length = h.length := nms_len h
   walk_at "g"
   first | refine ⟨.int many, rfl, many, rfl, ?_, ?_, ?_⟩ | refine ⟨_, rfl, ?_, ?_, ?_⟩
   · omega
   · omega
   refine for_rng (lo := 0) (n := many) (fun i σ Hi => ∃ (g : Addr) (v6 v7 v8 v9 : Option V) (pi : Int) (xs : List V) (es : List Ed) (f : Hs), σ = [some (.ref j), some (.ref a), some (.ref r), some (.int many), some (.ref l), some (.ref g), v6, v7, v8, v9] ∧ Kp a H Hi ∧ Rnd Hi j a pi ∧ p ≤ pi ∧ pi ≤ p + 10 * i ∧
     Hi l = some (.lst xs) ∧ Ts K Hi ff xs (es.map Ed.tr) ∧ es.length = i ∧ (∀ e ∈ es, EdG h e) ∧ Own K (fun b => H b = none ∧ b ≠ l) Hi g (cpH f) ∧ appAll (cpH h) es = .ok f) ?_ ?_ ?_
   · exact ⟨sh, none, none, none, none, p, [], [], cpH h, rfl, Kp.of s12, hR.same s12, by omega, by omega, el, .nil, rfl, (fun e m => nomatch m), by rw [cp_cp hG.wf]; exact o1', rfl⟩
   · rintro i σ Hi hi ⟨g, v6, v7, v8, v9, pi, xs, es, f, rfl, ki, Ri, g1, g2, ei, ti, li, hes, oi, ai⟩
     obtain ⟨wf, ft, nf⟩ := appAll_ok hG.wf.cp (fun e m => (hes e m).imm) hG.fit.cp ai
     rw [nms_cp] at nf
     have hxl : xs.length = i := by rw [ti.length, List.length_map, li]
     have fin : ∀ {Hx : Hp} {e : Ed} {u : V} {Q5 : VK} {E5 : XK}, Own K (fun b => H b = none ∧ b ≠ l) Hx g (cpH f) → T K Hx ff u e.tr → EdG h e → (∃ f', app1 f e = .ok f') →
         (∀ f' r2 H2, app1 f e = .ok f' → Same Hx H2 → Own K (fun b => Hx b = none) H2 r2 (cpH f') → Q5 (.ref r2) H2) → spAF K [.ref g, u] Hx Q5 E5 := fun {Hx e u Q5 E5} o tu eg ⟨f', hf'⟩ hk => by
       obtain ⟨g', hg', hc⟩ := app1_cp wf wf.cp (cp_cp wf).symm hf'
       exact ⟨_, g, u, cpH f, g', e, rfl, o.T, tu, wf.cp, eg.imm, fun q hq => Nat.le_trans (ft.cp q hq) (by omega), by rw [len_cp, len_of_nms nf]; omega, by rw [cp_cp wf]; exact hg', fun r2 H2 s2 o2 => hk f' r2 H2 hf' s2 (by rw [hc]; exact o2)⟩
     obtain ⟨_, kvs, e9, _, er, tk9⟩ := (ho.kp (N' := N) ki hR.at_ fun b n => ⟨n, hNa b n⟩).dicAt
     cases e9
     have ek : kvs.map (·.1) = (nms h).map Sum.inr := by rw [tk9.keys, keys_hK]
     walk_at "g"
     refine q_listK er fun q hq1 => ?_
     rw [keysV ek]
     have s3 : Same Hi (upd Hi q (.lst ((nms h).map V.str))) := same_new hq1
     have hqH : H q = none := ki.fresh Ri.at_ hq1
     walk_at "g"
     refine q_lenL sq_new ?_
     walk_at "g"
     rw [List.length_map]
     refine ⟨j, a, pi, _, rfl, Ri.same s3, by omega, by omega, fun v p1 v0 v1 h1 h2 => ?_⟩
     have R2 := (Ri.same s3).set (p' := p1) (by omega)
     have k2 : Kp a H (upd (upd Hi q (.lst ((nms h).map V.str))) a (.lst [.int p1])) := (ki.trans (Kp.of s3)).trans Kp.upd
     have e2 : (upd (upd Hi q (.lst ((nms h).map V.str))) a (.lst [.int p1])) q = some (.lst ((nms h).map V.str)) := by rw [upd_ne (hR.ja hqH).2, upd_same]
     have el2 : (upd (upd Hi q (.lst ((nms h).map V.str))) a (.lst [.int p1])) l = some (.lst xs) := by rw [upd_ne hja.2]; exact s3 _ _ ei
     have t2 := (ti.mono s3).kp (N' := ff) (Kp.upd (a := a) (o := .lst [.int p1])) (s3 _ _ Ri.at_) fun _ z => z.elim
     have o2 := (oi.mono s3).kp (Kp.upd (a := a) (o := .lst [.int p1])) (s3 _ _ Ri.at_) fun b z => (hR.ja z.1).2
     generalize upd (upd Hi q (.lst ((nms h).map V.str))) a (.lst [.int p1]) = Ha at R2 k2 e2 el2 t2 o2
     obtain ⟨key, hkey, hat⟩ := atS v0 v1
     refine q_ixL (.inl (.inl e2)) hat ?_
     walk_at "g"
     intro q5 hq5
     rw [show [V.str (PySem.Str.ofString "c"), V.str (PySem.Str.ofString "a"), V.str (PySem.Str.ofString "b10"), V.str (PySem.Str.ofString "b9"), V.str (PySem.Str.ofString "e")] = names5.map V.str from rfl]
     have s4 : Same Ha (upd Ha q5 (.lst (names5.map V.str))) := same_new hq5
     have hq5H : H q5 = none := k2.fresh R2.at_ hq5
     walk_at "g"
     refine ⟨j, a, p1, 5, rfl, R2.same s4, by omega, by decide, fun v' p2 w0 w1 h3 h4 => ?_⟩
     have R3 := (R2.same s4).set (p' := p2) (by omega)
     have k3 : Kp a H (upd (upd Ha q5 (.lst (names5.map V.str))) a (.lst [.int p2])) := (k2.trans (Kp.of s4)).trans Kp.upd
     have e3 : (upd (upd Ha q5 (.lst (names5.map V.str))) a (.lst [.int p2])) q5 = some (.lst (names5.map V.str)) := by rw [upd_ne (hR.ja hq5H).2, upd_same]
     have el3 : (upd (upd Ha q5 (.lst (names5.map V.str))) a (.lst [.int p2])) l = some (.lst xs) := by rw [upd_ne hja.2]; exact s4 _ _ el2
     have t3 := (t2.mono s4).kp (N' := ff) (Kp.upd (a := a) (o := .lst [.int p2])) (s4 _ _ R2.at_) fun _ z => z.elim
     have o3 := (o2.mono s4).kp (Kp.upd (a := a) (o := .lst [.int p2])) (s4 _ _ R2.at_) fun b z => (hR.ja z.1).2
     generalize upd (upd Ha q5 (.lst (names5.map V.str))) a (.lst [.int p2]) = Hb at R3 k3 e3 el3 t3 o3
     obtain ⟨name, hname, hat2⟩ := atS (ss := names5) w0 w1
     refine q_ixL (.inl (.inl e3)) hat2 ?_
     walk_at "g"
     refine ⟨j, a, p2, 3, rfl, R3, by omega, by decide, fun v3 p3 x0 x1 h5 h6 => ?_⟩
     have R4 := R3.set (p' := p3) (by omega)
     have k4 : Kp a H (upd Hb a (.lst [.int p3])) := k3.trans Kp.upd
     have el4 : (upd Hb a (.lst [.int p3])) l = some (.lst xs) := by rw [upd_ne hja.2]; exact el3
     have t4 := t3.kp (N' := ff) (Kp.upd (a := a) (o := .lst [.int p3])) R3.at_ fun _ z => z.elim
     have o4 := o3.kp (Kp.upd (a := a) (o := .lst [.int p3])) R3.at_ fun b z => (hR.ja z.1).2
     generalize upd Hb a (.lst [.int p3]) = Hc at R4 k4 el4 t4 o4
     have hkf : key ∈ nms f := by rw [nf]; exact hkey
     obtain ⟨t, hlk⟩ := lk_mem_nms hkf
     have hlc : lk (cpH f) key = some (ord t) := by rw [lk_cp, hlk]; rfl
     have put_ok : ∀ x, ∃ f', app1 f (.put key name x) = .ok f' := fun x => by
       unfold app1
       rw [show (Ed.put key name x).key = key from rfl, hlk]
       exact ⟨_, rfl⟩
     have last : ∀ {Hx : Hp} {u : V} {e : Ed} {px : Int}, Kp a H Hx → Rnd Hx j a px → Hx l = some (.lst xs) → Ts K Hx ff xs (es.map Ed.tr) → Own K (fun b => H b = none ∧ b ≠ l) Hx g (cpH f) → T K Hx ff u e.tr →
         Kp a H (upd Hx l (.lst (xs ++ [u]))) ∧ Rnd (upd Hx l (.lst (xs ++ [u]))) j a px ∧ Ts K (upd Hx l (.lst (xs ++ [u]))) ff (xs ++ [u]) ((es ++ [e]).map Ed.tr) ∧ Own K (fun b => H b = none ∧ b ≠ l) (upd Hx l (.lst (xs ++ [u]))) g (cpH f) ∧ T K (upd Hx l (.lst (xs ++ [u]))) ff u e.tr := fun {Hx u e px} k R e1 tx o tu => by
       refine ⟨k.new hl, R.upd e1 hja.1 hja.2, ?_, o.keep (keeps_upd (p := l)) (nt_of e1 (fun _ z => nomatch z) fun _ _ z => nomatch z) (fun b z => z.2), tu.upd e1 (fun _ z => nomatch z) (fun _ _ z => nomatch z) fun _ z => z.elim⟩
       rw [List.map_append]
       exact (tx.append (.cons tu .nil)).upd e1 (fun _ z => nomatch z) (fun _ _ z => nomatch z) fun _ z => z.elim
     have grow : ∀ {e : Ed}, EdG h e → (es ++ [e]).length = i + 1 ∧ ∀ x ∈ es ++ [e], EdG h x := fun {e} eg => by
       refine ⟨by rw [List.length_append, li]; rfl, fun x m => ?_⟩
       rcases List.mem_append.mp m with m | m
       · exact hes x m
       · rw [List.mem_singleton.mp m]
         exact eg
     have app : ∀ {e : Ed} {f' : Hs}, app1 f e = .ok f' → appAll (cpH h) (es ++ [e]) = .ok f' := fun {e f'} he => by
       rw [appAll_append, ai]
       exact (appAll_one f e).trans he
     obtain ⟨kg, qg, eg, y1, y2, y3, y4, _⟩ := o4.at hlc
     walk_at "g"
     refine q_two (PP := fun b => b = true → name ∈ nms t) (fun b hb => ?_) (fun _ => ⟨(valV eg (.inr name)).isSome, fun hs => ?_, fun hr => ?_⟩) (fun _ z => by cases z)
     · refine q_ite (fun hbt => ?_) (fun _ => ?_)
       · have hin := hb hbt
         have eG : EdG h (.drop key name) := ⟨hkey, hname, fun _ _ _ z => by cases z⟩
         walk_at "g"
         refine tyL el4 ?_
         walk_at "g"
         intro q9 hq9
         have s9 := same_new (o := .tup [.str "drop", .str key, .str name]) hq9
         have tu : T K (upd Hc q9 (.tup [.str "drop", .str key, .str name])) ff (.ref q9) (Ed.drop key name).tr := .tup st_new (.cons (.str _) (.cons (.str _) (.cons (.str _) .nil)))
         obtain ⟨z1, z2, z3, z4, z5⟩ := last (k4.trans (Kp.of s9)) (R4.same s9) (s9 _ _ el4) (t4.mono s9) (o4.mono s9) tu
         walk_at "g"
         refine q_append (s9 _ _ el4) (len_small (by omega)) ?_
         generalize hHd : upd (upd Hc q9 (.tup [.str "drop", .str key, .str name])) l (.lst (xs ++ [.ref q9])) = Hd at z1 z2 z3 z4 z5
         have el5 : Hd l = some (.lst (xs ++ [.ref q9])) := by rw [← hHd]; exact upd_same
         walk_at "g"
         refine q_lenL (.inl (.inl el5)) ?_
         walk_at "g"
         refine q_ixL (.inl (.inl el5)) atI_last ?_
         walk_at "g"
         refine fin z4 z5 eG ?_ fun f' r2 H2 hf' s5 o5 => ?_
         · unfold app1
           rw [show (Ed.drop key name).key = key from rfl, hlk]
           exact ⟨_, if_pos hin⟩
         · refine ⟨r2, _, _, _, _, p3, _, es ++ [.drop key name], f', rfl, z1.trans (Kp.of s5), z2.same s5, by omega, by omega, s5 _ _ el5, z3.mono s5, (grow eG).1, (grow eG).2, o5.imp fun b e => ⟨z1.fresh z2.at_ e, fun z => ?_⟩, app hf'⟩
           rw [z, el5] at e
           cases e
       · walk_at "g"
         refine tyL el4 ?_
         walk_at "g"
         refine ⟨j, a, p3, rfl, R4, by omega, fun vd d He p4 hent k5 R5 g5 g6 td => ?_⟩
         have el6 : He l = some (.lst xs) := k5 l _ hja.2 el4
         have t6 := t4.kp (N' := ff) k5 R4.at_ fun _ z => z.elim
         have o6 := o4.kp k5 R4.at_ fun b z => (hR.ja z.1).2
         have k6 := k4.trans k5
         have eG : EdG h (.put key name d) := ⟨hkey, hname, fun _ _ _ z => by cases z; exact hent⟩
         walk_at "g"
         intro q9 hq9
         have s9 := same_new (o := .tup [.str "put", .str key, .str name, vd]) hq9
         have tu : T K (upd He q9 (.tup [.str "put", .str key, .str name, vd])) ff (.ref q9) (Ed.put key name d).tr := .tup st_new (.cons (.str _) (.cons (.str _) (.cons (.str _) (.cons (td.mono s9) .nil))))
         obtain ⟨z1, z2, z3, z4, z5⟩ := last (k6.trans (Kp.of s9)) (R5.same s9) (s9 _ _ el6) (t6.mono s9) (o6.mono s9) tu
         walk_at "g"
         refine q_append (s9 _ _ el6) (len_small (by omega)) ?_
         generalize hHd : upd (upd He q9 (.tup [.str "put", .str key, .str name, vd])) l (.lst (xs ++ [.ref q9])) = Hd at z1 z2 z3 z4 z5
         have el5 : Hd l = some (.lst (xs ++ [.ref q9])) := by rw [← hHd]; exact upd_same
         walk_at "g"
         refine q_lenL (.inl (.inl el5)) ?_
         walk_at "g"
         refine q_ixL (.inl (.inl el5)) atI_last ?_
         walk_at "g"
         refine fin z4 z5 eG (put_ok d) fun f' r2 H2 hf' s5 o5 => ?_
         refine ⟨r2, _, _, _, _, p4, _, es ++ [.put key name d], f', rfl, z1.trans (Kp.of s5), z2.same s5, by omega, by omega, s5 _ _ el5, z3.mono s5, (grow eG).1, (grow eG).2, o5.imp fun b e => ⟨z1.fresh z2.at_ e, fun z => ?_⟩, app hf'⟩
         rw [z, el5] at e
         cases e
     · cases e2 : lk t name with
       | none =>
         have := y4.nent (n := name) (by rw [lk_ord]; exact e2)
         rw [this] at hs
         cases hs
       | some d => exact mem_nms (lk_mem e2)
     · walk_at "g"
       refine q_ixK (.inr key) (.inl y1) y2 ?_
       refine q_inD (.inr name) (.inl y3) ?_
       exact ⟨_, rfl, hr⟩
   · rintro σ Hi ⟨g, v6, v7, v8, v9, pi, xs, es, f, rfl, ki, Ri, g1, g2, ei, ti, li, hes, oi, ai⟩
     walk_at "g"
     exact hq l Hi pi xs es ki Ri g1 (by omega) hl ei ti li hes ⟨f, ai⟩
  case len =>
   obtain ⟨N, j, a, r, p, h, many, rfl, _⟩ := h
   rfl

/-! ### ways between versions -/
section
variable {vs : List Ver}
/-- the versions in order, each one's tables ascending -/
structure Vsx (vs : List Ver) : Prop where
  ch : Chn vs
  cp : ∀ v ∈ vs, cpH v.h = v.h
theorem vAt_mem {k : Nat} (h : k < vs.length) : vAt vs k ∈ vs ∧ vs[k]? = some (vAt vs k) := by
  have e := List.getElem?_eq_getElem h
  rw [vAt_of e]
  exact ⟨List.getElem_mem h, e⟩
theorem way_imm (x : Vsx vs) {a n : Nat} (h : a + n < vs.length) : ∀ e ∈ wayF vs a n, e.Imm := fun e m => by
  obtain ⟨k, hk, hm⟩ := List.mem_flatMap.mp m
  have hk := List.mem_range.mp hk
  exact (x.ch.1 _ (vAt_mem (k := a + 1 + k) (by omega)).1).imm e hm
theorem wayB_imm (x : Vsx vs) {a n : Nat} (h : a < vs.length) (hn : n ≤ a) : ∀ e ∈ wayB vs a n, e.Imm := fun e m => by
  obtain ⟨k, hk, hm⟩ := List.mem_flatMap.mp m
  have hk := List.mem_range.mp hk
  have v := x.ch.1 _ (vAt_mem (k := a - k) (by omega)).1
  have u := x.ch.1 _ (vAt_mem (k := a - k - 1) (by omega)).1
  exact invs_imm v.imm u.wf.cp e (List.mem_reverse.mp hm)
/-- one step on -/
theorem app_on {g f h' : Hs} {es fs : List Ed} (ime : ∀ e ∈ es, e.Imm) (imf : ∀ e ∈ fs, e.Imm) {g0 g1 : Hs} (w0 : Wf g0) (w1 : Wf g1) (ha : appAll g0 es = .ok f) (hc : cpH f = cpH g1) (hb : appAll g1 fs = .ok h') : ∃ f2, appAll g0 (es ++ fs) = .ok f2 ∧ cpH f2 = cpH h' := by
  obtain ⟨wf, _⟩ := appAll_wf ime w0 ha
  obtain ⟨f2, h1, h2⟩ := appAll_cp imf w1 wf hc.symm hb
  exact ⟨f2, by rw [appAll_append, ha]; exact h1, h2.symm⟩
theorem wayF_ok (x : Vsx vs) {a : Nat} : ∀ {n : Nat}, a + n < vs.length → ∃ f, appAll (cpH (vAt vs a).h) (wayF vs a n) = .ok f ∧ cpH f = (vAt vs (a + n)).h
  | 0, h => ⟨_, rfl, by
    show cpH (cpH (vAt vs a).h) = (vAt vs a).h
    rw [cp_cp (x.ch.1 _ (vAt_mem (k := a) h).1).wf]
    exact x.cp _ (vAt_mem (k := a) h).1⟩
  | n + 1, h => by
    obtain ⟨f, h1, h2⟩ := wayF_ok x (a := a) (n := n) (by omega)
    have hn : a + n < vs.length := by omega
    obtain ⟨f2, h3, h4⟩ := x.ch.2 (a + n) _ _ (vAt_mem hn).2 (vAt_mem h).2
    have vn := x.ch.1 _ (vAt_mem hn).1
    have e := x.cp _ (vAt_mem hn).1
    have va := x.ch.1 _ (vAt_mem (k := a) (by omega)).1
    have vk := x.ch.1 _ (vAt_mem h).1
    obtain ⟨f3, h5, h6⟩ := app_on (g := f) (way_imm x (a := a) (n := n) (by omega)) vk.imm va.wf.cp vn.wf.cp h1 (by rw [h2, e, e]) h3
    refine ⟨f3, ?_, by rw [h6, h4]⟩
    have e9 : wayF vs a (n + 1) = wayF vs a n ++ (vAt vs (a + 1 + n)).es := flat_succ _ _
    rw [e9, show a + 1 + n = a + (n + 1) by omega]
    exact h5
theorem wayB_ok (x : Vsx vs) {a : Nat} (ha : a < vs.length) : ∀ {n : Nat}, n ≤ a → ∃ f, appAll (cpH (vAt vs a).h) (wayB vs a n) = .ok f ∧ cpH f = (vAt vs (a - n)).h
  | 0, _ => ⟨_, rfl, by rw [cp_cp (x.ch.1 _ (vAt_mem ha).1).wf]; exact x.cp _ (vAt_mem ha).1⟩
  | n + 1, hn => by
    obtain ⟨f, h1, h2⟩ := wayB_ok x ha (n := n) (by omega)
    have l1 : a - n < vs.length := by omega
    have l2 : a - n - 1 < vs.length := by omega
    have e0 : a - n - 1 + 1 = a - n := by omega
    obtain ⟨f2, h3, h4⟩ := x.ch.2 (a - n - 1) _ _ (vAt_mem l2).2 (by rw [e0]; exact (vAt_mem l1).2)
    have v1 := x.ch.1 _ (vAt_mem l1).1
    have v2 := x.ch.1 _ (vAt_mem l2).1
    have va := x.ch.1 _ (vAt_mem ha).1
    obtain ⟨r, h5, h6⟩ := undoAll v1.imm v2.wf.cp h3
    obtain ⟨wf2, _⟩ := appAll_wf v1.imm v2.wf.cp h3
    obtain ⟨f3, h7, h8⟩ := app_on (g := f) (wayB_imm x ha (by omega)) (fun e m => invs_imm v1.imm v2.wf.cp e (List.mem_reverse.mp m)) va.wf.cp wf2 h1 (by rw [h2, h4]) h5
    refine ⟨f3, ?_, ?_⟩
    · have e9 : wayB vs a (n + 1) = wayB vs a n ++ (invs (cpH (vAt vs (a - n - 1)).h) (vAt vs (a - n)).es).reverse := flat_succ _ _
      rw [e9]
      exact h7
    · rw [h8, h6, cp_cp v2.wf, x.cp _ (vAt_mem l2).1]
      rfl
theorem wayE_imm (x : Vsx vs) {a b : Nat} (ha : a < vs.length) (hb : b < vs.length) : ∀ e ∈ wayE vs a b, e.Imm := fun e m => by
  rcases List.mem_append.mp m with m | m
  · by_cases c : a ≤ b
    · exact way_imm x (by omega) e m
    · rw [show b - a = 0 by omega] at m
      cases m
  · exact wayB_imm x ha (by omega) e m
theorem wayE_ok (x : Vsx vs) {a b : Nat} (ha : a < vs.length) (hb : b < vs.length) : ∃ f, appAll (cpH (vAt vs a).h) (wayE vs a b) = .ok f ∧ cpH f = (vAt vs b).h := by
  unfold wayE
  by_cases c : a ≤ b
  · rw [show a - b = 0 by omega]
    obtain ⟨f, h1, h2⟩ := wayF_ok x (a := a) (n := b - a) (by omega)
    refine ⟨f, ?_, by rw [h2, show a + (b - a) = b by omega]⟩
    show appAll _ (_ ++ []) = _
    rw [List.append_nil]
    exact h1
  · rw [show b - a = 0 by omega]
    obtain ⟨f, h1, h2⟩ := wayB_ok x ha (n := a - b) (by omega)
    exact ⟨f, h1, by rw [h2, show a - (a - b) = b by omega]⟩
theorem wayBack_ok (x : Vsx vs) {a b : Nat} (ha : a < vs.length) (hb : b < vs.length) : ∃ f, appAll (cpH (vAt vs a).h) (wayE vs a b ++ wayE vs b a) = .ok f ∧ cpH f = (vAt vs a).h := by
  obtain ⟨f, h1, h2⟩ := wayE_ok x ha hb
  obtain ⟨f2, h3, h4⟩ := wayE_ok x hb ha
  have va := x.ch.1 _ (vAt_mem ha).1
  have vb := x.ch.1 _ (vAt_mem hb).1
  obtain ⟨f3, h5, h6⟩ := app_on (g := f) (wayE_imm x ha hb) (wayE_imm x hb ha) va.wf.cp vb.wf.cp h1 (by rw [h2, cp_cp vb.wf, x.cp _ (vAt_mem hb).1]) h3
  exact ⟨f3, h5, h6.trans h4⟩
theorem flat_len (f : Nat → List Ed) (m : Nat) : ∀ n, (∀ k, k < n → (f k).length ≤ m) → ((List.range n).flatMap f).length ≤ m * n
  | 0, _ => Nat.zero_le _
  | n + 1, h => by
    rw [flat_succ, List.length_append, Nat.mul_succ]
    have h1 := flat_len f m n fun k hk => h k (by omega)
    have h2 := h n (by omega)
    omega
theorem wayE_len {m : Nat} (hm : ∀ v ∈ vs, v.es.length ≤ m) {a b : Nat} (ha : a < vs.length) (hb : b < vs.length) : (wayE vs a b).length ≤ m * (b - a) + m * (a - b) := by
  unfold wayE
  rw [List.length_append]
  have h1 := flat_len (fun k => (vAt vs (a + 1 + k)).es) m (b - a) fun k hk => hm _ (vAt_mem (by omega)).1
  have h2 := flat_len (fun k => (invs (cpH (vAt vs (a - k - 1)).h) (vAt vs (a - k)).es).reverse) m (a - b) fun k hk => by
    rw [List.length_reverse]
    exact Nat.le_trans (invs_len _ _) (hm _ (vAt_mem (by omega)).1)
  exact Nat.add_le_add h1 h2
end
theorem HG.nam {h : Hs} (g : HG h) : Nam names5 h := fun q hq x hx => by
  have := ((g.ent q hq).2 x hx).1
  have sub : ∀ n ∈ namesL, n ∈ names5 := by decide +kernel
  exact sub _ this

theorem keysL_pla : ∀ n ∈ keysL, Pla 5 n := by decide +kernel
theorem names5_pla : ∀ n ∈ names5, Pla 3 n := by decide +kernel
theorem Ent.vw {d : Tr} {j : Bool} (h : Ent d) : Vw 4 1 j d := by
  cases h with
  | int i h1 h2 => exact (Vw.int (sho_of (by omega) (by omega))).le (by decide) (by decide)
  | tup k h1 h2 => exact (Vw.tup (.cons (.str (n := 1) (by decide +kernel)) (.cons (.int (sho_of h1 (by omega))) .nil))).le (by decide) (by decide)
  | word => exact (Vw.str (n := 4) (by decide +kernel)).le (by decide) (by decide)
theorem HG.in_keys {h : Hs} (g : HG h) {n : Str} (m : n ∈ nms h) : n ∈ keysL := by
  obtain ⟨k, _, _, e⟩ := g.keys
  rw [e] at m
  exact List.mem_of_mem_take m
theorem HG.vw {h : Hs} (g : HG h) : Vw 400 3 true (.dic (hK h)) := by
  have hl := g.len
  have vk : Vwk ((5 + 52 + 2) * (hK h).length) 2 true (hK h) := Vwk.all fun p hp => by
    obtain ⟨q, hq, rfl⟩ := List.mem_map.mp hp
    refine ⟨⟨q.1, rfl, keysL_pla _ (g.in_keys (mem_nms hq))⟩, ?_⟩
    have ge := g.ent q hq
    have vt : Vwk ((3 + 4 + 2) * (tK q.2).length) 1 true (tK q.2) := Vwk.all fun x hx => by
      obtain ⟨y, hy, rfl⟩ := List.mem_map.mp hx
      exact ⟨⟨y.1, rfl, names5_pla _ (g.nam q hq y hy)⟩, (ge.2 y hy).2.vw⟩
    have e : (tK q.2).length = q.2.length := List.length_map _
    exact (Vw.dic vt).le (by rw [e]; have := ge.1; omega) (by decide)
  have e : (hK h).length = h.length := List.length_map _
  exact (Vw.dic vk).le (by rw [e]; omega) (by decide)
theorem EdG.vw {h : Hs} (hG : HG h) {e : Ed} (g : EdG h e) : Vw 30 2 true e.tr := by
  have k := keysL_pla _ (hG.in_keys g.key)
  have n := names5_pla _ g.name
  have s0 : ∀ {n : Nat} {s : Str}, Pla n s → Vw n 1 true (.str s) := fun p => (Vw.str p).le (Nat.le_refl _) (Nat.zero_le _)
  cases e with
  | put key name x => exact (Vw.tup (.cons (s0 (n := 4) (by decide +kernel)) (.cons (s0 k) (.cons (s0 n) (.cons (g.ent _ _ _ rfl).vw .nil))))).le (by decide) (by decide)
  | drop key name => exact (Vw.tup (.cons (s0 (n := 4) (by decide +kernel)) (.cons (s0 k) (.cons (s0 n) .nil)))).le (by decide) (by decide)

theorem nd_sub_len : ∀ {l m : List Str}, l.Nodup → (∀ x ∈ l, x ∈ m) → l.length ≤ m.length
  | [], _, _, _ => Nat.zero_le _
  | x :: l, m, nd, sub => by
    have nd2 := List.nodup_cons.mp nd
    have hx := sub x List.mem_cons_self
    have ih := nd_sub_len (l := l) (m := m.erase x) nd2.2 fun y hy => (List.mem_erase_of_ne fun e => nd2.1 (by rw [← e]; exact hy)).mpr (sub y (List.mem_cons_of_mem _ hy))
    rw [List.length_erase_of_mem hx] at ih
    have := List.length_pos_of_mem hx
    rw [List.length_cons]
    omega
theorem Ent.dep {d : Tr} (h : Ent d) : TU.dep d ≤ 50 := by
  cases h with
  | int i h1 h2 => exact Nat.zero_le _
  | tup k h1 h2 => exact (by decide : 1 ≤ 50)
  | word => exact Nat.zero_le _
theorem HG.all {h : Hs} (g : HG h) : All Ent h := fun q hq x hx => ((g.ent q hq).2 x hx).2
/-- a house of these scripts -/
structure Gd (h g : Hs) : Prop where
  wf : Wf g
  nm : nms g = nms h
  en : All Ent g
  na : Nam names5 g
  cp : cpH g = g
theorem Gd.fit {h g : Hs} (x : Gd h g) : Fits 5 g := fun q hq => by
  have := nd_sub_len (m := names5) (x.wf.tab q hq).1 fun y hy => by
    obtain ⟨z, hz, rfl⟩ := List.mem_map.mp hy
    exact x.na q hq z hz
  rw [nms_len] at this
  exact this
theorem Gd.len {h g : Hs} (x : Gd h g) : g.length = h.length := len_of_nms x.nm
theorem Gd.sml {h g : Hs} (x : Gd h g) : Sml g := fun q hq y hy => Nat.le_trans (x.en q hq y hy).dep (by decide)
theorem Gd.asc {h g : Hs} (x : Gd h g) : AscH g := by
  rw [← x.cp]
  exact AscH.cp g
theorem HG.gd {h : Hs} (x : HG h) : Gd h (cpH h) := ⟨x.wf.cp, nms_cp h, x.all.cp, x.nam.cp, cp_cp x.wf⟩
theorem gd_app {h g f : Hs} {es : List Ed} (x : Gd h g) (heg : ∀ e ∈ es, EdG g e) (ha : appAll (cpH g) es = .ok f) : Gd h (cpH f) := by
  obtain ⟨wf, nf⟩ := appAll_wf (fun e m => (heg e m).imm) x.wf.cp ha
  rw [nms_cp] at nf
  exact ⟨wf.cp, by rw [nms_cp, nf, x.nm], (appAll_all x.en.cp (fun e m => (heg e m).ent) ha).cp, (appAll_nam x.na.cp (fun e m => (heg e m).name) ha).cp, cp_cp wf⟩
theorem Gd.he {h g : Hs} (hG : HG h) (x : Gd h g) : HE g := ⟨x.wf, fun q hq => Nat.le_trans (x.fit q hq) (by decide), by rw [x.len]; exact hG.len⟩
/-- the versions of the law's own list -/
structure Gv (h : Hs) (vs : List Ver) : Prop where
  x : Vsx vs
  gd : ∀ v ∈ vs, Gd h v.h
  es : ∀ v ∈ vs, v.es.length ≤ 3
  hd : ∃ ws, vs = ⟨cpH h, "", []⟩ :: ws
  ed : ∀ v ∈ vs, ∀ e ∈ v.es, EdP Ent e
theorem str_k : ∀ k : Fin 100, (("k" : Str).length + (Str.ofString (toString (k.val : Int))).length ≤ 100) ∧ (k.val : Int).natAbs.log2 < 1920 := by decide +kernel
theorem Ts.at_ {H : Hp} {P : Addr → Prop} : ∀ {vs : List V} {ds : List Tr} {i : Nat} {d : Tr}, Ts K H P vs ds → ds[i]? = some d → ∃ v, vs[i]? = some v ∧ T K H P v d
  | _, _, _, _, .nil, e => by simp at e
  | _, _, 0, _, .cons a b, e => by
    cases (show some _ = some _ from e)
    exact ⟨_, rfl, a⟩
  | _, _, i + 1, _, .cons a b, e => by
    obtain ⟨v, h1, h2⟩ := Ts.at_ (i := i) b (by simpa using e)
    exact ⟨v, by simpa using h1, h2⟩
theorem q_neII {K : PySem.W.Frag} {H : Hp} {Q : VK} {a b : Int} (h : a = b) (k : Q (.bl false) H) : rNeU K (.int a) (.int b) H Q := q_neI (by rw [decide_eq_true h]; exact k)
theorem nt_lst {H : Hp} {q : Addr} {o : List V} (e : H q = some (.lst o)) : ∀ xs, ¬ Rd H q (.tup xs) := fun xs => nt_of e (fun _ z => nomatch z) (fun _ _ z => nomatch z) q xs rfl
theorem nt_ins {H : Hp} {q C dx : Addr} {fs : List (Str × V)} (e : H q = some (.ins C dx fs)) : ∀ xs, ¬ Rd H q (.tup xs) := fun xs => nt_of e (fun _ z => nomatch z) (fun _ _ z => nomatch z) q xs rfl
theorem Gv.sub {h : Hs} {ws vs : List Ver} {u : Ver} (g : Gv h vs) (e : vs = ws ++ [u]) (hw : 0 < ws.length) : Gv h ws := by
  subst e
  have mm : ∀ v ∈ ws, v ∈ ws ++ [u] := fun v m => List.mem_append_left _ m
  have at' : ∀ {i : Nat} {v : Ver}, ws[i]? = some v → (ws ++ [u])[i]? = some v := fun {i v} e => by rw [List.getElem?_append_left (List.getElem?_eq_some_iff.mp e).1]; exact e
  exact ⟨⟨⟨fun v m => g.x.ch.1 v (mm v m), fun i a b e1 e2 => g.x.ch.2 i a b (at' e1) (at' e2)⟩, fun v m => g.x.cp v (mm v m)⟩, fun v m => g.gd v (mm v m), fun v m => g.es v (mm v m), by
    obtain ⟨w2, e⟩ := g.hd
    cases ws with
    | nil => cases hw
    | cons a b =>
      rw [List.cons_append] at e
      cases e
      exact ⟨b, rfl⟩, fun v m => g.ed v (mm v m)⟩
theorem Gv.take {h : Hs} {vs : List Ver} {n : Nat} (g : Gv h vs) (hn : 0 < n) : Gv h (vs.take n) := by
  have mm : ∀ v ∈ vs.take n, v ∈ vs := fun v m => List.mem_of_mem_take m
  have at' : ∀ {i : Nat} {v : Ver}, (vs.take n)[i]? = some v → vs[i]? = some v := fun {i v} e => by
    have li := (List.getElem?_eq_some_iff.mp e).1
    rw [List.length_take] at li
    rw [List.getElem?_take_of_lt (by omega)] at e
    exact e
  refine ⟨⟨⟨fun v m => g.x.ch.1 v (mm v m), fun i a b e1 e2 => g.x.ch.2 i a b (at' e1) (at' e2)⟩, fun v m => g.x.cp v (mm v m)⟩, fun v m => g.gd v (mm v m), fun v m => g.es v (mm v m), ?_, fun v m => g.ed v (mm v m)⟩
  obtain ⟨ws, e⟩ := g.hd
  obtain ⟨k, rfl⟩ : ∃ k, n = k + 1 := ⟨n - 1, by omega⟩
  rw [e]
  exact ⟨ws.take k, rfl⟩
theorem vok_of {h g : Hs} {lb : Str} {es : List Ed} (hl : h.length ≤ 3) (x : Gd h g) (im : ∀ e ∈ es, e.Imm) (n : es.length ≤ 3) : VOk ⟨g, lb, es⟩ :=
  ⟨x.wf, fun q hq => Nat.le_trans (x.fit q hq) (by decide), by rw [show (Ver.mk g lb es).h = g from rfl, x.len]; omega, im, Nat.le_trans n (by decide)⟩
theorem Gv.grow {h f : Hs} {ws : List Ver} {u : Ver} {lb : Str} {es : List Ed} (hl : h.length ≤ 3) (g : Gv h (ws ++ [u])) (heg : ∀ e ∈ es, EdG u.h e) (n : es.length ≤ 3) (ha : appAll (cpH u.h) es = .ok f) : Gv h ((ws ++ [u]) ++ [⟨cpH f, lb, es⟩]) := by
  have gu := g.gd u (List.mem_append_right _ (List.mem_singleton.mpr rfl))
  have gf := gd_app gu heg ha
  have one : ∀ {P : Ver → Prop}, (∀ v ∈ ws ++ [u], P v) → P ⟨cpH f, lb, es⟩ → ∀ v ∈ (ws ++ [u]) ++ [⟨cpH f, lb, es⟩], P v := fun {P} h1 h2 v m => by
    rcases List.mem_append.mp m with m | m
    · exact h1 v m
    · rw [List.mem_singleton.mp m]
      exact h2
  refine ⟨⟨⟨one g.x.ch.1 (vok_of hl gf (fun e m => (heg e m).imm) n), fun i a b e1 e2 => ?_⟩, one g.x.cp gf.cp⟩, one g.gd gf, one g.es n, by
    obtain ⟨w2, e⟩ := g.hd
    rw [e]
    exact ⟨_, rfl⟩, one g.ed fun e m => (heg e m).ent⟩
  have li := (List.getElem?_eq_some_iff.mp e2).1
  rw [List.length_append, List.length_singleton] at li
  by_cases c : i + 1 < (ws ++ [u]).length
  · rw [List.getElem?_append_left c] at e2
    rw [List.getElem?_append_left (by omega)] at e1
    exact g.x.ch.2 i a b e1 e2
  · have e0 : i = ws.length := by
      rw [List.length_append, List.length_singleton] at li c
      omega
    rw [List.getElem?_append_left (by omega), e0, List.getElem?_concat_length] at e1
    rw [show i + 1 = (ws ++ [u]).length by rw [e0, List.length_append, List.length_singleton], List.getElem?_concat_length] at e2
    cases e1
    cases e2
    exact ⟨f, ha, rfl⟩
theorem nod_eds (es : List Ed) (im : ∀ e ∈ es, e.Imm) : nod (.lst (es.map Ed.tr)) = true := by
  rw [nod]
  refine nods_all fun d hd => ?_
  obtain ⟨e, he, rfl⟩ := List.mem_map.mp hd
  exact e.nod (im e he)
theorem dep_eds {es : List Ed} (h : ∀ e ∈ es, EdP Ent e) : TU.dep (.lst (es.map Ed.tr)) ≤ 60 := by
  have z : deps (es.map Ed.tr) ≤ 51 := deps_all fun d hd => by
    obtain ⟨e, he, rfl⟩ := List.mem_map.mp hd
    exact Ed.dep fun k n d z => (h e he k n d z).dep
  simp only [TU.dep]
  omega

/-- _law_stale(past, version) of a version that is not held -/
def spLS (C : Addr) (K : PySem.W.Frag) : Sp := fun vs H Q _ => ∃ (N : Addr → Prop) (p : Addr) (v : Int) (vl : List Ver) (now : Nat), vs = [.ref p, .int v] ∧ HiAt C K N H p vl now ∧ Chn vl ∧ ¬ (0 ≤ v ∧ v < vl.length) ∧ ∀ H', Same H H' → Q (.bl true) H'
theorem sc_law_stale : FnScope ["past", "version", "count", "how", "error"] ["past", "version"] (defScope s_law_stale) := ⟨rfl, rfl, rfl, by decide +kernel, rfl, by decide +kernel, by decide +kernel⟩
theorem d_law_stale (B : Bt mg) (F : TopF K mg "_law_stale" s_law_stale ["past", "version"]) (Kl_History : Kl K mg "History" C_History ["houses", "labels", "lists", "now"]) (X_Stale : Xc P w K mg base "Stale" ["version"] C_Stale) (D_History_house_at : Dm P w K mg base C_History "house_at" ["self", "version"] 4 (spHA C_History C_Stale K)) (D_History_label_at : Dm P w K mg base C_History "label_at" ["self", "version"] 4 (spHL C_History C_Stale K)) (D_History_edits_at : Dm P w K mg base C_History "edits_at" ["self", "version"] 4 (spHE C_History C_Stale K)) (D_History_way_of : Dm P w K mg base C_History "way_of" ["self", "first", "last"] 7 (spWO C_History C_Stale K)) : Df P w K mg base "_law_stale" ["past", "version"] 8 (spLS C_History K) := by
  refine F.df sc_law_stale (fun vs H Q E h => ?len) (fun f cdv A outer s H vs Q E hr h => ?body)
  case body =>
   have hu := hr.units
   refine ⟨_, (pss_cons (ps_set (i := 2) sc_law_stale.nd rfl (Or.inl rfl) pe_int)
      (pss_cons (ps_for (passes_of rfl) rfl (pi_range1 (by rfl) B.b_range (pa_cons pe_int pa_nil)) (pg_name (i := 3) sc_law_stale.nd rfl (Or.inl rfl))
      (pss_one (ps_try_as (i := 4) rfl rfl sc_law_stale.nd rfl rfl ⟨rfl, by decide, .inl X_Stale.g⟩ (takes_of rfl rfl rfl rfl) (fun W pn xe tk po => (pss_one (ps_if (pt_cmpR (k_eq (K := K) rfl hu) (pv 3) pe_int (nomark _))
      (pss_one (ps_expr (pe_dm (pv 0) Kl_History D_History_house_at (hr.mono (by decide)) (fun σ => passAt tk σ) (pa_cons (pv 1) pa_nil))))
      (pss_one (ps_if (pt_cmpR (k_eq (K := K) rfl hu) (pv 3) pe_int (nomark _))
      (pss_one (ps_expr (pe_dm (pv 0) Kl_History D_History_label_at (hr.mono (by decide)) (fun σ => passAt tk σ) (pa_cons (pv 1) pa_nil))))
      (pss_one (ps_if (pt_cmpR (k_eq (K := K) rfl hu) (pv 3) pe_int (nomark _))
      (pss_one (ps_expr (pe_dm (pv 0) Kl_History D_History_edits_at (hr.mono (by decide)) (fun σ => passAt tk σ) (pa_cons (pv 1) pa_nil))))
      (pss_one (ps_expr (pe_dm (pv 0) Kl_History D_History_way_of (hr.mono (by decide)) (fun σ => passAt tk σ) (pa_cons pe_int (pa_cons (pv 1) pa_nil))))))))))))
      (fun a oe cls d pn hz hf => (pss_one (ps_set (i := 2) sc_law_stale.nd rfl (Or.inl rfl) (pe_op (k_add (K := K) rfl) (pv 2) (pe_callTy k_int (by rfl) B.b_int (by decide +kernel) (pa_cons (pe_cmpR (k_eq (K := K) rfl hu) (pe_xf X_Stale.xf (X_Stale.no _ (by decide)) hz hf (pv 4)) (pv 1) (nomark _)) pa_nil)))))))))
      (pss_one (ps_ret (pe_cmpR (k_eq (K := K) rfl hu) (pv 2) pe_int (nomark _)))))), ?_⟩
   obtain ⟨N, p, v, vl, now, rfl, hh, ch, hv, hq⟩ := h
   obtain ⟨dx, lh, ll, le, xh, xe, e1, n1, n2, n3, eh, th, eb, el, te⟩ := hh.ex
   have lt := hh.lt
   walk_at "g"
   refine ⟨4, rfl, by decide, by decide, ?_⟩
   refine for_rng (lo := 0) (n := 4) (fun k σ Hk => ∃ (v3 v4 : Option V), σ = [some (.ref p), some (.int v), some (.int (k : Nat)), v3, v4] ∧ Same H Hk) ?_ ?_ ?_
   · exact ⟨none, none, rfl, Same.refl H⟩
   · rintro k σ Hk hk ⟨v3, v4, rfl, sk⟩
     have hk0 := hh.mono sk
     walk_at "g"
     obtain rfl | rfl | rfl | rfl : k = 0 ∨ k = 1 ∨ k = 2 ∨ k = 3 := by omega
     · rw [decide_eq_true (p := (0 : Int) + ((0 : Nat) : Int) = 0) (by decide)]
       walk_at "g"
       refine ⟨p, dx, _, rfl, sk _ _ e1, hfs_no (by decide +kernel), ?_⟩
       walk_at "g"
       refine ⟨N, p, v, vl, now, rfl, hk0, ch.1, fun i u e eu => absurd ⟨by omega, by have := (List.getElem?_eq_some_iff.mp eu).1; omega⟩ hv, fun _ => ?_⟩
       intro d H' s e
       refine ⟨true, X_Stale.te, fun _ a ha => ?_, fun z => by cases z⟩
       walk_at "g"
       refine ⟨_, rfl, rfl, rfl, d, _, .int v, rfl, e, rfl, ?_⟩
       walk_at "g"
       rw [decide_eq_true rfl]
       refine q_intB ?_
       walk_at "g"
       exact ⟨_, _, rfl, sk.trans s⟩
     · rw [decide_eq_false (p := (0 : Int) + ((1 : Nat) : Int) = 0) (by decide)]
       walk_at "g"
       rw [decide_eq_true (p := (0 : Int) + ((1 : Nat) : Int) = 1) (by decide)]
       walk_at "g"
       refine ⟨p, dx, _, rfl, sk _ _ e1, hfs_no (by decide +kernel), ?_⟩
       walk_at "g"
       refine ⟨N, p, v, vl, now, rfl, hk0, fun i u e eu => absurd ⟨by omega, by have := (List.getElem?_eq_some_iff.mp eu).1; omega⟩ hv, fun _ => ?_⟩
       intro d H' s e
       refine ⟨true, X_Stale.te, fun _ a ha => ?_, fun z => by cases z⟩
       walk_at "g"
       refine ⟨_, rfl, rfl, rfl, d, _, .int v, rfl, e, rfl, ?_⟩
       walk_at "g"
       rw [decide_eq_true rfl]
       refine q_intB ?_
       walk_at "g"
       exact ⟨_, _, rfl, sk.trans s⟩
     · rw [decide_eq_false (p := (0 : Int) + ((2 : Nat) : Int) = 0) (by decide)]
       walk_at "g"
       rw [decide_eq_false (p := (0 : Int) + ((2 : Nat) : Int) = 1) (by decide)]
       walk_at "g"
       rw [decide_eq_true (p := (0 : Int) + ((2 : Nat) : Int) = 2) (by decide)]
       walk_at "g"
       refine ⟨p, dx, _, rfl, sk _ _ e1, hfs_no (by decide +kernel), ?_⟩
       walk_at "g"
       refine ⟨N, p, v, vl, now, rfl, hk0, fun i u e eu => absurd ⟨by omega, by have := (List.getElem?_eq_some_iff.mp eu).1; omega⟩ hv, fun _ => ?_⟩
       intro d H' s e
       refine ⟨true, X_Stale.te, fun _ a ha => ?_, fun z => by cases z⟩
       walk_at "g"
       refine ⟨_, rfl, rfl, rfl, d, _, .int v, rfl, e, rfl, ?_⟩
       walk_at "g"
       rw [decide_eq_true rfl]
       refine q_intB ?_
       walk_at "g"
       exact ⟨_, _, rfl, sk.trans s⟩
     · rw [decide_eq_false (p := (0 : Int) + ((3 : Nat) : Int) = 0) (by decide)]
       walk_at "g"
       rw [decide_eq_false (p := (0 : Int) + ((3 : Nat) : Int) = 1) (by decide)]
       walk_at "g"
       rw [decide_eq_false (p := (0 : Int) + ((3 : Nat) : Int) = 2) (by decide)]
       walk_at "g"
       refine ⟨p, dx, _, rfl, sk _ _ e1, hfs_no (by decide +kernel), ?_⟩
       walk_at "g"
       refine ⟨N, p, 0, v, vl, now, rfl, hk0, ch, fun a b ea eb _ hb => absurd ⟨by omega, by omega⟩ hv, fun z => absurd ⟨by omega, by omega⟩ z, fun _ _ => ?_⟩
       intro d H' s e
       refine ⟨true, X_Stale.te, fun _ a ha => ?_, fun z => by cases z⟩
       walk_at "g"
       refine ⟨_, rfl, rfl, rfl, d, _, .int v, rfl, e, rfl, ?_⟩
       walk_at "g"
       rw [decide_eq_true rfl]
       refine q_intB ?_
       walk_at "g"
       exact ⟨_, _, rfl, sk.trans s⟩
   · rintro σ Hk ⟨v3, v4, rfl, sk⟩
     walk_at "g"
     exact hq Hk sk
  case len =>
   obtain ⟨N, p, v, vl, now, rfl, _⟩ := h
   rfl

def mT (vl : List Ver) : List Tr := vl.map fun v => Tr.tup [.dic (hK v.h), .str v.lb, .lst (v.es.map Ed.tr)]
theorem mine_at {H : Hp} {N2 : Addr → Prop} {xm : List V} {vl : List Ver} {i : Nat} {u : Ver} (tm : Ts K H N2 xm (mT vl)) (eu : vl[i]? = some u) : ∃ q ah al, xm[i]? = some (.ref q) ∧ SqT K H q [.ref ah, .str u.lb, .ref al] ∧ T K H N2 (.ref ah) (.dic (hK u.h)) ∧ ∃ zs, SqL K H al zs ∧ Ts K H N2 zs (u.es.map Ed.tr) := by
  obtain ⟨v, x0, t0⟩ := Ts.at_ (i := i) (d := Tr.tup [.dic (hK u.h), .str u.lb, .lst (u.es.map Ed.tr)]) tm (by unfold mT; rw [List.getElem?_map, eu]; rfl)
  cases t0 with
  | tup hs ts =>
    cases ts with
    | cons a r =>
      cases r with
      | cons b r =>
        cases r with
        | cons c r =>
          cases r
          cases b
          obtain ⟨ah, kvs, rfl, _⟩ := a.dicAt
          cases c with
          | lst n e z => exact ⟨_, ah, _, x0, hs, a, _, e, z⟩
/-- _law_looks_right(past, mine, now) -/
def spLK (C : Addr) (K : PySem.W.Frag) : Sp := fun vs H Q _ => ∃ (N N2 : Addr → Prop) (p m : Addr) (h : Hs) (vl : List Ver) (now : Nat) (xm : List V), vs = [.ref p, .ref m, .int now] ∧ HiAt C K N H p vl now ∧ Gv h vl ∧ h.length ≤ 3 ∧ H m = some (.lst xm) ∧ Ts K H N2 xm (mT vl) ∧ ∀ H', Same H H' → Q (.bl true) H'
-- _law_looks_right: 0 past, 1 mine, 2 now, 3 k, 4 house, 5 key, 6 edits, 7 told
theorem sc_law_looks_right : FnScope ["past", "mine", "now", "k", "house", "key", "edits", "told"] ["past", "mine", "now"] (defScope s_law_looks_right) := ⟨rfl, rfl, rfl, by decide +kernel, rfl, by decide +kernel, by decide +kernel⟩
theorem d_law_looks_right (B : Bt mg) (F : TopF K mg "_law_looks_right" s_law_looks_right ["past", "mine", "now"]) (Kl_History : Kl K mg "History" C_History ["houses", "labels", "lists", "now"]) (D_law_stale : Df P w K mg base "_law_stale" ["past", "version"] 8 (spLS C_History K)) (D_History_log : Dm P w K mg base C_History "log" ["self"] 1 (spHG C_History K)) (D_History_edits_at : Dm P w K mg base C_History "edits_at" ["self", "version"] 4 (spHE C_History C_Stale K)) (D_History_label_at : Dm P w K mg base C_History "label_at" ["self", "version"] 4 (spHL C_History C_Stale K)) (D_law_same : Df P w K mg base "_law_same" ["told", "house"] 1 (spSame K)) (D_History_house_at : Dm P w K mg base C_History "house_at" ["self", "version"] 4 (spHA C_History C_Stale K)) (D_History_standing : Dm P w K mg base C_History "standing" ["self"] 2 (spHS C_History K)) (D_History_count : Dm P w K mg base C_History "count" ["self"] 1 (spHn C_History K)) (D_History_current : Dm P w K mg base C_History "current" ["self"] 1 (spHcur C_History K)) : Df P w K mg base "_law_looks_right" ["past", "mine", "now"] 9 (spLK C_History K) := by
  refine F.df sc_law_looks_right (fun vs H Q E h => ?len) (fun f cdv A outer s H vs Q E hr h => ?body)
  case body =>
   have hu := hr.units
   refine ⟨_, (pss_cons (ps_if (PW.pt (pw_or (pt_cmpR (k_ne (K := K) rfl hu) (pe_dm0 (pv 0) Kl_History D_History_current (hr.mono (by decide)) (fun σ => passAt (takes_of rfl rfl rfl rfl) σ)) (pv 2) (nomark _)) (pw_or (pt_cmpR (k_ne (K := K) rfl hu) (pe_dm0 (pv 0) Kl_History D_History_count (hr.mono (by decide)) (fun σ => passAt (takes_of rfl rfl rfl rfl) σ)) (pe_callB (k_len (K := K) rfl) (by rfl) B.b_len (by decide +kernel) (pa_cons (pv 1) pa_nil)) (nomark _)) (pw_or1 (pt_not (k_tr (K := K) rfl (pe_df D_law_same (hr.mono (by decide)) (fun σ => passAt (takes_of rfl rfl rfl rfl) σ) (pa_cons (pe_dm0 (pv 0) Kl_History D_History_standing (hr.mono (by decide)) (fun σ => passAt (takes_of rfl rfl rfl rfl) σ)) (pa_cons (pe_ix (k_ix (K := K) rfl hu) (pe_ix (k_ix (K := K) rfl hu) (pv 1) (pv 2) (fun _ _ => rfl)) pe_int (fun _ _ => rfl)) pa_nil)))))))))
      (pss_one (ps_ret pe_bl))
      pss_nil)
      (pss_cons (ps_for (passes_of rfl) rfl (pi_range1 (by rfl) B.b_range (pa_cons (pe_callB (k_len (K := K) rfl) (by rfl) B.b_len (by decide +kernel) (pa_cons (pv 1) pa_nil)) pa_nil)) (pg_name (i := 3) sc_law_looks_right.nd rfl (Or.inl rfl))
      (pss_cons (ps_set (i := 4) sc_law_looks_right.nd rfl (Or.inl rfl) (pe_dm (pv 0) Kl_History D_History_house_at (hr.mono (by decide)) (fun σ => passAt (takes_of rfl rfl rfl rfl) σ) (pa_cons (pv 3) pa_nil)))
      (pss_cons (ps_if (PW.pt (pw_or (pt_not (k_tr (K := K) rfl (pe_df D_law_same (hr.mono (by decide)) (fun σ => passAt (takes_of rfl rfl rfl rfl) σ) (pa_cons (pv 4) (pa_cons (pe_ix (k_ix (K := K) rfl hu) (pe_ix (k_ix (K := K) rfl hu) (pv 1) (pv 3) (fun _ _ => rfl)) pe_int (fun _ _ => rfl)) pa_nil))))) (pw_or1 (pt_cmpR (k_ne (K := K) rfl hu) (pe_dm (pv 0) Kl_History D_History_label_at (hr.mono (by decide)) (fun σ => passAt (takes_of rfl rfl rfl rfl) σ) (pa_cons (pv 3) pa_nil)) (pe_ix (k_ix (K := K) rfl hu) (pe_ix (k_ix (K := K) rfl hu) (pv 1) (pv 3) (fun _ _ => rfl)) pe_int (fun _ _ => rfl)) (nomark _)))))
      (pss_one (ps_ret pe_bl))
      pss_nil)
      (pss_cons (ps_for (passes_of rfl) rfl (k_walk (K := K) rfl (pe_callTy (k_list (K := K) rfl rfl) (by rfl) B.b_list (by decide +kernel) (pa_cons (pv 4) pa_nil))) (pg_name (i := 5) sc_law_looks_right.nd rfl (Or.inl rfl))
      (pss_one (ps_asg pe_int (pg_sub (pe_ix (k_ix (K := K) rfl hu) (pv 4) (pv 5) (fun _ _ => rfl)) pe_str (set_any hu)))))
      (pss_cons (ps_set (i := 6) sc_law_looks_right.nd rfl (Or.inl rfl) (pe_dm (pv 0) Kl_History D_History_edits_at (hr.mono (by decide)) (fun σ => passAt (takes_of rfl rfl rfl rfl) σ) (pa_cons (pv 3) pa_nil)))
      (pss_cons (ps_if (PW.pt (pw_or (pt_not (k_tr (K := K) rfl (pe_callB (k_isi (K := K) rfl) (by rfl) B.b_isinstance (by decide +kernel) (pa_cons (pv 6) (pa_cons (pe_bltn (v := .ty "list") (by rfl) B.b_list (by decide +kernel) rfl) pa_nil))))) (pw_or1 (pt_cmpR (k_ne (K := K) rfl hu) (pv 6) (pe_ix (k_ix (K := K) rfl hu) (pe_ix (k_ix (K := K) rfl hu) (pv 1) (pv 3) (fun _ _ => rfl)) pe_int (fun _ _ => rfl)) (nomark _)))))
      (pss_one (ps_ret pe_bl))
      pss_nil)
      (pss_one (ps_expr (k_append (K := K) rfl (pv 6) (pa_cons (pe_tup (pa_cons pe_str (pa_cons pe_str (pa_cons pe_str pa_nil)))) pa_nil))))))))))
      (pss_cons (ps_set (i := 7) sc_law_looks_right.nd rfl (Or.inl rfl) (pe_dm0 (pv 0) Kl_History D_History_log (hr.mono (by decide)) (fun σ => passAt (takes_of rfl rfl rfl rfl) σ)))
      (pss_cons (ps_if (pt_cmpR (k_ne (K := K) rfl hu) (pv 7) (pe_lockU (pe_lc (own := [("k", 3)]) (by rfl) sc_law_looks_right.nd (pi_range1 (by rfl) B.b_range (pa_cons (pe_callB (k_len (K := K) rfl) (by rfl) B.b_len (by decide +kernel) (pa_cons (pv 1) pa_nil)) pa_nil)) (blkOk_by (by kernel_rfl)) (fun _ _ _ _ _ => (pg_name (i := 3) sc_law_looks_right.nd rfl (Or.inl rfl))) (fun _ _ _ _ _ => pts_nil) (fun _ _ _ _ _ => (pe_tup (pa_cons (pv 3) (pa_cons (pe_ix (k_ix (K := K) rfl hu) (pe_ix (k_ix (K := K) rfl hu) (pv 1) (pv 3) (fun _ _ => rfl)) pe_int (fun _ _ => rfl)) (pa_cons (pe_callB (k_len (K := K) rfl) (by rfl) B.b_len (by decide +kernel) (pa_cons (pe_ix (k_ix (K := K) rfl hu) (pe_ix (k_ix (K := K) rfl hu) (pv 1) (pv 3) (fun _ _ => rfl)) pe_int (fun _ _ => rfl)) pa_nil)) pa_nil))))))) (nomark _))
      (pss_one (ps_ret pe_bl))
      pss_nil)
      (pss_one (ps_ret (pe_and (pe_df D_law_stale (hr.mono (by decide)) (fun σ => passAt (takes_of rfl rfl rfl rfl) σ) (pa_cons (pv 0) (pa_cons (pe_callB (k_len (K := K) rfl) (by rfl) B.b_len (by decide +kernel) (pa_cons (pv 1) pa_nil)) pa_nil))) (pe_one (pe_df D_law_stale (hr.mono (by decide)) (fun σ => passAt (takes_of rfl rfl rfl rfl) σ) (pa_cons (pv 0) (pa_cons (pe_un un_neg pe_int) pa_nil))))))))))), ?_⟩
   obtain ⟨N, N2, p, m, h, vl, now, xm, rfl, hh, g, hl3, em, tm, hq⟩ := h
   obtain ⟨dx, lh, ll, le, xh, xe, e1, _⟩ := hh.ex
   have lt := hh.lt
   have few := hh.few
   have xl : xm.length = vl.length := by rw [tm.length]; exact List.length_map _
   walk_at "g"
   refine ⟨p, dx, _, rfl, e1, hfs_no (by decide +kernel), ?_⟩
   walk_at "g"
   refine ⟨N, p, vl, now, rfl, hh, ?_⟩
   walk_at "g"
   rw [decide_eq_true rfl]
   walk_at "g"
   refine ⟨p, dx, _, rfl, e1, hfs_no (by decide +kernel), ?_⟩
   walk_at "g"
   refine ⟨N, p, vl, now, rfl, hh, ?_⟩
   walk_at "g"
   refine q_lenL (.inl (.inl em)) ?_
   rw [xl]
   walk_at "g"
   rw [decide_eq_true rfl]
   walk_at "g"
   refine ⟨p, dx, _, rfl, e1, hfs_no (by decide +kernel), ?_⟩
   walk_at "g"
   have eu := List.getElem?_eq_getElem lt
   have gu := g.gd _ (List.getElem_mem lt)
   refine ⟨N, p, vl, now, vl[now], rfl, hh, eu, g.x.ch.1 _ (List.getElem_mem lt), fun r H1 s1 o1 => ?_⟩
   rw [gu.cp] at o1
   obtain ⟨q0, ah0, al0, y1, y2, y3, _⟩ := mine_at tm eu
   walk_at "g"
   refine q_ixL (.inl (.inl (s1 _ _ em))) (atI_nat y1) ?_
   walk_at "g"
   refine q_ixT (Sm.sqT s1 y2) (atI_nat (j := 0) rfl) ?_
   walk_at "g"
   refine ⟨_, _, r, ah0, vl[now].h, rfl, o1.T, y3.mono s1, gu.wf, gu.sml, gu.asc, fun q hq => Nat.le_trans (gu.fit q hq) (by decide), by rw [gu.len]; omega, fun H2 s2 => ?_⟩
   have s02 := s1.trans s2
   walk_at "g"
   refine q_lenL (.inl (.inl (s02 _ _ em))) ?_
   walk_at "g"
   rw [xl]
   refine ⟨_, rfl, by omega, by omega, ?_⟩
   rw [show ((vl.length : Nat) : Int).toNat = vl.length by omega]
   refine for_rng (lo := 0) (n := vl.length) (fun k σ Hk => ∃ (v3 v4 v5 v6 v7 : Option V), σ = [some (.ref p), some (.ref m), some (.int now), v3, v4, v5, v6, v7] ∧ Same H Hk) ?_ ?_ ?_
   · exact ⟨_, _, _, _, _, rfl, s02⟩
   · rintro k σ Hk hk ⟨v3, v4, v5, v6, v7, rfl, sk⟩
     have ek := List.getElem?_eq_getElem hk
     have gk := g.gd _ (List.getElem_mem hk)
     obtain ⟨q1, ah, al, z1, z2, z3, zs, z4, z5⟩ := mine_at tm ek
     walk_at "g"
     refine ⟨p, dx, _, rfl, sk _ _ e1, hfs_no (by decide +kernel), ?_⟩
     walk_at "g"
     rw [Int.zero_add]
     refine ⟨N, p, k, vl, now, rfl, hh.mono sk, g.x.ch.1, fun i u ei eui r1 H3 s3 o3 => ?_, fun z => absurd ⟨by omega, by omega⟩ z⟩
     obtain rfl : k = i := by omega
     rw [ek] at eui
     cases eui
     rw [gk.cp] at o3
     walk_at "g"
     have s13 := sk.trans s3
     refine q_ixL (.inl (.inl (s13 _ _ em))) (atI_nat z1) ?_
     walk_at "g"
     refine q_ixT (Sm.sqT s13 z2) (atI_nat (j := 0) rfl) ?_
     walk_at "g"
     refine ⟨_, _, r1, ah, vl[k].h, rfl, o3.T, z3.mono s13, gk.wf, gk.sml, gk.asc, fun q hq => Nat.le_trans (gk.fit q hq) (by decide), by rw [gk.len]; omega, fun H4 s4 => ?_⟩
     have s14 := s13.trans s4
     walk_at "g"
     refine ⟨p, dx, _, rfl, s14 _ _ e1, hfs_no (by decide +kernel), ?_⟩
     walk_at "g"
     refine ⟨N, p, k, vl, now, rfl, hh.mono s14, fun i u ei eui => ?_, fun z => absurd ⟨by omega, by omega⟩ z⟩
     obtain rfl : k = i := by omega
     rw [ek] at eui
     cases eui
     walk_at "g"
     refine q_ixL (.inl (.inl (s14 _ _ em))) (atI_nat z1) ?_
     walk_at "g"
     refine q_ixT (Sm.sqT s14 z2) (atI_nat (j := 1) rfl) ?_
     refine q_neSS ?_
     walk_at "g"
     obtain ⟨kvs, er, ks⟩ := (o3.mono s4).key
     have o4 := ((o3.mono s4).live)
     refine q_items ?_
     walk_at "g"
     refine q_listK (.inl er) fun ln hln => ?_
     have ekl : (kvs.map fun kv => kV kv.1) = (nms vl[k].h).map V.str := by
       have e := congrArg (List.map kV) ks
       rw [List.map_map, List.map_map] at e
       exact e
     rw [ekl]
     refine q_itemsE (xs := (nms vl[k].h).map V.str) (.inl (.inl upd_same)) ?_
     have sl := same_new (o := .lst ((nms vl[k].h).map V.str)) hln
     have nl : (nms vl[k].h).length ≤ 3 := by
       rw [nms_len, gk.len]
       exact hl3
     refine for_items (xs := (nms vl[k].h).map V.str) (fun i σ Hx => ∃ (v5 : Option V) (ht : Hs), σ = [some (.ref p), some (.ref m), some (.int now), some (.int (k : Nat)), some (.ref r1), v5, v6, v7] ∧ Same H Hx ∧ Hx ln = some (.lst ((nms vl[k].h).map V.str)) ∧ Own K (fun z => H z = none ∧ z ≠ ln) Hx r1 ht ∧ nms ht = nms vl[k].h ∧ Wf ht ∧ Fits (5 + i) ht) ?_ ?_ ?_ ?_
     · exact ⟨_, _, rfl, s14.trans sl, upd_same, (o4.mono sl).imp fun z e => ⟨sk.free e.1, fun c => e.2 (by rw [c]; exact hln)⟩, rfl, gk.wf, gk.fit⟩
     · rintro i σ Hx _ ⟨v5, ht, rfl, sx, eln, _⟩
       exact .inl (.inl eln)
     · rintro i x σ Hx hx ⟨v5, ht, rfl, sx, eln, ot, nt, wt, ft⟩
       obtain ⟨n, hn, rfl⟩ := map_at hx
       have hnm : n ∈ nms vl[k].h := mem_at hn
       have hi3 : i < 3 := by
         have := (List.getElem?_eq_some_iff.mp hn).1
         omega
       obtain ⟨t2, e2⟩ := lk_mem_nms (show n ∈ nms ht by rw [nt]; exact hnm)
       obtain ⟨kt, qt, et, w1, w2, w3, w4, zq, _, _, zback⟩ := ot.at e2
       have wt2 := wt.tab _ (lk_mem e2)
       have f2 : t2.length ≤ 5 + i := ft _ (lk_mem e2)
       walk_at "g"
       refine q_ixK (.inr n) (.inl w1) w2 ?_
       walk_at "g"
       refine q_setD (.inr "x7") w3 ?_ ?_
       · rw [w4.length]
         unfold tK
         rw [List.length_map]
         exact len_small (by omega)
       have ot2 := zback (putK et (.inr "x7") (.int 7)) (put t2 "x7" (.int 7)) (by
         rw [← put_tK wt2.1]
         exact w4.put (.int 7))
       have p2 := len_put_le t2 "x7" (.int 7)
       refine ⟨_, _, rfl, fun z u e => ?_, ?_, ot2, (nms_put_of (mem_nms (lk_mem e2))).trans nt, wt.set (nd_put wt2.1 _ _) (immT_put wt2.2 _ rfl), ft.set (by omega) (by omega)⟩
       · rw [upd_ne (ne_of_none e zq.1)]
         exact sx _ _ e
       · rw [upd_ne zq.2.symm]
         exact eln
     · rintro σ Hx ⟨v5, ht, rfl, sx, _⟩
       walk_at "g"
       refine ⟨p, dx, _, rfl, sx _ _ e1, hfs_no (by decide +kernel), ?_⟩
       walk_at "g"
       refine ⟨N, p, k, vl, now, rfl, hh.mono sx, fun i u ei eui l5 H5 zs5 s5 hl5 el5 t5 => ?_, fun z => absurd ⟨by omega, by omega⟩ z⟩
       obtain rfl : k = i := by omega
       rw [ek] at eui
       cases eui
       have s15 := sx.trans s5
       walk_at "g"
       refine q_isiL (.inl (.inl el5)) ?_
       walk_at "g"
       refine q_ixL (.inl (.inl (s15 _ _ em))) (atI_nat z1) ?_
       walk_at "g"
       refine q_ixT (Sm.sqT s15 z2) (atI_nat (j := 2) rfl) ?_
       have im := (g.x.ch.1 _ (List.getElem_mem hk)).imm
       have nd := nod_eds vl[k].es im
       refine q_neT (P := fun _ => True) (.lst trivial (.inl (.inl el5)) (t5.imp fun _ z => z.elim)) (.lst trivial (Sm.sqL s15 z4) ((z5.mono s15).imp fun _ _ => trivial)) nd nd (dep_eds (g.ed _ (List.getElem_mem hk))) ?_
       rw [eqb_refl nd]
       walk_at "g"
       refine tyL el5 ?_
       walk_at "g"
       intro qd hqd
       have sd := same_new (o := .tup [.str "drop", .str "x9", .str "x9"]) hqd
       walk_at "g"
       have zl5 : zs5.length ≤ 30 := by
         rw [t5.length, List.length_map]
         exact (g.x.ch.1 _ (List.getElem_mem hk)).few
       refine q_append (sd _ _ el5) (len_small (by omega)) ?_
       refine ⟨_, _, _, _, _, rfl, fun z u e => ?_⟩
       rw [upd_ne (ne_of_none (sx _ _ e) hl5)]
       exact sd _ _ (s15 _ _ e)
   · rintro σ Hk ⟨v3, v4, v5, v6, v7, rfl, sk⟩
     walk_at "g"
     refine ⟨p, dx, _, rfl, sk _ _ e1, hfs_no (by decide +kernel), ?_⟩
     walk_at "g"
     refine ⟨N, p, vl, now, rfl, hh.mono sk, fun lg H5 ys s5 hlg elg tlg => ?_⟩
     have s05 := sk.trans s5
     walk_at "g"
     refine .inl ?_
     walk_at "g"
     refine q_lenL (.inl (.inl (s05 _ _ em))) ?_
     walk_at "g"
     rw [xl]
     refine ⟨_, rfl, by omega, by omega, ?_⟩
     walk_at "g"
     intro dl hdl
     rw [show ((vl.length : Nat) : Int).toNat = vl.length by omega]
     have sD := same_new (o := .lst []) hdl
     refine lc_any walk_range (fun i Hx => Same H5 Hx ∧ ∃ acc, Hx dl = some (.lst acc) ∧ Ts K Hx ff acc ((List.range i).map fun k => Tr.tup [.int (k : Nat), .str (vAt vl k).lb, .int ((vAt vl k).es.length : Nat)]) ∧ acc.length ≤ i) ?_ (fun _ _ _ _ => trivial) ?_ ?_
     · exact ⟨sD, [], upd_same, .nil, Nat.le_refl _⟩
     · rintro i x Hx' Hx hi ⟨sx, acc, ea, ta, la⟩ ⟨rfl, rfl⟩
       have vi := List.getElem?_eq_getElem hi
       have sx0 := s05.trans sx
       obtain ⟨q1, ah, al, z1, z2, z3, zs, z4, z5⟩ := mine_at tm vi
       have zl : zs.length = vl[i].es.length := by rw [z5.length, List.length_map]
       show gName 3 (V.int (0 + (i : Nat))) _ _ _
       rw [Int.zero_add]
       walk_at "g"
       refine ⟨rfl, ?_⟩
       walk_at "g"
       refine q_ixL (.inl (.inl (sx0 _ _ em))) (atI_nat z1) ?_
       walk_at "g"
       refine q_ixT (Sm.sqT sx0 z2) (atI_nat (j := 1) rfl) ?_
       walk_at "g"
       refine q_ixL (.inl (.inl (sx0 _ _ em))) (atI_nat z1) ?_
       walk_at "g"
       refine q_ixT (Sm.sqT sx0 z2) (atI_nat (j := 2) rfl) ?_
       walk_at "g"
       refine q_lenL (Sm.sqL sx0 z4) ?_
       walk_at "g"
       intro q hq9
       rw [zl]
       have sq := same_new (o := .tup [.int (i : Nat), .str vl[i].lb, .int (vl[i].es.length : Nat)]) hq9
       refine ⟨acc, sq _ _ ea, len_small (by omega), fun z u ez => ?_, _, upd_same, ?_, by rw [List.length_append]; exact Nat.succ_le_succ la⟩
       · rw [upd_ne (ne_of_none ez hdl)]
         exact sq _ _ (sx _ _ ez)
       · rw [List.range_succ, List.map_append]
         have tt : T K (upd Hx q (.tup [.int (i : Nat), .str vl[i].lb, .int (vl[i].es.length : Nat)])) ff (.ref q) (.tup [.int (i : Nat), .str (vAt vl i).lb, .int ((vAt vl i).es.length : Nat)]) := by
           rw [vAt_of vi]
           exact .tup st_new (.cons (.int _) (.cons (.str _) (.cons (.int _) .nil)))
         exact ((ta.mono sq).append (.cons tt .nil)).upd (sq _ _ ea) (fun _ z => nomatch z) (fun _ _ z => nomatch z) fun _ z => z.elim
     · rintro Hx ⟨sx, acc, ea, ta0, la⟩
       walk_at "g"
       have ta : Ts K Hx ff acc (logT vl) := ta0
       have ndl : nod (.lst (logT vl)) = true := by
         rw [nod]
         refine nods_all fun d hd => ?_
         obtain ⟨k, _, rfl⟩ := List.mem_map.mp hd
         rfl
       have dpl : TU.dep (.lst (logT vl)) ≤ 60 := by
         have z : deps (logT vl) ≤ 51 := deps_all fun d hd => by
           obtain ⟨k, _, rfl⟩ := List.mem_map.mp hd
           exact (by decide : 1 ≤ 51)
         simp only [TU.dep]
         omega
       refine q_neT (P := fun _ => True) (.lst trivial (.inl (.inl (sx _ _ elg))) ((tlg.mono sx).imp fun _ z => z.elim)) (.lst trivial (.inl (.inl ea)) (ta.imp fun _ z => z.elim)) ndl ndl dpl ?_
       rw [eqb_refl ndl]
       have sx0 := s05.trans sx
       walk_at "g"
       refine q_lenL (.inl (.inl (sx0 _ _ em))) ?_
       walk_at "g"
       rw [xl]
       refine ⟨N, p, vl.length, vl, now, rfl, hh.mono sx0, g.x.ch, fun z => absurd z.2 (by omega), fun H7 s7 => ?_⟩
       walk_at "g"
       exact ⟨N, p, -1, vl, now, rfl, hh.mono (sx0.trans s7), g.x.ch, fun z => absurd z.1 (by decide), fun H8 s8 => hq H8 ((sx0.trans s7).trans s8)⟩
  case len =>
   obtain ⟨N, N2, p, m, h, vl, now, xm, rfl, _⟩ := h
   rfl

theorem str_l : ∀ k : Fin 9, (("l" : Str).length + (Str.ofString (toString (k.val : Int))).length ≤ 100) ∧ (k.val : Int).natAbs.log2 < 1920 := by decide +kernel
/-- _law_step(jar, at, past, mine, now) -/
def spSt (C : Addr) (K : PySem.W.Frag) : Sp := fun vs H Q _ => ∃ (N N2 : Addr → Prop) (j a p m : Addr) (pi : Int) (h : Hs) (vl : List Ver) (now : Nat) (xm : List V), vs = [.ref j, .ref a, .ref p, .ref m, .int now] ∧ Rnd H j a pi ∧ pi + 150 ≤ lim ∧ HiAt C K N H p vl now ∧ (∀ z, N z → z ≠ a ∧ z ≠ p ∧ H z ≠ none) ∧ Gv h vl ∧ HG h ∧ now + 2 ≤ 401 ∧
  H m = some (.lst xm) ∧ Ts K H N2 xm (mT vl) ∧ (∀ z, N2 z → z ≠ a ∧ z ≠ p ∧ H z ≠ none) ∧ m ≠ a ∧ ∀ (vl' : List Ver) (now' : Nat) (pi' : Int) (q m' : Addr) (H' : Hp) (xm' : List V), Keeps (fun z => z = a ∨ z = p) H H' → Rnd H' j a pi' → pi ≤ pi' → pi' ≤ pi + 150 → HiAt C K (fun z => N z ∨ H z = none) H' p vl' now' → Gv h vl' → now' ≤ now + 1 →
    H' m' = some (.lst xm') → Ts K H' (fun z => (N2 z ∨ H z = none) ∧ H' z ≠ none) xm' (mT vl') → (m' = m ∨ H m' = none) → H' q = some (.tup [.ref m', .int now', .bl true]) → Q (.ref q) H'
-- _law_step: 0 jar, 1 at, 2 past, 3 mine, 4 now, 5 deed, 6 told, 7 house, 8 edits, 9 error, 10 label, 11 later, 12 edit, 13 kept
theorem sc_law_step : FnScope ["jar", "at", "past", "mine", "now", "deed", "told", "house", "edits", "error", "label", "later", "edit", "kept"] ["jar", "at", "past", "mine", "now"] (defScope s_law_step) := ⟨rfl, rfl, rfl, by decide +kernel, rfl, by decide +kernel, by decide +kernel⟩
theorem d_law_step (B : Bt mg) (F : TopF K mg "_law_step" s_law_step ["jar", "at", "past", "mine", "now"]) (Kl_History : Kl K mg "History" C_History ["houses", "labels", "lists", "now"]) (X_Unknown : Xc P w K mg base "Unknown" ["what", "name"] C_Unknown) (X_NothingToRedo : X0 K mg "NothingToRedo" C_NothingToRedo) (X_NothingToUndo : X0 K mg "NothingToUndo" C_NothingToUndo) (D_History_commit : Dm P w K mg base C_History "commit" ["self", "edits", "label"] 7 (spHC C_History C_Unknown C_TooMany K)) (D_law_after : Df P w K mg base "_law_after" ["house", "edit"] 3 (spAF K)) (D_law_copy : Df P w K mg base "_law_copy" ["house"] 1 (spCH K)) (D_law_draw : Df P w K mg base "_law_draw" ["jar", "at", "many"] 1 (spDraw)) (N_History_commit : DmN P w K mg base C_History "commit" ["self", "edits", "label"] 7 (spHC C_History C_Unknown C_TooMany K)) (D_law_edits : Df P w K mg base "_law_edits" ["jar", "at", "house", "many"] 4 (spEds K)) (D_History_redo : Dm P w K mg base C_History "redo" ["self"] 1 (spHR C_History C_NothingToRedo K)) (D_History_undo : Dm P w K mg base C_History "undo" ["self"] 1 (spHU2 C_History C_NothingToUndo K)) : Df P w K mg base "_law_step" ["jar", "at", "past", "mine", "now"] 9 (spSt C_History K) := by
  refine F.df sc_law_step (fun vs H Q E h => ?len) (fun f cdv A outer s H vs Q E hr h => ?body)
  case body =>
   have hu := hr.units
   refine ⟨_, (pss_cons (ps_set (i := 5) sc_law_step.nd rfl (Or.inl rfl) (pe_df D_law_draw (hr.mono (by decide)) (fun σ => passAt (takes_of rfl rfl rfl rfl) σ) (pa_cons (pv 0) (pa_cons (pv 1) (pa_cons pe_int pa_nil)))))
      (pss_cons (ps_if (pt_cmpR (k_eq (K := K) rfl hu) (pv 5) pe_int (nomark _))
      (pss_cons (ps_try_only rfl rfl ⟨rfl, by decide, .inl X_NothingToUndo.g⟩ (takes_of rfl rfl rfl rfl) (fun W pn xe tk po => (pss_one (ps_set (i := 6) sc_law_step.nd rfl (Or.inl rfl) (pe_dm0 (pv 2) Kl_History D_History_undo (hr.mono (by decide)) (fun σ => passAt tk σ)))))
      (fun a oe cls d pn hz hf => (pss_one (ps_ret (pe_tup (pa_cons (pv 3) (pa_cons (pv 4) (pa_cons (pe_cmpR (k_eq (K := K) rfl hu) (pv 4) pe_int (nomark _)) pa_nil))))))))
      (pss_one (ps_ret (pe_tup (pa_cons (pv 3) (pa_cons (pe_op op_sub (pv 4) pe_int) (pa_cons (pe_and (pe_cmpR (k_eq (K := K) rfl hu) (pv 6) (pe_op op_sub (pv 4) pe_int) (nomark _)) (pe_one (pe_cmpR op_gt (pv 4) pe_int (nomark _)))) pa_nil)))))))
      pss_nil)
      (pss_cons (ps_if (pt_cmpR (k_eq (K := K) rfl hu) (pv 5) pe_int (nomark _))
      (pss_cons (ps_try_only rfl rfl ⟨rfl, by decide, .inl X_NothingToRedo.g⟩ (takes_of rfl rfl rfl rfl) (fun W pn xe tk po => (pss_one (ps_set (i := 6) sc_law_step.nd rfl (Or.inl rfl) (pe_dm0 (pv 2) Kl_History D_History_redo (hr.mono (by decide)) (fun σ => passAt tk σ)))))
      (fun a oe cls d pn hz hf => (pss_one (ps_ret (pe_tup (pa_cons (pv 3) (pa_cons (pv 4) (pa_cons (pe_cmpR (k_eq (K := K) rfl hu) (pv 4) (pe_op op_sub (pe_callB (k_len (K := K) rfl) (by rfl) B.b_len (by decide +kernel) (pa_cons (pv 3) pa_nil)) pe_int) (nomark _)) pa_nil))))))))
      (pss_one (ps_ret (pe_tup (pa_cons (pv 3) (pa_cons (pe_op (k_add (K := K) rfl) (pv 4) pe_int) (pa_cons (pe_and (pe_cmpR (k_eq (K := K) rfl hu) (pv 6) (pe_op (k_add (K := K) rfl) (pv 4) pe_int) (nomark _)) (pe_one (pe_cmpR op_lt (pv 4) (pe_op op_sub (pe_callB (k_len (K := K) rfl) (by rfl) B.b_len (by decide +kernel) (pa_cons (pv 3) pa_nil)) pe_int) (nomark _)))) pa_nil)))))))
      pss_nil)
      (pss_cons (ps_set (i := 7) sc_law_step.nd rfl (Or.inl rfl) (pe_ix (k_ix (K := K) rfl hu) (pe_ix (k_ix (K := K) rfl hu) (pv 3) (pv 4) (fun _ _ => rfl)) pe_int (fun _ _ => rfl)))
      (pss_cons (ps_set (i := 8) sc_law_step.nd rfl (Or.inl rfl) (pe_df D_law_edits (hr.mono (by decide)) (fun σ => passAt (takes_of rfl rfl rfl rfl) σ) (pa_cons (pv 0) (pa_cons (pv 1) (pa_cons (pv 7) (pa_cons (pe_df D_law_draw (hr.mono (by decide)) (fun σ => passAt (takes_of rfl rfl rfl rfl) σ) (pa_cons (pv 0) (pa_cons (pv 1) (pa_cons pe_int pa_nil)))) pa_nil))))))
      (pss_cons (ps_if (pt_cmpR (k_eq (K := K) rfl hu) (pv 5) pe_int (nomark _))
      (pss_cons (L2N.ps_try_as (i := 9) rfl rfl sc_law_step.nd rfl rfl ⟨rfl, by decide, .inl X_Unknown.g⟩ (takes_N (takes_of rfl rfl rfl rfl)) (fun W pn xe tk po => (pss_one (ps_expr (pe_dmN (pv 2) Kl_History N_History_commit (hr.mono (by decide)) (fun σ => L2N.passAt tk σ) (pa_cons (pe_op (k_add (K := K) rfl) (pv 8) (pe_lst (pa_cons (pe_tup (pa_cons pe_str (pa_cons (pe_ix (k_ix (K := K) rfl hu) (pe_callTy (k_list (K := K) rfl rfl) (by rfl) B.b_list (by decide +kernel) (pa_cons (pv 7) pa_nil)) pe_int (fun _ _ => rfl)) (pa_cons pe_str pa_nil)))) pa_nil))) (pa_cons pe_str pa_nil))))))
      (fun a oe cls d pn hz hf => (pss_one (ps_ret (pe_tup (pa_cons (pv 3) (pa_cons (pv 4) (pa_cons (pe_and (pe_cmpR (k_eq (K := K) rfl hu) (pe_xf X_Unknown.xf (X_Unknown.no _ (by decide)) (L2N.Zn.zc hz) hf (pv 9)) (pe_ix (k_ix (K := K) rfl hu) (pe_callTy (k_listH (K := K) rfl (suiteHot hz hf)) (by rfl) B.b_list (by decide +kernel) (pa_cons (pv 7) pa_nil)) pe_int (fun _ _ => rfl)) (nomark _)) (pe_one (pe_cmpR (k_eq (K := K) rfl hu) (pe_xf X_Unknown.xf (X_Unknown.no _ (by decide)) (L2N.Zn.zc hz) hf (pv 9)) pe_str (nomark _)))) pa_nil))))))))
      (pss_one (ps_ret (pe_tup (pa_cons (pv 3) (pa_cons (pv 4) (pa_cons pe_bl pa_nil)))))))
      pss_nil)
      (pss_cons (ps_set (i := 10) sc_law_step.nd rfl (Or.inl rfl) (pe_op (k_add (K := K) rfl) pe_str (pe_callTy call_str_int (by rfl) B.b_str (by decide +kernel) (pa_cons (pe_df D_law_draw (hr.mono (by decide)) (fun σ => passAt (takes_of rfl rfl rfl rfl) σ) (pa_cons (pv 0) (pa_cons (pv 1) (pa_cons pe_int pa_nil)))) pa_nil))))
      (pss_cons (ps_set (i := 11) sc_law_step.nd rfl (Or.inl rfl) (pe_df D_law_copy (hr.mono (by decide)) (fun σ => passAt (takes_of rfl rfl rfl rfl) σ) (pa_cons (pv 7) pa_nil)))
      (pss_cons (ps_lockU (ps_for (passes_of rfl) rfl (k_walk (K := K) rfl (pv 8)) (pg_name (i := 12) sc_law_step.nd rfl (Or.inl rfl))
      (pss_one (ps_set (i := 11) sc_law_step.nd rfl (Or.inl rfl) (pe_df D_law_after (hr.mono (by decide)) (fun σ => passAt (takes_of rfl rfl rfl rfl) σ) (pa_cons (pv 11) (pa_cons (pv 12) pa_nil)))))))
      (pss_cons (ps_set (i := 13) sc_law_step.nd rfl (Or.inl rfl) (pe_callTy (k_list (K := K) rfl rfl) (by rfl) B.b_list (by decide +kernel) (pa_cons (pv 8) pa_nil)))
      (pss_cons (ps_set (i := 6) sc_law_step.nd rfl (Or.inl rfl) (pe_dm (pv 2) Kl_History D_History_commit (hr.mono (by decide)) (fun σ => passAt (takes_of rfl rfl rfl rfl) σ) (pa_cons (pv 8) (pa_cons (pv 10) pa_nil))))
      (pss_cons (ps_expr (k_append (K := K) rfl (pv 8) (pa_cons (pe_tup (pa_cons pe_str (pa_cons pe_str (pa_cons pe_str pa_nil)))) pa_nil)))
      (pss_one (ps_ret (pe_tup (pa_cons (pe_op (k_add (K := K) rfl) (pe_slice (k_sl (K := K) rfl) (pv 3) po_none (po_some (pe_op (k_add (K := K) rfl) (pv 4) pe_int))) (pe_lst (pa_cons (pe_tup (pa_cons (pv 11) (pa_cons (pv 10) (pa_cons (pv 13) pa_nil)))) pa_nil))) (pa_cons (pe_op (k_add (K := K) rfl) (pv 4) pe_int) (pa_cons (pe_cmpR (k_eq (K := K) rfl hu) (pv 6) (pe_op (k_add (K := K) rfl) (pv 4) pe_int) (nomark _)) pa_nil)))))))))))))))))), ?_⟩
   obtain ⟨N, N2, j, a, p, m, pi, h, vl, now, xm, rfl, R, hpi, hh, hN, g, hG, hnow, em, tm, hN2, ma, hq⟩ := h
   obtain ⟨dx, lh, ll, le, xh, xe, e1, _⟩ := hh.ex
   have lt := hh.lt
   have few := hh.few
   have xl : xm.length = vl.length := by rw [tm.length]; exact List.length_map _
   have hl3 : h.length ≤ 3 := hG.len.2
   have pa : p ≠ a := fun e => by
     rw [e, R.at_] at e1
     cases e1
   have mp : m ≠ p := fun e => by
     rw [e, e1] at em
     cases em
   have lv : ∀ {Hx : Hp}, Keeps (fun z => z = a ∨ z = p) H Hx → ∀ z, N2 z → Hx z ≠ none := fun {Hx} k z n c => by
     cases e : H z with
     | none => exact (hN2 z n).2.2 e
     | some o =>
       rw [k z o (fun d => d.elim (hN2 z n).1 (hN2 z n).2.1) e] at c
       cases c
   have fin : ∀ {H2 : Hp} {vl' : List Ver} {now' : Nat} {pi' : Int} {m' q : Addr} {xm' : List V}, Keeps (fun z => z = a ∨ z = p) H H2 → Rnd H2 j a pi' → pi ≤ pi' → pi' ≤ pi + 150 → HiAt C_History K (fun z => N z ∨ H z = none) H2 p vl' now' → Gv h vl' → now' ≤ now + 1 → H2 m' = some (.lst xm') → Ts K H2 (fun z => (N2 z ∨ H z = none) ∧ H2 z ≠ none) xm' (mT vl') → (m' = m ∨ H m' = none) → H2 q = none →
       Q (.ref q) (upd H2 q (.tup [.ref m', .int now', .bl true])) := fun {H2 vl' now' pi' m' q xm'} k2 R2 z1 z2 h2 g2 z3 e2 t2 z4 hq9 => by
     have s := same_new (o := .tup [.ref m', .int now', .bl true]) hq9
     exact hq vl' now' pi' q m' _ xm' (fun z o n e => s _ _ (k2 z o n e)) (R2.same s) z1 z2 (h2.mono s) g2 z3 (s _ _ e2) ((t2.mono s).imp fun z e => ⟨e.1, fun c => e.2 (s.free c)⟩) z4 upd_same
   have jp : j ≠ p := fun e => by
     obtain ⟨ns, h1, _⟩ := R.ex
     rw [e, e1] at h1
     cases h1
   have rnp : ∀ {Hx Hy : Hp} {i : Int}, Rnd Hx j a i → Kp p Hx Hy → Rnd Hy j a i := fun {Hx Hy i} R k => by
     obtain ⟨ns, h1, h2, h3⟩ := R.ex
     exact ⟨⟨ns, k _ _ jp h1, h2, h3⟩, k _ _ pa.symm R.at_, R.ne, R.p0⟩
   walk_at "g"
   refine ⟨j, a, pi, 6, rfl, R, by omega, by decide, fun v p1 v0 v1 q1 q2 => ?_⟩
   have p0 := R.p0
   have R1 := R.set (p' := p1) (by omega)
   have k1 := Kp.upd (H := H) (a := a) (o := .lst [.int p1])
   generalize upd H a (.lst [.int p1]) = H1 at R1 k1
   have nta : ∀ z xs, z = a → ¬ Rd H z (.tup xs) := nt_of R.at_ (fun _ z => nomatch z) fun _ _ z => nomatch z
   have hh1 := hh.keep k1 nta (N' := N) (fun z n => ⟨n, (hN z n).1⟩) pa
   have em1 := k1 _ _ ma em
   have tm1 := tm.keep k1 nta (P' := N2) fun z n => ⟨n, (hN2 z n).1⟩
   have p1e := k1 _ _ pa e1
   have kx1 : Keeps (fun z => z = a ∨ z = p) H H1 := fun z o n e => k1 z o (fun c => n (.inl c)) e
   have ntp : ∀ z xs, z = p → ¬ Rd H1 z (.tup xs) := nt_of p1e (fun _ z => nomatch z) fun _ _ z => nomatch z
   walk_at "g"
   refine q_dec (fun c => ?_) (fun c => ?_)
   · walk_at "g"
     refine ⟨p, dx, _, rfl, p1e, hfs_no (by decide +kernel), ?_⟩
     walk_at "g"
     refine ⟨N, p, vl, now, rfl, hh1, fun z n => (hN z n).2.1, fun h0 => ?_, fun m0 hm0 H2 k2 hh2 => ?_⟩
     · refine ⟨true, X_NothingToUndo.te, fun _ b hb => ?_, fun z => by cases z⟩
       walk_at "g"
       rw [decide_eq_true (by omega)]
       walk_at "g"
       intro q hq9
       exact fin kx1 R1 (by omega) (by omega) (hh1.imp fun z n => .inl n) g (by omega) em1 (tm1.imp fun z n => ⟨.inl n, lv kx1 z n⟩) (.inl rfl) hq9
     · walk_at "g"
       rw [decide_eq_true (by omega)]
       walk_at "g"
       rw [decide_eq_true (by omega)]
       walk_at "g"
       intro q hq9
       rw [show (now : Int) - 1 = (m0 : Int) by omega] at *
       exact fin (fun z o n e => k2 z o (fun c => n (.inr c)) (kx1 z o n e)) (rnp R1 k2) (by omega) (by omega) (hh2.imp fun z n => .inl n) g (by omega) (k2 _ _ mp em1) ((tm1.keep k2 ntp (P' := N2) fun z n => ⟨n, (hN2 z n).2.1⟩).imp fun z n => ⟨.inl n, lv (fun z o n e => k2 z o (fun c => n (.inr c)) (kx1 z o n e)) z n⟩) (.inl rfl) hq9
   · walk_at "g"
     refine q_dec (fun c2 => ?_) (fun c2 => ?_)
     · walk_at "g"
       refine ⟨p, dx, _, rfl, p1e, hfs_no (by decide +kernel), ?_⟩
       walk_at "g"
       refine ⟨N, p, vl, now, rfl, hh1, fun z n => (hN z n).2.1, fun h0 => ?_, fun h0 H2 k2 hh2 => ?_⟩
       · refine ⟨true, X_NothingToRedo.te, fun _ b hb => ?_, fun z => by cases z⟩
         walk_at "g"
         refine q_lenL (.inl (.inl em1)) ?_
         rw [xl]
         walk_at "g"
         rw [decide_eq_true (by omega)]
         walk_at "g"
         intro q hq9
         exact fin kx1 R1 (by omega) (by omega) (hh1.imp fun z n => .inl n) g (by omega) em1 (tm1.imp fun z n => ⟨.inl n, lv kx1 z n⟩) (.inl rfl) hq9
       · have em2 := k2 _ _ mp em1
         walk_at "g"
         rw [decide_eq_true (by omega)]
         walk_at "g"
         refine q_lenL (.inl (.inl em2)) ?_
         rw [xl]
         walk_at "g"
         rw [decide_eq_true (by omega)]
         walk_at "g"
         intro q hq9
         rw [show (now : Int) + 1 = ((now + 1 : Nat) : Int) by omega] at *
         exact fin (fun z o n e => k2 z o (fun c => n (.inr c)) (kx1 z o n e)) (rnp R1 k2) (by omega) (by omega) (hh2.imp fun z n => .inl n) g (by omega) em2 ((tm1.keep k2 ntp (P' := N2) fun z n => ⟨n, (hN2 z n).2.1⟩).imp fun z n => ⟨.inl n, lv (fun z o n e => k2 z o (fun c => n (.inr c)) (kx1 z o n e)) z n⟩) (.inl rfl) hq9
     · have eu := List.getElem?_eq_getElem lt
       have gu := g.gd _ (List.getElem_mem lt)
       obtain ⟨q0, ah, al, y1, y2, y3, _⟩ := mine_at tm1 eu
       walk_at "g"
       refine q_ixL (.inl (.inl em1)) (atI_nat y1) ?_
       walk_at "g"
       refine q_ixT y2 (atI_nat (j := 0) rfl) ?_
       walk_at "g"
       refine ⟨j, a, p1, 4, rfl, R1, by omega, by decide, fun n2 p2 n0 n1 q3 q4 => ?_⟩
       have R2 := R1.set (p' := p2) (by omega)
       have k2 := Kp.upd (H := H1) (a := a) (o := .lst [.int p2])
       have nta1 : ∀ z xs, z = a → ¬ Rd H1 z (.tup xs) := nt_of R1.at_ (fun _ z => nomatch z) fun _ _ z => nomatch z
       generalize upd H1 a (.lst [.int p2]) = H2 at R2 k2
       have y4 := y3.keep k2 nta1 (P' := N2) fun z n => ⟨n, (hN2 z n).1⟩
       obtain ⟨many, rfl⟩ : ∃ k : Nat, n2 = (k : Int) := ⟨n2.toNat, by omega⟩
       walk_at "g"
       refine ⟨N2, j, a, ah, p2, vl[now].h, many, rfl, R2, by omega, by omega, fun z n => (hN2 z n).1, y4, gu.he hG, fun l H3 p3 xs es k3 R3 q5 q6 hl el ts ln heg hex => ?_⟩
       have nta2 : ∀ z xs, z = a → ¬ Rd H2 z (.tup xs) := nt_of R2.at_ (fun _ z => nomatch z) fun _ _ z => nomatch z
       have k13 : Kp a H1 H3 := k2.trans k3
       have kx3 : Keeps (fun z => z = a ∨ z = p) H H3 := fun z o n e => k13 z o (fun c => n (.inl c)) (kx1 z o n e)
       have hh3 := hh1.keep k13 nta1 (N' := N) (fun z n => ⟨n, (hN z n).1⟩) pa
       have em3 := k13 _ _ ma em1
       have tm3 := tm1.keep k13 nta1 (P' := N2) fun z n => ⟨n, (hN2 z n).1⟩
       have y5 := y4.keep k3 nta2 (P' := N2) fun z n => ⟨n, (hN2 z n).1⟩
       have p3e := k13 _ _ pa p1e
       have eln : es.length ≤ 3 := by omega
       have im : ∀ e ∈ es, e.Imm := fun e m => (heg e m).imm
       have lH : H l = none := by
         cases e9 : H l with
         | none => rfl
         | some o9 =>
           by_cases c9 : l = a
           · rw [c9, R2.at_] at hl
             cases hl
           · have z9 := k2 _ _ c9 (k1 _ _ c9 e9)
             rw [hl] at z9
             cases z9
       clear k2 R2 y4 y3 nta2
       walk_at "g"
       refine q_dec (fun c3 => ?_) (fun c3 => ?_)
       · obtain ⟨ah', kvs, ea9, _, hr9, tk9⟩ := y5.dicAt
         cases ea9
         obtain ⟨kv0, hkv⟩ : ∃ x, kvs[0]? = some x := by
           have l0 := tk9.length
           unfold hK at l0
           rw [List.length_map, gu.len] at l0
           have := hG.len.1
           exact ⟨_, List.getElem?_eq_getElem (by omega)⟩
         obtain ⟨kk, vv⟩ := kv0
         obtain ⟨d0, g1, g2⟩ := Tk.at tk9 hkv
         obtain ⟨k0, t0, hn0, rfl, rfl⟩ := hK_at g1
         walk_at "g"
         refine ⟨p, dx, _, rfl, p3e, hfs_no (by decide +kernel), ?_⟩
         walk_at "g"
         refine q_listK hr9 fun ln hln => ?_
         walk_at "g"
         refine q_ixL (.inl (.inl upd_same)) (atI_nat (j := 0) (v := .str k0) (by rw [List.getElem?_map, hkv]; rfl)) ?_
         walk_at "g"
         intro q1 hq1
         walk_at "g"
         intro l2 hl2
         walk_at "g"
         have sa := same_new (o := .lst (kvs.map fun kv => kV kv.1)) hln
         have sb := same_new (o := .tup [.str "drop", .str k0, .str "x8"]) hq1
         have sc := same_new (o := .lst [.ref q1]) hl2
         refine q_addL (sc _ _ (sb _ _ (sa _ _ el))) upd_same (by
           show _ + 1 ≤ _
           exact Nat.le_of_lt (len_small (by rw [show xs.length = es.length by rw [ts.length, List.length_map]]; omega))) fun l3 hl3 => ?_
         have sf := same_new (o := .lst (xs ++ [.ref q1])) hl3
         have sE := ((sa.trans sb).trans sc).trans sf
         have eq1 := (sc.trans sf) _ _ (upd_same (H := upd H3 ln (.lst (kvs.map fun kv => kV kv.1))) (a := q1) (o := .tup [.str "drop", .str k0, .str "x8"]))
         have el3 := upd_same (H := upd (upd (upd H3 ln (.lst (kvs.map fun kv => kV kv.1))) q1 (.tup [.str "drop", .str k0, .str "x8"])) l2 (.lst [.ref q1])) (a := l3) (o := .lst (xs ++ [.ref q1]))
         generalize upd (upd (upd (upd H3 ln (.lst (kvs.map fun kv => kV kv.1))) q1 (.tup [.str "drop", .str k0, .str "x8"])) l2 (.lst [.ref q1])) l3 (.lst (xs ++ [.ref q1])) = HE at sE eq1 el3
         walk_at "g"
         obtain ⟨f, hf⟩ := hex
         have bad : appAll (cpH vl[now].h) (es ++ [.drop k0 "x8"]) = .error (k0, "x8") := by
           rw [appAll_append, hf]
           have nf := (appAll_wf im gu.wf.cp hf).2
           rw [nms_cp] at nf
           obtain ⟨t, et⟩ := lk_mem_nms (show k0 ∈ nms f by rw [nf]; exact mem_nms (mem_at hn0))
           have nx : ("x8" : Str) ∉ nms t := fun c => by
             have na := appAll_nam gu.na.cp (fun e m => (heg e m).name) hf
             obtain ⟨y, hy, ey⟩ := List.mem_map.mp c
             have := na _ (lk_mem et) y hy
             rw [ey] at this
             exact absurd this (by decide +kernel)
           show appAll f [.drop k0 "x8"] = _
           rw [appAll_cons]
           have ap : app1 f (.drop k0 "x8") = .error (k0, "x8") := by
             unfold app1
             rw [show (Ed.drop k0 "x8").key = k0 from rfl, et]
             exact if_neg nx
           rw [ap]
           rfl
         refine ⟨N, p, l3, _, vl, now, vl[now], xs ++ [.ref q1], es ++ [.drop k0 "x8"], rfl, hh3.mono sE, fun z n => (hN z n).2.1, eu, g.x.ch.1 _ (List.getElem_mem lt), el3, ?_, ?_, by rw [List.length_append]; show _ + 1 ≤ 30; omega, fun _ => ?_, fun z => absurd (by omega) z⟩
         · rw [List.map_append]
           exact (ts.mono sE).append (.cons (.tup (.inl (.inl eq1)) (.cons (.str _) (.cons (.str _) (.cons (.str _) .nil)))) .nil)
         · intro e m
           rcases List.mem_append.mp m with m | m
           · exact im e m
           · rw [List.mem_singleton.mp m]
             trivial
         rw [bad]
         intro d HX sX eX
         refine ⟨true, X_Unknown.te, fun _ b hb => ?_, fun z => by cases z⟩
         have sEX := sE.trans sX
         walk_at "g"
         refine ⟨_, rfl, rfl, rfl, d, _, .str k0, rfl, eX, rfl, ?_⟩
         walk_at "g"
         refine q_listK (Sm.rd sEX hr9) fun ln2 hln2 => ?_
         have sg := same_new (o := .lst (kvs.map fun kv => kV kv.1)) hln2
         walk_at "g"
         refine q_ixL (.inl (.inl upd_same)) (atI_nat (j := 0) (v := .str k0) (by rw [List.getElem?_map, hkv]; rfl)) ?_
         walk_at "g"
         rw [decide_eq_true rfl]
         walk_at "g"
         refine ⟨_, rfl, rfl, rfl, d, _, .str "x8", rfl, sg _ _ eX, rfl, ?_⟩
         walk_at "g"
         try rw [decide_eq_true rfl]
         walk_at "g"
         intro q9 hq9
         have sz := sEX.trans sg
         exact fin (fun z o n e => sz _ _ (kx3 z o n e)) (R3.same sz) (by omega) (by omega) ((hh3.mono sz).imp fun z n => .inl n) g (by omega) (sz _ _ em3) ((tm3.mono sz).imp fun z n => ⟨.inl n, lv (fun z o n e => sz _ _ (kx3 z o n e)) z n⟩) (.inl rfl) hq9
       · walk_at "g"
         refine ⟨j, a, p3, 9, rfl, R3, by omega, by decide, fun n4 p4 n5 n6 q7 q8 => ?_⟩
         have R4 := R3.set (p' := p4) (by omega)
         have k4 := Kp.upd (H := H3) (a := a) (o := .lst [.int p4])
         have nta3 : ∀ z xs, z = a → ¬ Rd H3 z (.tup xs) := nt_of R3.at_ (fun _ z => nomatch z) fun _ _ z => nomatch z
         generalize upd H3 a (.lst [.int p4]) = H4 at R4 k4
         have k14 := k13.trans k4
         have kx4 : Keeps (fun z => z = a ∨ z = p) H H4 := fun z o n e => k4 z o (fun c => n (.inl c)) (kx3 z o n e)
         have hh4 := hh3.keep k4 nta3 (N' := N) (fun z n => ⟨n, (hN z n).1⟩) pa
         have em4 := k4 _ _ ma em3
         have tm4 := tm3.keep k4 nta3 (P' := N2) fun z n => ⟨n, (hN2 z n).1⟩
         have y6 := y5.keep k4 nta3 (P' := N2) fun z n => ⟨n, (hN2 z n).1⟩
         have p4e := k4 _ _ pa p3e
         have la : l ≠ a := fun c => by
           rw [c, R.at_] at lH
           cases lH
         have el4 := k4 _ _ la el
         have ts4 := ts.keep k4 nta3 (P' := ff) fun _ z => z.elim
         obtain ⟨n9, rfl⟩ : ∃ k : Nat, n4 = (k : Int) := ⟨n4.toNat, by omega⟩
         have sk9 := str_l ⟨n9, by omega⟩
         walk_at "g"
         refine ⟨n9, rfl, sk9.2, ?_⟩
         refine q_addS (Nat.le_trans sk9.1 (by decide)) ?_
         walk_at "g"
         have fit5 : Fits 5 vl[now].h := gu.fit
         have len5 : vl[now].h.length ≤ 3 := by rw [gu.len]; exact hl3
         refine ⟨N2, ah, vl[now].h, rfl, y6, gu.wf, fun q hq => Nat.le_trans (fit5 q hq) (by decide), by omega, fun r H5 s5 o5 => ?_⟩
         obtain ⟨f, hf⟩ := hex
         have xle : xs.length = es.length := by rw [ts.length, List.length_map]
         walk_at "g"
         refine .inl ?_
         walk_at "g"
         refine q_items ?_
         walk_at "g"
         refine q_itemsE (xs := xs) (.inl (.inl (s5 _ _ el4))) ?_
         refine for_items (xs := xs) (fun i σ Hi => ∃ (q : Addr) (v3 : Option V) (fi : Hs), σ = [some (.ref j), some (.ref a), some (.ref p), some (.ref m), some (.int now), some (.int v), none, some (.ref ah), some (.ref l), none, some (.str ("l" ++ Str.ofString (toString (n9 : Int)))), some (.ref q), v3, none] ∧ Same H4 Hi ∧ appAll (cpH vl[now].h) (es.take i) = .ok fi ∧ Own K (fun z => H4 z = none) Hi q (cpH fi)) ?_ ?_ ?_ ?_
         · exact ⟨r, none, cpH vl[now].h, rfl, s5, rfl, by rw [cp_cp gu.wf]; exact o5⟩
         · rintro i σ Hi _ ⟨q, v3, fi, rfl, si, _⟩
           exact .inl (.inl (si _ _ el4))
         · rintro i x σ Hi hx ⟨q, v3, fi, rfl, si, ai, oi⟩
           obtain ⟨d, gd9, tx0⟩ := ts4.gets hx
           obtain ⟨e, he, rfl⟩ := map_at gd9
           have ime := im e (mem_at he)
           have imt : ∀ e ∈ es.take i, e.Imm := fun e m => im e (List.mem_of_mem_take m)
           obtain ⟨wi, fti, ni⟩ := appAll_ok gu.wf.cp imt fit5.cp ai
           have hlt : (es.take i).length ≤ es.length := by rw [List.length_take]; exact Nat.min_le_right _ _
           rw [nms_cp] at ni
           obtain ⟨f', hf'⟩ := appAll_next he ai hf
           obtain ⟨g2, u2, stp, hc, wg, wu, ng, nu⟩ := step_of wi ime hf'
           walk_at "g"
           refine ⟨_, q, x, cpH fi, g2, e, rfl, oi.T, tx0.mono si, wi.cp, ime, fun q hq => Nat.le_trans (fti.cp q hq) (by omega), by rw [len_cp, len_of_nms ni]; omega, stp.a2, fun q2 H6 s6 o6 => ?_⟩
           exact ⟨q2, _, f', rfl, si.trans s6, by rw [appAll_more he ai]; exact hf', by rw [hc]; exact o6.imp fun z e => si.free e⟩
         · rintro σ H6 ⟨q, v3, fi, rfl, s6, ai, o6⟩
           rw [xle, List.take_length, hf] at ai
           cases ai
           walk_at "g"
           refine q_listL (.inl (.inl (s6 _ _ el4))) fun lk9 hlk => ?_
           have s7 := s6.trans (same_new (o := .lst xs) hlk)
           have o7 := (o6.mono (same_new (o := .lst xs) hlk)).live
           have ek7 : (upd H6 lk9 (.lst xs)) lk9 = some (.lst xs) := upd_same
           have lk4 : H4 lk9 = none := s6.free hlk
           generalize upd H6 lk9 (.lst xs) = H7 at s7 o7 ek7
           walk_at "g"
           have p7 := s7 _ _ p4e
           refine ⟨p, dx, _, rfl, p7, hfs_no (by decide +kernel), ?_⟩
           walk_at "g"
           refine ⟨N, p, l, _, vl, now, vl[now], xs, es, rfl, hh4.mono s7, fun z n => (hN z n).2.1, eu, g.x.ch.1 _ (List.getElem_mem lt), s7 _ _ el4, ts4.mono s7, im, by omega, fun _ => ?_, fun z => absurd (by omega) z⟩
           rw [hf]
           intro H8 k8 hh8
           walk_at "g"
           have lp : l ≠ p := fun c => by
             rw [c, e1] at lH
             cases lH
           have el8 := k8 _ _ lp (s7 _ _ el4)
           refine tyL el8 ?_
           walk_at "g"
           intro qd hqd
           have sd := same_new (o := .tup [.str "drop", .str "x9", .str "x9"]) hqd
           walk_at "g"
           refine q_append (sd _ _ el8) (len_small (by omega)) ?_
           have k79 : Keeps (fun z => z = p ∨ z = l) H7 (upd (upd H8 qd (.tup [.str "drop", .str "x9", .str "x9"])) l (.lst (xs ++ [.ref qd]))) := fun z o n e => by
             rw [upd_ne (fun c => n (.inr c))]
             exact sd _ _ (k8 z o (fun c => n (.inl c)) e)
           have nt9 : ∀ z ys, (z = p ∨ z = l) → ¬ Rd H7 z (.tup ys) := fun z ys c => by
             rcases c with c | c
             · exact nt_of p7 (fun _ z => nomatch z) (fun _ _ z => nomatch z) z ys c
             · exact nt_of (s7 _ _ el4) (fun _ z => nomatch z) (fun _ _ z => nomatch z) z ys c
           have ml : m ≠ l := fun c => by
             rw [c, lH] at em
             cases em
           have em9 := k79 _ _ (fun c => c.elim mp ml) (s7 _ _ em4)
           have tm9 := (tm4.mono s7).keep k79 nt9 (P' := N2) fun z n => ⟨n, fun c => c.elim (hN2 z n).2.1 fun d => (hN2 z n).2.2 (by rw [d]; exact lH)⟩
           have o9 := o7.keep k79 nt9 fun z n c => by
             have n1 := n.1
             rcases c with c | c
             · rw [c, p4e] at n1
               cases n1
             · rw [c, el4] at n1
               cases n1
           have nlk : ¬ (lk9 = p ∨ lk9 = l) := fun c => by
             rcases c with c | c
             · rw [c, p4e] at lk4
               cases lk4
             · rw [c, el4] at lk4
               cases lk4
           have ek9 := k79 _ _ nlk ek7
           have ts9 := (ts4.mono s7).keep k79 nt9 (P' := ff) fun _ z => z.elim
           have nn : ∀ z, H7 z = none → H z = none := fun z e => by
             cases e9 : H z with
             | none => rfl
             | some o =>
               by_cases c : z = a
               · rw [c, s7 _ _ R4.at_] at e
                 cases e
               · by_cases c2 : z = p
                 · rw [c2, p7] at e
                   cases e
                 · rw [s7 _ _ (kx4 z o (fun d => d.elim c c2) e9)] at e
                   cases e
           have hh9 := (hh8.mono sd).keep (keeps_upd (p := l) (o := .lst (xs ++ [.ref qd]))) (nt_of (sd _ _ el8) (fun _ z => nomatch z) fun _ _ z => nomatch z) (N' := fun z => N z ∨ H z = none) (fun z n => ⟨n.imp id (nn z), fun c => by
             rcases n with n | n
             · exact (hN z n).2.2 (by rw [c]; exact lH)
             · rw [c, s7 _ _ el4] at n
               cases n⟩) lp.symm
           have R9 := ((rnp (R4.same s7) k8).same sd).upd (sd _ _ el8) (o' := .lst (xs ++ [.ref qd])) (fun c => by
             obtain ⟨ns, h1, _⟩ := R.ex
             rw [← c, lH] at h1
             cases h1) la
           have kx9 : Keeps (fun z => z = a ∨ z = p) H (upd (upd H8 qd (.tup [.str "drop", .str "x9", .str "x9"])) l (.lst (xs ++ [.ref qd]))) := fun z o n e => k79 z o (fun c => c.elim (fun d => n (.inr d)) fun d => by rw [d, lH] at e; cases e) (s7 _ _ (kx4 z o n e))
           generalize upd (upd H8 qd (.tup [.str "drop", .str "x9", .str "x9"])) l (.lst (xs ++ [.ref qd])) = H9 at k79 em9 tm9 o9 ek9 ts9 hh9 R9 kx9
           walk_at "g"
           rw [show (now : Int) + 1 = ((now + 1 : Nat) : Int) by omega]
           refine q_slL (.inl (.inl em9)) fun l1 hl1 => ?_
           rw [cutV_to (by omega)]
           have s10 := same_new (o := .lst (xm.take (now + 1))) hl1
           walk_at "g"
           intro q1 hq1
           have s11 := same_new (o := .tup [.ref q, .str ("l" ++ Str.ofString (toString (n9 : Int))), .ref lk9]) hq1
           walk_at "g"
           intro l2 hl2
           have s12 := same_new (o := .lst [.ref q1]) hl2
           refine q_addL ((s11.trans s12) _ _ upd_same) upd_same ?_ fun m9 hm9 => ?_
           · rw [List.length_take]
             show _ + 1 ≤ _
             exact Nat.le_of_lt (len_small (by omega))
           have s13 := same_new (o := .lst (xm.take (now + 1) ++ [.ref q1])) hm9
           have s913 := ((s10.trans s11).trans s12).trans s13
           have eq1 := (s12.trans s13) _ _ (upd_same (H := upd H9 l1 (.lst (xm.take (now + 1)))) (a := q1) (o := .tup [.ref q, .str ("l" ++ Str.ofString (toString (n9 : Int))), .ref lk9]))
           have kx13 : Keeps (fun z => z = a ∨ z = p) H _ := fun z o n e => s913 _ _ (kx9 z o n e)
           have em13 := upd_same (H := upd (upd (upd H9 l1 (.lst (xm.take (now + 1)))) q1 (.tup [.ref q, .str ("l" ++ Str.ofString (toString (n9 : Int))), .ref lk9])) l2 (.lst [.ref q1])) (a := m9) (o := .lst (xm.take (now + 1) ++ [.ref q1]))
           have nm9 : H m9 = none := by
             cases e9 : H m9 with
             | none => rfl
             | some o =>
               have z9 := (((s10.trans s11).trans s12).free hm9)
               by_cases c : m9 = a
               · rw [c, R9.at_] at z9
                 cases z9
               · by_cases c2 : m9 = p
                 · obtain ⟨dx9, _, _, _, _, _, w9, _⟩ := hh9.ex
                   rw [c2, w9] at z9
                   cases z9
                 · rw [kx9 m9 o (fun d => d.elim c c2) e9] at z9
                   cases z9
           generalize upd (upd (upd (upd H9 l1 (.lst (xm.take (now + 1)))) q1 (.tup [.ref q, .str ("l" ++ Str.ofString (toString (n9 : Int))), .ref lk9])) l2 (.lst [.ref q1])) m9 (.lst (xm.take (now + 1) ++ [.ref q1])) = HD at s913 eq1 kx13 em13
           walk_at "g"
           rw [show (now : Int) + 1 = ((now + 1 : Nat) : Int) by omega]
           rw [decide_eq_true rfl]
           walk_at "g"
           intro q9 hq9
           have gt : Gv h (vl.take now ++ [vl[now]]) := by
             rw [← take_more eu]
             exact g.take (Nat.succ_pos _)
           have gn := Gv.grow (lb := "l" ++ Str.ofString (toString (n9 : Int))) hl3 gt heg eln hf
           rw [← take_more eu] at gn
           refine fin kx13 (R9.same s913) (by omega) (by omega) (hh9.mono s913) gn (by omega) em13 ?_ (.inr nm9) hq9
           have nn4 : ∀ z, H4 z = none → H z = none := fun z e => by
             cases e9 : H z with
             | none => rfl
             | some o =>
               by_cases c : z = a
               · rw [c, R4.at_] at e
                 cases e
               · by_cases c2 : z = p
                 · rw [c2, p4e] at e
                   cases e
                 · rw [kx4 z o (fun d => d.elim c c2) e9] at e
                   cases e
           have e0 : mT (vl.take (now + 1) ++ [⟨cpH f, "l" ++ Str.ofString (toString (n9 : Int)), es⟩]) = (mT vl).take (now + 1) ++ [.tup [.dic (hK (cpH f)), .str ("l" ++ Str.ofString (toString (n9 : Int))), .lst (es.map Ed.tr)]] := by
             unfold mT
             rw [List.map_append, List.map_take]
             rfl
           rw [e0]
           have ekD := s913 _ _ ek9
           refine ((((tm9.take (now + 1)).mono s913).imp fun z n => ⟨.inl n, lv kx13 z n⟩)).append (.cons (.tup (.inl (.inl eq1)) (.cons ((o9.mono s913).live.T.imp fun z n => ⟨.inr (nn4 z n.1.1), n.2⟩) (.cons (.str _) (.cons (.lst ⟨.inr (nn4 _ lk4), fun c => ?_⟩ (.inl (.inl ekD)) ((ts9.mono s913).imp fun _ z => z.elim)) .nil)))) .nil)
           rw [ekD] at c
           cases c
  case len =>
   obtain ⟨N, N2, j, a, p, m, pi, h, vl, now, xm, rfl, _⟩ := h
   rfl

/-- _law_bound_right(past, mine, now) -/
def spBR (C : Addr) (K : PySem.W.Frag) : Sp := fun vs H Q _ => ∃ (N : Addr → Prop) (p m : Addr) (h : Hs) (vl : List Ver) (now : Nat), vs = [.ref p, .ref m, .int now] ∧ HiAt C K N H p vl now ∧ (∀ z, N z → z ≠ p) ∧ Gv h vl ∧ h.length ≤ 3 ∧ now ≤ 400 ∧ ∀ H', Kp p H H' → Q (.bl true) H'
-- _law_bound_right: 0 past, 1 mine, 2 now, 3 k, 4 error
theorem sc_law_bound_right : FnScope ["past", "mine", "now", "k", "error"] ["past", "mine", "now"] (defScope s_law_bound_right) := ⟨rfl, rfl, rfl, by decide +kernel, rfl, by decide +kernel, by decide +kernel⟩
theorem d_law_bound_right (B : Bt mg) (F : TopF K mg "_law_bound_right" s_law_bound_right ["past", "mine", "now"]) (Kl_History : Kl K mg "History" C_History ["houses", "labels", "lists", "now"]) (X_TooMany : Xc P w K mg base "TooMany" ["what", "limit"] C_TooMany) (N_History_commit : DmN P w K mg base C_History "commit" ["self", "edits", "label"] 7 (spHC C_History C_Unknown C_TooMany K)) (H_History_label_at : DmH P w K mg base C_History "label_at" ["self", "version"] 4 (spHLh C_History K)) (H_History_commit : DmH P w K mg base C_History "commit" ["self", "edits", "label"] 7 (spHCh C_History K)) (H_History_undo : DmH P w K mg base C_History "undo" ["self"] 1 (spHU C_History K)) (H_History_count : DmH P w K mg base C_History "count" ["self"] 1 (spHn C_History K)) (H_History_current : DmH P w K mg base C_History "current" ["self"] 1 (spHcur C_History K)) (D_History_commit : Dm P w K mg base C_History "commit" ["self", "edits", "label"] 7 (spHC C_History C_Unknown C_TooMany K)) : Df P w K mg base "_law_bound_right" ["past", "mine", "now"] 9 (spBR C_History K) := by
  refine F.df sc_law_bound_right (fun vs H Q E h => ?len) (fun f cdv A outer s H vs Q E hr h => ?body)
  case body =>
   have hu := hr.units
   refine ⟨_, (pss_cons (ps_for (passes_of rfl) rfl (pi_range1 (by rfl) B.b_range (pa_cons (pe_op op_sub pe_int (pv 2)) pa_nil)) (pg_name (i := 3) sc_law_bound_right.nd rfl (Or.inl rfl))
      (pss_one (ps_if (pt_cmpR (k_ne (K := K) rfl hu) (pe_dm (pv 0) Kl_History D_History_commit (hr.mono (by decide)) (fun σ => passAt (takes_of rfl rfl rfl rfl) σ) (pa_cons (pe_lst pa_nil) (pa_cons pe_str pa_nil))) (pe_op (k_add (K := K) rfl) (pe_op (k_add (K := K) rfl) (pv 2) (pv 3)) pe_int) (nomark _))
      (pss_one (ps_ret pe_bl))
      pss_nil)))
      (pss_cons (L2N.ps_try_as (i := 4) rfl rfl sc_law_bound_right.nd rfl rfl ⟨rfl, by decide, .inl X_TooMany.g⟩ (takes_N (takes_of rfl rfl rfl rfl)) (fun W pn xe tk po => (pss_one (ps_expr (pe_dmN (pv 0) Kl_History N_History_commit (hr.mono (by decide)) (fun σ => L2N.passAt tk σ) (pa_cons (pe_lst (pa_cons (pe_tup (pa_cons pe_str (pa_cons pe_str (pa_cons pe_str pa_nil)))) pa_nil)) (pa_cons pe_str pa_nil))))))
      (fun a oe cls d pn hz hf => (pss_cons (ps_if (PW.pt (pw_or (pt_cmpR (k_ne (K := K) rfl hu) (pe_xf X_TooMany.xf (X_TooMany.no _ (by decide)) (L2N.Zn.zc hz) hf (pv 4)) pe_str (nomark _)) (pw_or1 (pt_cmpR (k_ne (K := K) rfl hu) (pe_xf X_TooMany.xf (X_TooMany.no _ (by decide)) (L2N.Zn.zc hz) hf (pv 4)) pe_int (nomark _)))))
      (pss_one (ps_ret pe_bl))
      pss_nil)
      (pss_cons (ps_if (PW.pt (pw_or (pt_cmpR (k_ne (K := K) rfl hu) (pe_dmH0 (pv 0) Kl_History H_History_current ((roomS _ hr).mono (by decide)) (suiteHot hz hf)) pe_int (nomark _)) (pw_or (pt_cmpR (k_ne (K := K) rfl hu) (pe_dmH0 (pv 0) Kl_History H_History_count ((roomS _ hr).mono (by decide)) (suiteHot hz hf)) pe_int (nomark _)) (pw_or1 (pt_cmpR (k_ne (K := K) rfl hu) (pe_dmH0 (pv 0) Kl_History H_History_undo ((roomS _ hr).mono (by decide)) (suiteHot hz hf)) pe_int (nomark _))))))
      (pss_one (ps_ret pe_bl))
      pss_nil)
      (pss_one (ps_ret (pe_and (pe_cmpR (k_eq (K := K) rfl hu) (pe_dmH (pv 0) Kl_History H_History_commit ((roomS _ hr).mono (by decide)) (suiteHot hz hf) (pa_cons (pe_lst pa_nil) (pa_cons pe_str pa_nil))) pe_int (nomark _)) (pe_one (pe_cmpR (k_eq (K := K) rfl hu) (pe_dmH (pv 0) Kl_History H_History_label_at ((roomS _ hr).mono (by decide)) (suiteHot hz hf) (pa_cons pe_int pa_nil)) pe_str (nomark _))))))))))
      (pss_one (ps_ret pe_bl)))), ?_⟩
   obtain ⟨N, p, m, h, vl, now, rfl, hh, hN, g, hl3, n400, hq⟩ := h
   have lt := hh.lt
   obtain ⟨dx0, lh0, ll0, le0, xh0, xe0, e10, _⟩ := hh.ex
   walk_at "g"
   refine ⟨_, rfl, by omega, by omega, ?_⟩
   rw [show ((400 : Int) - (now : Int)).toNat = 400 - now by omega]
   refine for_rng (lo := 0) (n := 400 - now) (fun k σ Hk => ∃ (v3 v4 : Option V) (wl : List Ver), σ = [some (.ref p), some (.ref m), some (.int now), v3, v4] ∧ Kp p H Hk ∧ HiAt C_History K (fun z => N z ∨ H z = none) Hk p wl (now + k) ∧ Gv h wl) ?_ ?_ ?_
   · exact ⟨none, none, vl, rfl, fun _ _ _ e => e, hh.imp fun z n => .inl n, g⟩
   · rintro k σ Hk hk ⟨v3, v4, wl, rfl, kk, hk0, gk⟩
     obtain ⟨dx, lh, ll, le, xh, xe, e1, _⟩ := hk0.ex
     have ltk := hk0.lt
     have ek := List.getElem?_eq_getElem ltk
     walk_at "g"
     refine ⟨p, dx, _, rfl, e1, hfs_no (by decide +kernel), ?_⟩
     walk_at "g"
     intro l0 hl0
     have s0 := same_new (o := .lst []) hl0
     walk_at "g"
     have hNk : ∀ z, (N z ∨ H z = none) → z ≠ p := fun z n c => by
       rcases n with n | n
       · exact hN z n c
       · rw [c, e10] at n
         cases n
     have nnk : ∀ z, Hk z = none → H z = none := fun z e => by
       cases e9 : H z with
       | none => rfl
       | some o =>
         by_cases c : z = p
         · rw [c, e1] at e
           cases e
         · rw [kk z o c e9] at e
           cases e
     refine ⟨(fun z => N z ∨ H z = none), p, l0, _, wl, now + k, wl[now + k], [], [], rfl, hk0.mono s0, hNk, ek, gk.x.ch.1 _ (List.getElem_mem ltk), upd_same, .nil, ?_, Nat.zero_le _, fun _ => ?_, fun z => absurd (by omega) z⟩
     · intro e me
       cases me
     intro H5 k5 h5
     walk_at "g"
     rw [decide_eq_true (by omega)]
     walk_at "g"
     have gt : Gv h (wl.take (now + k) ++ [wl[now + k]]) := by
       rw [← take_more ek]
       exact gk.take (Nat.succ_pos _)
     have gn := Gv.grow (lb := "more") (es := []) hl3 gt (fun e me => by cases me) (Nat.zero_le _) (rfl : appAll (cpH wl[now + k].h) [] = .ok (cpH wl[now + k].h))
     rw [← take_more ek] at gn
     exact ⟨_, _, _, rfl, (kk.trans (Kp.of s0)).trans k5, h5.imp fun z n => n.elim id fun e => .inr (nnk z (s0.free e)), gn⟩
   · rintro σ Hk ⟨v3, v4, wl, rfl, kk, hk0, gk⟩
     rw [show now + (400 - now) = 400 by omega] at hk0
     obtain ⟨dx, lh, ll, le, xh, xe, e1, _⟩ := hk0.ex
     have ltk := hk0.lt
     have ek := List.getElem?_eq_getElem ltk
     have hNk : ∀ z, (N z ∨ H z = none) → z ≠ p := fun z n c => by
       rcases n with n | n
       · exact hN z n c
       · rw [c, e10] at n
         cases n
     walk_at "g"
     refine ⟨p, dx, _, rfl, e1, hfs_no (by decide +kernel), ?_⟩
     walk_at "g"
     intro t1 ht1
     have s1 := same_new (o := .tup [.str "drop", .str "x9", .str "x9"]) ht1
     walk_at "g"
     intro l1 hl1
     have s2 := same_new (o := .lst [.ref t1]) hl1
     walk_at "g"
     refine ⟨(fun z => N z ∨ H z = none), p, l1, _, wl, 400, wl[400], _, [.drop "x9" "x9"], rfl, hk0.mono (s1.trans s2), hNk, ek, gk.x.ch.1 _ (List.getElem_mem ltk), upd_same, .cons (.tup (.inl (.inl (s2 _ _ upd_same))) (.cons (.str _) (.cons (.str _) (.cons (.str _) .nil)))) .nil, ?_, by decide, fun z => absurd z (by omega), fun _ => ?_⟩
     · intro e me
       rw [List.mem_singleton.mp me]
       trivial
     intro d H3 s3 e3
     refine ⟨true, X_TooMany.te, fun _ b hb => ?_, fun z => by cases z⟩
     walk_at "g"
     refine ⟨_, rfl, rfl, rfl, d, _, .str "versions", rfl, e3, rfl, ?_⟩
     walk_at "g"
     try rw [decide_eq_true rfl]
     walk_at "g"
     refine ⟨_, rfl, rfl, rfl, d, _, .int 401, rfl, e3, rfl, ?_⟩
     walk_at "g"
     try rw [decide_eq_true rfl]
     walk_at "g"
     have sQ := (s1.trans s2).trans s3
     have hh3 := hk0.mono sQ
     have p3 := sQ _ _ e1
     have few := hk0.few
     refine ⟨p, dx, _, rfl, p3, hfs_no (by decide +kernel), ?_⟩
     walk_at "g"
     refine ⟨_, p, wl, 400, rfl, hh3, ?_⟩
     walk_at "g"
     rw [decide_eq_true (by omega)]
     walk_at "g"
     refine ⟨p, dx, _, rfl, p3, hfs_no (by decide +kernel), ?_⟩
     walk_at "g"
     refine ⟨_, p, wl, 400, rfl, hh3, ?_⟩
     walk_at "g"
     rw [decide_eq_true (by omega)]
     walk_at "g"
     refine ⟨p, dx, _, rfl, p3, hfs_no (by decide +kernel), ?_⟩
     walk_at "g"
     refine ⟨_, p, wl, 399, rfl, hh3, hNk, fun H4 k4 h4 => ?_⟩
     walk_at "g"
     rw [decide_eq_true (by omega)]
     walk_at "g"
     obtain ⟨dx4, _, _, _, _, _, e4, _⟩ := h4.ex
     have l399 : 399 < wl.length := by omega
     have e399 := List.getElem?_eq_getElem l399
     refine ⟨p, dx4, _, rfl, e4, hfs_no (by decide +kernel), ?_⟩
     walk_at "g"
     intro l5 hl5
     have s5 := same_new (o := .lst []) hl5
     walk_at "g"
     refine ⟨_, p, l5, _, wl, 399, wl[399], rfl, h4.mono s5, hNk, e399, gk.x.ch.1 _ (List.getElem_mem l399), upd_same, by decide, fun H6 k6 h6 => ?_⟩
     obtain ⟨dx6, _, _, _, _, _, e6, _⟩ := h6.ex
     walk_at "g"
     try rw [decide_eq_true (by omega)]
     walk_at "g"
     refine ⟨p, dx6, _, rfl, e6, hfs_no (by decide +kernel), ?_⟩
     walk_at "g"
     refine ⟨_, p, 400, _, 399 + 1, ⟨cpH (cpH wl[399].h), "again", []⟩, rfl, h6, ?_, ?_⟩
     · rw [List.getElem?_append_right (by rw [List.length_take]; omega), show 400 - (wl.take (399 + 1)).length = 0 by rw [List.length_take]; omega]
       rfl
     walk_at "g"
     try rw [decide_eq_true rfl]
     walk_at "g"
     exact hq _ (((kk.trans (Kp.of sQ)).trans k4).trans ((Kp.of s5).trans k6))
  case len =>
   obtain ⟨N, p, m, h, vl, now, rfl, _⟩ := h
   rfl

/-- what the two histories leave alone -/
abbrev Nz (Z : Addr → Prop) (U : List Addr) (H : Hp) : Addr → Prop := fun z => Z z ∧ z ∉ U ∧ H z ≠ none
theorem nz_keep {Z W : Addr → Prop} {U : List Addr} {H H' : Hp} (k : Keeps W H H') (hW : ∀ z, W z → z ∈ U ∨ ¬ Z z) : ∀ z, Nz Z U H z → Nz Z U H' z ∧ ¬ W z := fun z n => by
  have nw : ¬ W z := fun c => (hW z c).elim n.2.1 fun d => d n.1
  refine ⟨⟨n.1, n.2.1, fun c => ?_⟩, nw⟩
  cases e : H z with
  | none => exact n.2.2 e
  | some o =>
    rw [k z o nw e] at c
    cases c
/-- one history and its list -/
structure Sd (C : Addr) (K : PySem.W.Frag) (N : Addr → Prop) (H : Hp) (p m : Addr) (h : Hs) (vl : List Ver) (now b : Nat) : Prop where
  hi : HiAt C K N H p vl now
  g : Gv h vl
  hg : HG h
  le : now ≤ b
  nm : N m
  xm : ∃ xm, H m = some (.lst xm) ∧ Ts K H N xm (mT vl)
theorem Sd.keep {C p m : Addr} {N N' W : Addr → Prop} {H H' : Hp} {h : Hs} {vl : List Ver} {now b b' : Nat} (x : Sd C K N H p m h vl now b) (hb : b ≤ b') (k : Keeps W H H') (nt : ∀ a xs, W a → ¬ Rd H a (.tup xs)) (hN : ∀ a, N a → N' a ∧ ¬ W a) (hp : ¬ W p) : Sd C K N' H' p m h vl now b' := by
  obtain ⟨xm, e, t⟩ := x.xm
  exact ⟨x.hi.keep k nt hN hp, x.g, x.hg, Nat.le_trans x.le hb, (hN _ x.nm).1, xm, k _ _ (hN _ x.nm).2 e, t.keep k nt hN⟩
/-- the addresses that are written -/
abbrev U78 (a M W : Addr) (p : Bool → Addr) : List Addr := [a, p false, p true, M, W]
structure D78 (j a L M W : Addr) (p : Bool → Addr) : Prop where
  nd : (U78 a M W p).Nodup
  j : j ∉ U78 a M W p
  L : L ∉ U78 a M W p
theorem mem_p {a M W : Addr} {p : Bool → Addr} (c : Bool) : p c ∈ U78 a M W p := by cases c <;> simp [U78]
theorem D78.ap {j a L M W : Addr} {p : Bool → Addr} (D : D78 j a L M W p) : a ≠ p false ∧ a ≠ p true ∧ a ≠ M ∧ a ≠ W ∧ p false ≠ p true ∧ p false ≠ M ∧ p false ≠ W ∧ p true ≠ M ∧ p true ≠ W ∧ M ≠ W := by
  have h := D.nd
  simp only [U78, List.nodup_cons, List.mem_cons, List.not_mem_nil, or_false, not_or] at h
  exact ⟨h.1.1, h.1.2.1, h.1.2.2.1, h.1.2.2.2, h.2.1.1, h.2.1.2.1, h.2.1.2.2, h.2.2.1.1, h.2.2.1.2, h.2.2.2.1⟩
structure S78 (C : Addr) (K : PySem.W.Frag) (Z : Addr → Prop) (j a L M W : Addr) (p : Bool → Addr) (H : Hp) (pi : Int) (b : Nat) : Prop where
  R : Rnd H j a pi
  ls : H L = some (.lst [.ref (p false), .ref (p true)])
  ex : ∃ (m : Bool → Addr) (h : Bool → Hs) (vl : Bool → List Ver) (now : Bool → Nat), H M = some (.lst [.ref (m false), .ref (m true)]) ∧ H W = some (.lst [.int (now false), .int (now true)]) ∧ ∀ c, Sd C K (Nz Z (U78 a M W p) H) H (p c) (m c) (h c) (vl c) (now c) b
section
variable {C j a L M W : Addr} {p : Bool → Addr} {Z Z' W0 : Addr → Prop} {H H' : Hp} {pi pi' : Int} {b b' : Nat}
theorem S78.keep (x : S78 C K Z j a L M W p H pi b) (k : Keeps W0 H H') (nt : ∀ a xs, W0 a → ¬ Rd H a (.tup xs)) (hW : ∀ z, W0 z → ¬ Z z ∨ z = a) (R : Rnd H' j a pi') (hL : ¬ W0 L) (hM : ¬ W0 M) (hw : ¬ W0 W) (hp : ∀ c, ¬ W0 (p c)) : S78 C K Z j a L M W p H' pi' b := by
  obtain ⟨m, h, vl, now, e1, e2, s⟩ := x.ex
  refine ⟨R, k _ _ hL x.ls, m, h, vl, now, k _ _ hM e1, k _ _ hw e2, fun c => (s c).keep (Nat.le_refl _) k nt (nz_keep k fun z hz => ?_) (hp c)⟩
  exact (hW z hz).symm.imp (fun e => by rw [e]; exact List.mem_cons_self) id
theorem S78.same (x : S78 C K Z j a L M W p H pi b) (s : Same H H') : S78 C K Z j a L M W p H' pi b := x.keep (W0 := ff) (.of_same s) (fun _ _ z => z.elim) (fun _ z => z.elim) (x.R.same s) (fun z => z) (fun z => z) (fun z => z) fun _ z => z
theorem S78.draw (x : S78 C K Z j a L M W p H pi b) (D : D78 j a L M W p) (h : pi ≤ pi') : S78 C K Z j a L M W p (upd H a (.lst [.int pi'])) pi' b := by
  have d := D.ap
  exact x.keep keeps_upd (nt_of x.R.at_ (fun _ z => nomatch z) fun _ _ z => nomatch z) (fun z e => .inr e) (x.R.set (Int.le_trans x.R.p0 h)) (fun e => D.L (by rw [e]; exact List.mem_cons_self)) d.2.2.1.symm d.2.2.2.1.symm fun c => by
    cases c
    · exact d.1.symm
    · exact d.2.1.symm
theorem S78.imp (x : S78 C K Z j a L M W p H pi b) (i : ∀ z, Z z → Z' z) : S78 C K Z' j a L M W p H pi b := by
  obtain ⟨m, h, vl, now, e1, e2, s⟩ := x.ex
  exact ⟨x.R, x.ls, m, h, vl, now, e1, e2, fun c => (s c).keep (Nat.le_refl _) (W := ff) (.of_same (Same.refl H)) (fun _ _ z => z.elim) (fun z n => ⟨⟨i z n.1, n.2.1, n.2.2⟩, fun z => z⟩) fun z => z⟩
/-- behind a step at one side -/
theorem S78.step {c : Bool} {m : Bool → Addr} {h : Bool → Hs} {vl : Bool → List Ver} {now : Bool → Nat} {m' : Addr} {vl' : List Ver} {now' : Nat} {xm' : List V} (x : S78 C K (fun _ => True) j a L M W p H pi b) (D : D78 j a L M W p) (e1 : H M = some (.lst [.ref (m false), .ref (m true)])) (e2 : H W = some (.lst [.int (now false), .int (now true)])) (s : ∀ c, Sd C K (Nz (fun _ => True) (U78 a M W p) H) H (p c) (m c) (h c) (vl c) (now c) b)
    (k : Keeps (fun z => z = a ∨ z = p c) H H') (R : Rnd H' j a pi') (hi : HiAt C K (fun z => Nz (fun _ => True) (U78 a M W p) H z ∨ H z = none) H' (p c) vl' now') (gv : Gv (h c) vl') (le : now' ≤ now c + 1) (hm : H' m' = some (.lst xm')) (ts : Ts K H' (fun z => (Nz (fun _ => True) (U78 a M W p) H z ∨ H z = none) ∧ H' z ≠ none) xm' (mT vl')) (em : m' = m c ∨ H m' = none) (pl : ∃ dx fs, H (p c) = some (.ins C dx fs)) :
    S78 C K (fun _ => True) j a L M W p (upd (upd H' M (.lst [.ref (if c = false then m' else m false), .ref (if c = true then m' else m true)])) W (.lst [.int ((if c = false then now' else now false : Nat) : Int), .int ((if c = true then now' else now true : Nat) : Int)])) pi' (b + 1) ∧ Sd C K (Nz (fun _ => True) (U78 a M W p) (upd (upd H' M (.lst [.ref (if c = false then m' else m false), .ref (if c = true then m' else m true)])) W (.lst [.int ((if c = false then now' else now false : Nat) : Int), .int ((if c = true then now' else now true : Nat) : Int)]))) (upd (upd H' M (.lst [.ref (if c = false then m' else m false), .ref (if c = true then m' else m true)])) W (.lst [.int ((if c = false then now' else now false : Nat) : Int), .int ((if c = true then now' else now true : Nat) : Int)])) (p c) m' (h c) vl' now' (b + 1) := by
  have d := D.ap
  have nt : ∀ z xs, (z = a ∨ z = p c) → ¬ Rd H z (.tup xs) := fun z xs q => by
    obtain ⟨dx, fs, pl⟩ := pl
    rcases q with q | q
    · exact nt_of x.R.at_ (fun _ z => nomatch z) (fun _ _ z => nomatch z) z xs q
    · exact nt_of pl (fun _ z => nomatch z) (fun _ _ z => nomatch z) z xs q
  have wU : ∀ z, (z = a ∨ z = p c) → z ∈ U78 a M W p ∨ ¬ True := fun z q => .inl (by
    rcases q with q | q
    · rw [q]; exact List.mem_cons_self
    · rw [q]; exact mem_p c)
  have Mne : M ≠ a ∧ M ≠ p c := ⟨d.2.2.1.symm, by cases c; (exact d.2.2.2.2.2.1.symm); (exact d.2.2.2.2.2.2.2.1.symm)⟩
  have Wne : W ≠ a ∧ W ≠ p c := ⟨d.2.2.2.1.symm, by cases c; (exact d.2.2.2.2.2.2.1.symm); (exact d.2.2.2.2.2.2.2.2.1.symm)⟩
  have Lne : L ≠ a ∧ L ≠ p c := ⟨fun e => D.L (by rw [e]; exact List.mem_cons_self), fun e => D.L (by rw [e]; exact mem_p c)⟩
  have LM : L ≠ M := fun e => D.L (by rw [e]; simp [U78])
  have LW : L ≠ W := fun e => D.L (by rw [e]; simp [U78])
  have eM := k _ _ (fun q => q.elim Mne.1 Mne.2) e1
  have eW := k _ _ (fun q => q.elim Wne.1 Wne.2) e2
  have eL := k _ _ (fun q => q.elim Lne.1 Lne.2) x.ls
  have fr : ∀ z, (Nz (fun _ => True) (U78 a M W p) H z ∨ H z = none) → z ∉ U78 a M W p := fun z q => by
    rcases q with q | q
    · exact q.2.1
    · intro mz
      simp only [U78, List.mem_cons, List.not_mem_nil, or_false] at mz
      rcases mz with e | e | e | e | e
      · rw [e, x.R.at_] at q; cases q
      · obtain ⟨dx, _, _, _, _, _, w, _⟩ := (s false).hi.ex
        rw [e, w] at q; cases q
      · obtain ⟨dx, _, _, _, _, _, w, _⟩ := (s true).hi.ex
        rw [e, w] at q; cases q
      · rw [e, e1] at q; cases q
      · rw [e, e2] at q; cases q
  have new : Sd C K (Nz (fun _ => True) (U78 a M W p) H') H' (p c) m' (h c) vl' now' (b + 1) := by
    refine ⟨(hi.live fun v mv => (gv.gd v mv).wf).imp fun z q => ⟨trivial, fr z q.1, q.2⟩, gv, (s c).hg, by have := (s c).le; omega, ⟨trivial, ?_, by rw [hm]; exact fun z => nomatch z⟩, xm', hm, ts.imp fun z q => ⟨trivial, fr z q.1, q.2⟩⟩
    rcases em with e | e
    · rw [e]; exact (s c).nm.2.1
    · exact fr _ (.inr e)
  have old : ∀ d, d ≠ c → Sd C K (Nz (fun _ => True) (U78 a M W p) H') H' (p d) (m d) (h d) (vl d) (now d) (b + 1) := fun d' hd => (s d').keep (Nat.le_succ _) k nt (nz_keep k wU) fun q => by
    rcases q with q | q
    · cases d'
      · exact d.1 q.symm
      · exact d.2.1 q.symm
    · cases d' <;> cases c
      · exact hd rfl
      · exact d.2.2.2.2.1 q
      · exact d.2.2.2.2.1 q.symm
      · exact hd rfl
  have two : ∀ {H1 : Hp} {q : Addr} {o o' : HO}, q ∈ U78 a M W p → H1 q = some o → (∀ xs, o ≠ .tup xs) → (∀ u v, o ≠ .frz u v) → (∀ c, q ≠ p c) → ∀ {p' m0 : Addr} {h0 : Hs} {vl0 : List Ver} {now0 : Nat}, (∃ c, p' = p c) → Sd C K (Nz (fun _ => True) (U78 a M W p) H1) H1 p' m0 h0 vl0 now0 (b + 1) → Sd C K (Nz (fun _ => True) (U78 a M W p) (upd H1 q o')) (upd H1 q o') p' m0 h0 vl0 now0 (b + 1) := fun {H1 q o o'} mq e n1 n2 hq {p' m0 h0 vl0 now0} hp0 y => by
    obtain ⟨c', rfl⟩ := hp0
    exact y.keep (Nat.le_refl _) (keeps_upd (p := q) (o := o')) (nt_of e n1 n2) (nz_keep keeps_upd fun z e => .inl (by rw [e]; exact mq)) fun e => hq c' e.symm
  have eW' : (upd H' M (.lst [.ref (if c = false then m' else m false), .ref (if c = true then m' else m true)])) W = _ := (upd_ne d.2.2.2.2.2.2.2.2.2.symm).trans eW
  have all : ∀ d, Sd C K (Nz (fun _ => True) (U78 a M W p) H') H' (p d) (if d = c then m' else m d) (h d) (if d = c then vl' else vl d) (if d = c then now' else now d) (b + 1) := fun d => by
    by_cases e : d = c
    · subst e
      rw [if_pos rfl, if_pos rfl, if_pos rfl]
      exact new
    · rw [if_neg e, if_neg e, if_neg e]
      exact old d e
  have R2 := (R.upd eM (o' := .lst [.ref (if c = false then m' else m false), .ref (if c = true then m' else m true)]) (fun e => D.j (by rw [← e]; simp [U78])) Mne.1).upd eW' (o' := .lst [.int ((if c = false then now' else now false : Nat) : Int), .int ((if c = true then now' else now true : Nat) : Int)]) (fun e => D.j (by rw [← e]; simp [U78])) Wne.1
  have fin : ∀ d', Sd C K (Nz (fun _ => True) (U78 a M W p) (upd (upd H' M (.lst [.ref (if c = false then m' else m false), .ref (if c = true then m' else m true)])) W (.lst [.int ((if c = false then now' else now false : Nat) : Int), .int ((if c = true then now' else now true : Nat) : Int)]))) (upd (upd H' M (.lst [.ref (if c = false then m' else m false), .ref (if c = true then m' else m true)])) W (.lst [.int ((if c = false then now' else now false : Nat) : Int), .int ((if c = true then now' else now true : Nat) : Int)])) (p d') (if d' = c then m' else m d') (h d') (if d' = c then vl' else vl d') (if d' = c then now' else now d') (b + 1) := fun d' => by
    refine two (by simp [U78]) eW' (fun _ z => nomatch z) (fun _ _ z => nomatch z) (fun c => ?_) ⟨d', rfl⟩ (two (by simp [U78]) eM (fun _ z => nomatch z) (fun _ _ z => nomatch z) (fun c => ?_) ⟨d', rfl⟩ (all d'))
    · cases c; (exact d.2.2.2.2.2.2.1.symm); (exact d.2.2.2.2.2.2.2.2.1.symm)
    · cases c; (exact d.2.2.2.2.2.1.symm); (exact d.2.2.2.2.2.2.2.1.symm)
  refine ⟨⟨R2, by rw [upd_ne LW, upd_ne LM]; exact eL, fun d => if d = c then m' else m d, h, fun d => if d = c then vl' else vl d, fun d => if d = c then now' else now d, ?_, ?_, fin⟩, ?_⟩
  · rw [upd_ne d.2.2.2.2.2.2.2.2.2, upd_same]
    cases c <;> rfl
  · rw [upd_same]
    cases c <;> rfl
  · have z := fin c
    rw [if_pos rfl, if_pos rfl, if_pos rfl] at z
    exact z
end

abbrev ix78 (c : Bool) : Int := ((if c = true then 1 else 0 : Nat) : Int)
theorem at78 {f : Bool → V} (c : Bool) : atI [f false, f true] (ix78 c) = some (f c) := by cases c <;> rfl
theorem ixn78 {f : Bool → V} (c : Bool) : ixN [f false, f true].length (ix78 c) = some (if c = true then 1 else 0) := by cases c <;> rfl
theorem set78r {f : Bool → Addr} {v : Addr} (c : Bool) : [V.ref (f false), V.ref (f true)].set (if c = true then 1 else 0) (.ref v) = [.ref (if c = false then v else f false), .ref (if c = true then v else f true)] := by cases c <;> rfl
theorem set78i {f : Bool → Nat} {v : Nat} (c : Bool) : [V.int (f false), V.int (f true)].set (if c = true then 1 else 0) (.int v) = [.int (if c = false then v else f false : Nat), .int (if c = true then v else f true : Nat)] := by cases c <;> rfl
-- law: 0 script, 1 jar, 2 at, 3 first, 4 second, 5 pasts, 6 mines, 7 nows, 8 house, 9 key, 10 k, 11 which, 12 mine, 13 now, 14 good
theorem sc_law : FnScope ["script", "jar", "at", "first", "second", "pasts", "mines", "nows", "house", "key", "k", "which", "mine", "now", "good"] ["script"] (defScope s_law) := ⟨rfl, rfl, rfl, by decide +kernel, rfl, by decide +kernel, by decide +kernel⟩
theorem d_law (B : Bt mg) (F : TopF K mg "law" s_law ["script"]) (Kl_History : Kl K mg "History" C_History ["houses", "labels", "lists", "now"]) (D_law_draw : Df P w K mg base "_law_draw" ["jar", "at", "many"] 1 (spDraw)) (D_law_bound_right : Df P w K mg base "_law_bound_right" ["past", "mine", "now"] 9 (spBR C_History K)) (D_law_looks_right : Df P w K mg base "_law_looks_right" ["past", "mine", "now"] 9 (spLK C_History K)) (D_law_step : Df P w K mg base "_law_step" ["jar", "at", "past", "mine", "now"] 9 (spSt C_History K)) (D_law_copy : Df P w K mg base "_law_copy" ["house"] 1 (spCH K)) (D_History___init : Dm P w K mg base C_History "__init__" ["self", "house"] 2 (spHI C_History K)) (D_law_house : Df P w K mg base "_law_house" ["jar", "at"] 3 (spHouse K)) (D_law_jar : Df P w K mg base "_law_jar" ["script"] 1 (spJar K)) : ∃ fa, mg "law" = some (.ref fa) ∧ TopOk P w K mg base fa (spLaw K) := by
  refine top_ok (k := 9) F sc_law ⟨rfl, by decide, by decide⟩ (fun f cdv A s H vs Q E hg hr h => ?body)
  case body =>
   have hu := hr.units
   have hgd : (A.deeper (envOfC "law" (defScope s_law) s.heap.objs.size f cdv)).guards = some [] := hg
   refine ⟨_, (pss_cons (ps_set (i := 1) sc_law.nd rfl (Or.inl rfl) (pe_df D_law_jar (hr.mono (by decide)) (fun σ => passAt (takes_of rfl rfl rfl rfl) σ) (pa_cons (pv 0) pa_nil)))
      (pss_cons (ps_set (i := 2) sc_law.nd rfl (Or.inl rfl) (pe_lst (pa_cons pe_int pa_nil)))
      (pss_cons (ps_set (i := 3) sc_law.nd rfl (Or.inl rfl) (pe_df D_law_house (hr.mono (by decide)) (fun σ => passAt (takes_of rfl rfl rfl rfl) σ) (pa_cons (pv 1) (pa_cons (pv 2) pa_nil))))
      (pss_cons (ps_set (i := 4) sc_law.nd rfl (Or.inl rfl) (pe_df D_law_house (hr.mono (by decide)) (fun σ => passAt (takes_of rfl rfl rfl rfl) σ) (pa_cons (pv 1) (pa_cons (pv 2) pa_nil))))
      (pss_cons (ps_set (i := 5) sc_law.nd rfl (Or.inl rfl) (pe_lst (pa_cons (pe_mkC Kl_History D_History___init (hr.mono (by decide)) (pa_cons (pv 3) pa_nil)) (pa_cons (pe_mkC Kl_History D_History___init (hr.mono (by decide)) (pa_cons (pv 4) pa_nil)) pa_nil))))
      (pss_cons (ps_set (i := 6) sc_law.nd rfl (Or.inl rfl) (pe_lst (pa_cons (pe_lst (pa_cons (pe_tup (pa_cons (pe_df D_law_copy (hr.mono (by decide)) (fun σ => passAt (takes_of rfl rfl rfl rfl) σ) (pa_cons (pv 3) pa_nil)) (pa_cons pe_str (pa_cons (pe_lst pa_nil) pa_nil)))) pa_nil)) (pa_cons (pe_lst (pa_cons (pe_tup (pa_cons (pe_df D_law_copy (hr.mono (by decide)) (fun σ => passAt (takes_of rfl rfl rfl rfl) σ) (pa_cons (pv 4) pa_nil)) (pa_cons pe_str (pa_cons (pe_lst pa_nil) pa_nil)))) pa_nil)) pa_nil))))
      (pss_cons (ps_set (i := 7) sc_law.nd rfl (Or.inl rfl) (pe_lst (pa_cons pe_int (pa_cons pe_int pa_nil))))
      (pss_cons (ps_lockU (ps_for (passes_of rfl) rfl (k_walk (K := K) rfl (pe_lst (pa_cons (pv 3) (pa_cons (pv 4) pa_nil)))) (pg_name (i := 8) sc_law.nd rfl (Or.inl rfl))
      (pss_one (ps_for (passes_of rfl) rfl (k_walk (K := K) rfl (pe_callTy (k_list (K := K) rfl rfl) (by rfl) B.b_list (by decide +kernel) (pa_cons (pv 8) pa_nil))) (pg_name (i := 9) sc_law.nd rfl (Or.inl rfl))
      (pss_one (ps_asg pe_int (pg_sub (pe_ix (k_ix (K := K) rfl hu) (pv 8) (pv 9) (fun _ _ => rfl)) pe_str (set_any hu))))))))
      (pss_cons (ps_for (passes_of rfl) rfl (pi_range1 (by rfl) B.b_range (pa_cons (pe_df D_law_draw (hr.mono (by decide)) (fun σ => passAt (takes_of rfl rfl rfl rfl) σ) (pa_cons (pv 1) (pa_cons (pv 2) (pa_cons pe_int pa_nil)))) pa_nil)) (pg_name (i := 10) sc_law.nd rfl (Or.inl rfl))
      (pss_cons (ps_set (i := 11) sc_law.nd rfl (Or.inl rfl) (pe_df D_law_draw (hr.mono (by decide)) (fun σ => passAt (takes_of rfl rfl rfl rfl) σ) (pa_cons (pv 1) (pa_cons (pv 2) (pa_cons pe_int pa_nil)))))
      (pss_cons (ps_asg (pe_df D_law_step (hr.mono (by decide)) (fun σ => passAt (takes_of rfl rfl rfl rfl) σ) (pa_cons (pv 1) (pa_cons (pv 2) (pa_cons (pe_ix (k_ix (K := K) rfl hu) (pv 5) (pv 11) (fun _ _ => rfl)) (pa_cons (pe_ix (k_ix (K := K) rfl hu) (pv 6) (pv 11) (fun _ _ => rfl)) (pa_cons (pe_ix (k_ix (K := K) rfl hu) (pv 7) (pv 11) (fun _ _ => rfl)) pa_nil)))))) (k_tup (K := K) rfl (by rfl) (pgs_cons (pg_name (i := 12) sc_law.nd rfl (Or.inl rfl)) (pgs_cons (pg_name (i := 13) sc_law.nd rfl (Or.inl rfl)) (pgs_cons (pg_name (i := 14) sc_law.nd rfl (Or.inl rfl)) pgs_nil)))))
      (pss_cons (ps_asg (pv 12) (pg_sub (pv 6) (pv 11) (set_any hu)))
      (pss_cons (ps_asg (pv 13) (pg_sub (pv 7) (pv 11) (set_any hu)))
      (pss_one (ps_if (PW.pt (pw_or (pt_cmpR op_notBl (pv 14) pe_bl (nomark _)) (pw_or1 (pt_not (k_tr (K := K) rfl (pe_df D_law_looks_right (hr.mono (by decide)) (fun σ => passAt (takes_of rfl rfl rfl rfl) σ) (pa_cons (pe_ix (k_ix (K := K) rfl hu) (pv 5) (pv 11) (fun _ _ => rfl)) (pa_cons (pv 12) (pa_cons (pv 13) pa_nil)))))))))
      (pss_one (ps_ret pe_bl))
      pss_nil)))))))
      (pss_cons (ps_for (passes_of rfl) rfl (pi_range1 (by rfl) B.b_range (pa_cons pe_int pa_nil)) (pg_name (i := 11) sc_law.nd rfl (Or.inl rfl))
      (pss_one (ps_if (pt_not (k_tr (K := K) rfl (pe_df D_law_looks_right (hr.mono (by decide)) (fun σ => passAt (takes_of rfl rfl rfl rfl) σ) (pa_cons (pe_ix (k_ix (K := K) rfl hu) (pv 5) (pv 11) (fun _ _ => rfl)) (pa_cons (pe_ix (k_ix (K := K) rfl hu) (pv 6) (pv 11) (fun _ _ => rfl)) (pa_cons (pe_ix (k_ix (K := K) rfl hu) (pv 7) (pv 11) (fun _ _ => rfl)) pa_nil))))))
      (pss_one (ps_ret pe_bl))
      pss_nil)))
      (pss_cons (ps_if (pt_cmpR (k_eq (K := K) rfl hu) (pe_df D_law_draw (hr.mono (by decide)) (fun σ => passAt (takes_of rfl rfl rfl rfl) σ) (pa_cons (pv 1) (pa_cons (pv 2) (pa_cons pe_int pa_nil)))) pe_int (nomark _))
      (pss_one (ps_ret (pe_df D_law_bound_right (hr.mono (by decide)) (fun σ => passAt (takes_of rfl rfl rfl rfl) σ) (pa_cons (pe_ix (k_ix (K := K) rfl hu) (pv 5) pe_int (fun _ _ => rfl)) (pa_cons (pe_ix (k_ix (K := K) rfl hu) (pv 6) pe_int (fun _ _ => rfl)) (pa_cons (pe_ix (k_ix (K := K) rfl hu) (pv 7) pe_int (fun _ _ => rfl)) pa_nil))))))
      pss_nil)
      (pss_one (ps_ret pe_bl))))))))))))), ?_⟩
   obtain ⟨a0, ns, rfl, hns, hlen, hq⟩ := h
   walk_at "g"
   refine ⟨a0, ns, rfl, hns, hlen, fun j H1 ms s1 hj0 hj ml mb => ?_⟩
   walk_at "g"
   intro a ha
   have hja : j ≠ a := ne_of_none hj ha
   have s2 := same_new (o := .lst [.int 0]) ha
   have R0 : Rnd (upd H1 a (.lst [.int 0])) j a 0 := ⟨⟨ms, s2 _ _ hj, ml, mb⟩, upd_same, hja, Int.le_refl _⟩
   generalize upd H1 a (.lst [.int 0]) = H2 at R0
   clear s1 s2
   walk_at "g"
   refine ⟨j, a, 0, rfl, R0, by decide, fun r1 h1 H3 p3 k3 R3 p30 p31 hr1 o1 hG1 => ?_⟩
   walk_at "g"
   refine ⟨j, a, p3, rfl, R3, Int.le_trans (Int.add_le_add_right p31 200) (by decide), fun r2 h2 H4 p4 k4 R4 p40 p41 hr2 o2 hG2 => ?_⟩
   have na1 : ∀ b, (H2 b = none ∧ H3 b ≠ none) → b ≠ a := fun b n c => by
     rw [c, R0.at_] at n
     cases n.1
   have q1 := o1.live.kp k4 R3.at_ na1
   have q2 := o2.live
   have lv1 : ∀ b, (H2 b = none ∧ H3 b ≠ none) → H4 b ≠ none := fun b n c => by
     cases e : H3 b with
     | none => exact n.2 e
     | some o =>
       rw [k4 b o (na1 b n) e] at c
       cases c
   have l1 := hG1.len
   have l2 := hG2.len
   have f1 : Fits 60 h1 := fun q hq => Nat.le_trans (hG1.fit q hq) (by decide)
   have f2 : Fits 60 h2 := fun q hq => Nat.le_trans (hG2.fit q hq) (by decide)
   walk_at "g"
   intro P0 dx0 hP0 hdx0 hne0
   have s0 : Same H4 (upd (upd H4 dx0 (.own P0)) P0 (.ins C_History dx0 [])) := (same_new hdx0).trans (same_new (by rw [upd_ne (Ne.symm hne0)]; exact hP0))
   refine ⟨_, P0, dx0, r1, h1, rfl, upd_same, q1.T.mono s0, fun z n e => lv1 z n (by rw [e]; exact hP0), hG1.wf, f1, by omega, fun H5 k5 hi5 => ⟨rfl, ?_⟩⟩
   have s5 : Same H4 H5 := fun z u e => k5 _ _ (ne_of_none e hP0) (s0 _ _ e)
   have i0 := (hi5.live fun v m => by
     rw [List.mem_singleton.mp m]
     exact hG1.wf.cp).imp (N' := fun z => (H4 z = none ∧ z ≠ P0) ∧ H5 z ≠ none) fun z e => ⟨⟨s0.free e.1, fun c => by
       have e1 := e.1
       rw [c, upd_same] at e1
       cases e1⟩, e.2⟩
   obtain ⟨u0, fs0, ep0⟩ : ∃ d fs, H5 P0 = some (.ins C_History d fs) := by
     obtain ⟨dx, lh, ll, le, xh, xe, e1, _⟩ := hi5.ex
     exact ⟨_, _, e1⟩
   clear hi5 k5
   walk_at "g"
   intro P1 dx1 hP1 hdx1 hne1
   have t0 : Same H5 (upd (upd H5 dx1 (.own P1)) P1 (.ins C_History dx1 [])) := (same_new hdx1).trans (same_new (by rw [upd_ne (Ne.symm hne1)]; exact hP1))
   refine ⟨_, P1, dx1, r2, h2, rfl, upd_same, q2.T.mono (s5.trans t0), fun z n e => n.2 (by rw [e]; exact s5.free hP1), hG2.wf, f2, by omega, fun H6 k6 hi6 => ⟨rfl, ?_⟩⟩
   have s6 : Same H5 H6 := fun z u e => k6 _ _ (ne_of_none e hP1) (t0 _ _ e)
   have i1 := (hi6.live fun v m => by
     rw [List.mem_singleton.mp m]
     exact hG2.wf.cp).imp (N' := fun z => (H5 z = none ∧ z ≠ P1) ∧ H6 z ≠ none) fun z e => ⟨⟨t0.free e.1, fun c => by
       have e1 := e.1
       rw [c, upd_same] at e1
       cases e1⟩, e.2⟩
   obtain ⟨u1, fs1, ep1⟩ : ∃ d fs, H6 P1 = some (.ins C_History d fs) := by
     obtain ⟨dx, lh, ll, le, xh, xe, e1, _⟩ := hi6.ex
     exact ⟨_, _, e1⟩
   clear hi6 k6
   walk_at "g"
   intro L hL
   have sL := same_new (o := .lst [.ref P0, .ref P1]) hL
   have eL : (upd H6 L (.lst [.ref P0, .ref P1])) L = _ := upd_same
   generalize upd H6 L (.lst [.ref P0, .ref P1]) = H7 at sL eL
   have s47 : Same H4 H7 := (s5.trans s6).trans sL
   walk_at "g"
   refine ⟨_, r1, h1, rfl, q1.T.mono s47, hG1.wf, f1, by omega, fun c0 H8 s8 oc0 => ?_⟩
   walk_at "g"
   intro x0 hx0
   have sx0 := same_new (o := .lst []) hx0
   have ex0 : (upd H8 x0 (.lst [])) x0 = _ := upd_same
   generalize upd H8 x0 (.lst []) = H9 at sx0 ex0
   walk_at "g"
   intro t1 ht1
   have st1 := same_new (o := .tup [.ref c0, .str "", .ref x0]) ht1
   have et1 : (upd H9 t1 (.tup [.ref c0, .str "", .ref x0])) t1 = _ := upd_same
   generalize upd H9 t1 (.tup [.ref c0, .str "", .ref x0]) = H10 at st1 et1
   walk_at "g"
   intro m0 hm0
   have sm0 := same_new (o := .lst [.ref t1]) hm0
   have em0 : (upd H10 m0 (.lst [.ref t1])) m0 = _ := upd_same
   generalize upd H10 m0 (.lst [.ref t1]) = H11 at sm0 em0
   have s811 := (sx0.trans st1).trans sm0
   have s411 := (s47.trans s8).trans s811
   walk_at "g"
   refine ⟨_, r2, h2, rfl, q2.T.mono s411, hG2.wf, f2, by omega, fun c1 H12 s12 oc1 => ?_⟩
   walk_at "g"
   intro x1 hx1
   have sx1 := same_new (o := .lst []) hx1
   have ex1 : (upd H12 x1 (.lst [])) x1 = _ := upd_same
   generalize upd H12 x1 (.lst []) = H13 at sx1 ex1
   walk_at "g"
   intro t2 ht2
   have st2 := same_new (o := .tup [.ref c1, .str "", .ref x1]) ht2
   have et2 : (upd H13 t2 (.tup [.ref c1, .str "", .ref x1])) t2 = _ := upd_same
   generalize upd H13 t2 (.tup [.ref c1, .str "", .ref x1]) = H14 at st2 et2
   walk_at "g"
   intro m1 hm1
   have sm1 := same_new (o := .lst [.ref t2]) hm1
   have em1 : (upd H14 m1 (.lst [.ref t2])) m1 = _ := upd_same
   generalize upd H14 m1 (.lst [.ref t2]) = H15 at sm1 em1
   have s1215 := (sx1.trans st2).trans sm1
   walk_at "g"
   intro M hM
   have sM := same_new (o := .lst [.ref m0, .ref m1]) hM
   have eM : (upd H15 M (.lst [.ref m0, .ref m1])) M = _ := upd_same
   generalize upd H15 M (.lst [.ref m0, .ref m1]) = H16 at sM eM
   walk_at "g"
   intro W hW
   have sW := same_new (o := .lst [.int 0, .int 0]) hW
   have eW : (upd H16 W (.lst [.int 0, .int 0])) W = _ := upd_same
   generalize upd H16 W (.lst [.int 0, .int 0]) = H17 at sW eW
   have s1117 := ((s12.trans s1215).trans sM).trans sW
   have s415 := (s411.trans s12).trans s1215
   have s615 : Same H6 H15 := (((sL.trans s8).trans s811).trans s12).trans s1215
   have s715 : Same H7 H15 := ((s8.trans s811).trans s12).trans s1215
   have lv : ∀ {Hx Hy : Hp} {z : Addr}, Same Hx Hy → Hx z ≠ none → Hy z ≠ none := fun {Hx Hy z} s n c => n (s.free c)
   have tN : ∀ z, (H4 z = none ∧ z ≠ P0 ∧ z ≠ P1 ∧ H15 z ≠ none) → Nz (fun z => H4 z = none) (U78 a M W (fun c => cond c P1 P0)) H17 z := fun z n => by
     refine ⟨n.1, fun m => ?_, lv (sM.trans sW) n.2.2.2⟩
     simp only [U78, cond, List.mem_cons, List.not_mem_nil, or_false] at m
     rcases m with e | e | e | e | e
     · have n1 := n.1
       rw [e, R4.at_] at n1
       cases n1
     · exact n.2.1 e
     · exact n.2.2.1 e
     · exact n.2.2.2 (by rw [e]; exact hM)
     · exact n.2.2.2 (by rw [e]; exact sM.free hW)
   have P0n : H4 P0 = none := hP0
   have P1n : H4 P1 = none := s5.free hP1
   have Ln : H4 L = none := (s5.trans s6).free hL
   have Mn : H4 M = none := s415.free hM
   have Wn : H4 W = none := (s415.trans sM).free hW
   obtain ⟨nsj, ej, _⟩ := R4.ex
   have D : D78 j a L M W (fun c => cond c P1 P0) := by
     have n1 : a ≠ P0 := ne_of_none R4.at_ P0n
     have n2 : a ≠ P1 := ne_of_none R4.at_ P1n
     have n3 : a ≠ M := ne_of_none R4.at_ Mn
     have n4 : a ≠ W := ne_of_none R4.at_ Wn
     have n5 : P0 ≠ P1 := ne_of_none ep0 hP1
     have n6 : P0 ≠ M := ne_of_none (s615 _ _ (s6 _ _ ep0)) hM
     have n7 : P0 ≠ W := ne_of_none ((s615.trans sM) _ _ (s6 _ _ ep0)) hW
     have n8 : P1 ≠ M := ne_of_none (s615 _ _ ep1) hM
     have n9 : P1 ≠ W := ne_of_none ((s615.trans sM) _ _ ep1) hW
     have n10 : M ≠ W := ne_of_none eM hW
     have j1 : j ≠ P0 := ne_of_none ej P0n
     have j2 : j ≠ P1 := ne_of_none ej P1n
     have j3 : j ≠ M := ne_of_none ej Mn
     have j4 : j ≠ W := ne_of_none ej Wn
     have L0 : L ≠ a := (ne_of_none R4.at_ Ln).symm
     have L1 : L ≠ P0 := (ne_of_none (s6 _ _ ep0) hL).symm
     have L2 : L ≠ P1 := (ne_of_none ep1 hL).symm
     have L3 : L ≠ M := ne_of_none (s715 _ _ eL) hM
     have L4 : L ≠ W := ne_of_none ((s715.trans sM) _ _ eL) hW
     refine ⟨?_, ?_, ?_⟩
     · simp only [U78, cond, List.nodup_cons, List.mem_cons, List.not_mem_nil, or_false, not_or, not_false_eq_true, and_true, List.nodup_nil]
       exact ⟨⟨n1, n2, n3, n4⟩, ⟨n5, n6, n7⟩, ⟨n8, n9⟩, n10⟩
     · simp only [U78, cond, List.mem_cons, List.not_mem_nil, or_false, not_or]
       exact ⟨hja, j1, j2, j3, j4⟩
     · simp only [U78, cond, List.mem_cons, List.not_mem_nil, or_false, not_or]
       exact ⟨L0, L1, L2, L3, L4⟩
   have gv1 : ∀ {h : Hs}, HG h → h.length ≤ 3 → Gv h [⟨cpH h, "", []⟩] := fun {h} hG hl => ⟨⟨⟨fun v m => by
       rw [List.mem_singleton.mp m]
       exact vok_of hl hG.gd (fun _ m => nomatch m) (by decide), fun i u v e1 e2 => by simp at e2⟩, fun v m => by
       rw [List.mem_singleton.mp m]
       exact hG.gd.cp⟩, fun v m => by
       rw [List.mem_singleton.mp m]
       exact hG.gd, fun v m => by
       rw [List.mem_singleton.mp m]
       exact (by decide : 0 ≤ 3), ⟨[], rfl⟩, fun v m => by
       rw [List.mem_singleton.mp m]
       exact fun _ z => nomatch z⟩
   have X0 : S78 C_History K (fun z => H4 z = none) j a L M W (fun c => cond c P1 P0) H17 p4 0 := by
     refine ⟨R4.same ((s415.trans sM).trans sW), ((s715.trans sM).trans sW) _ _ eL, fun c => cond c m1 m0, fun c => cond c h2 h1, fun c => cond c [⟨cpH h2, "", []⟩] [⟨cpH h1, "", []⟩], fun _ => 0, sW _ _ eM, eW, fun c => ?_⟩
     have s617 := (s615.trans sM).trans sW
     have s1517 := sM.trans sW
     have fz : ∀ {Hx : Hp} {z : Addr}, Same H6 Hx → Hx z = none → H15 z ≠ none → Nz (fun z => H4 z = none) (U78 a M W (fun c => cond c P1 P0)) H17 z := fun {Hx z} s e n => tN z ⟨((s5.trans s6).trans s).free e, (ne_of_none (s _ _ (s6 _ _ ep0)) e).symm, (ne_of_none (s _ _ ep1) e).symm, n⟩
     have nn : ∀ {Hx : Hp} {z : Addr} {o : HO}, Hx z = some o → Hx z ≠ none := fun e c => by
       rw [e] at c
       cases c
     cases c
     · have s815 := (s811.trans s12).trans s1215
       have s915 := ((st1.trans sm0).trans s12).trans s1215
       have s1015 := (sm0.trans s12).trans s1215
       have s1115 := s12.trans s1215
       exact ⟨((i0.mono s6).mono s617).imp fun z n => tN z ⟨n.1.1, n.1.2, fun e => n.2 (by rw [e]; exact hP1), lv (s6.trans s615) n.2⟩, gv1 hG1 l1.2, hG1, Nat.le_refl _, fz ((sL.trans s8).trans (sx0.trans st1)) hm0 (nn (s1115 _ _ em0)), [.ref t1], (s1115.trans s1517) _ _ em0,
         .cons (.tup (.inl (.inl ((s1015.trans s1517) _ _ et1))) (.cons ((oc0.live.T.mono (s815.trans s1517)).imp fun z n => fz sL n.1 (lv s815 n.2)) (.cons (.str _) (.cons (.lst (fz (sL.trans s8) hx0 (nn (s915 _ _ ex0))) (.inl (.inl ((s915.trans s1517) _ _ ex0))) .nil) .nil)))) .nil⟩
     · have s611 := (sL.trans s8).trans s811
       have s1315 := st2.trans sm1
       exact ⟨(i1.mono s617).imp fun z n => tN z ⟨s5.free n.1.1, (fun e => by
           have n1 := n.1.1
           rw [e, ep0] at n1
           cases n1), n.1.2, lv s615 n.2⟩, gv1 hG2 l2.2, hG2, Nat.le_refl _, fz ((s611.trans s12).trans (sx1.trans st2)) hm1 (nn em1), [.ref t2], s1517 _ _ em1,
         .cons (.tup (.inl (.inl ((sm1.trans s1517) _ _ et2))) (.cons ((oc1.live.T.mono (s1215.trans s1517)).imp fun z n => fz s611 n.1 (lv s1215 n.2)) (.cons (.str _) (.cons (.lst (fz (s611.trans s12) hx1 (nn (s1315 _ _ ex1))) (.inl (.inl ((s1315.trans s1517) _ _ ex1))) .nil) .nil)))) .nil⟩
   have s417 : Same H4 H17 := (s415.trans sM).trans sW
   have r1e := q1.mono (s415.trans (sM.trans sW))
   have r2e := q2.mono (s415.trans (sM.trans sW))
   clear i0 i1 s0 t0 s5 s6 sL eL s47 s8 oc0 sx0 ex0 st1 et1 sm0 em0 s811 s411 s12 oc1 sx1 ex1 st2 et2 sm1 em1 s1215 sM eM sW eW s1117 s615 s715 tN q1 q2 o1 o2
   have N1 : ∀ z, (H2 z = none ∧ H3 z ≠ none) → H2 z = none ∧ H4 z ≠ none := fun z n => ⟨n.1, lv1 z n⟩
   have N2 : ∀ z, (H3 z = none ∧ H4 z ≠ none) → H2 z = none ∧ H4 z ≠ none := fun z n => by
     refine ⟨?_, n.2⟩
     cases e : H2 z with
     | none => rfl
     | some o =>
       have n1 := n.1
       by_cases c : z = a
       · rw [c, R3.at_] at n1
         cases n1
       · rw [k3 z o c e] at n1
         cases n1
   have jH2 : H2 j ≠ none := fun c => by
     obtain ⟨_, e, _⟩ := R0.ex
     rw [e] at c
     cases c
   have aH2 : H2 a ≠ none := fun c => by
     rw [R0.at_] at c
     cases c
   -- a dict of the houses is written
   have wr : ∀ {Hx : Hp} {q : Addr} {es : List (Key × V)} {o' : HO}, S78 C_History K (fun z => H4 z = none) j a L M W (fun c => cond c P1 P0) Hx p4 0 → (H2 q = none ∧ H4 q ≠ none) → Hx q = some (.dK es) → S78 C_History K (fun z => H4 z = none) j a L M W (fun c => cond c P1 P0) (upd Hx q o') p4 0 := fun {Hx q es o'} x n e => by
     have nd : ∀ {y : Addr}, H4 y = none → ¬ y = q := fun e c => n.2 (by rw [← c]; exact e)
     refine x.keep keeps_upd (nt_of e (fun _ z => nomatch z) fun _ _ z => nomatch z) (fun z c => .inl fun d => n.2 (by rw [← c]; exact d)) (x.R.upd e (fun c => jH2 (by rw [← c]; exact n.1)) (fun c => aH2 (by rw [← c]; exact n.1))) (nd Ln) (nd Mn) (nd Wn) fun c => ?_
     cases c
     · exact nd P0n
     · exact nd P1n
   walk_at "g"
   refine .inl ?_
   walk_at "g"
   refine q_items ?_
   walk_at "g"
   intro ln hln
   have sln := same_new (o := .lst [.ref r1, .ref r2]) hln
   have lnn : H4 ln = none := s417.free hln
   refine q_itemsE (xs := [.ref r1, .ref r2]) (.inl (.inl upd_same)) ?_
   refine for_items (xs := [.ref r1, .ref r2]) (fun i σ Hx => ∃ v8 v9 : Option V, σ = [some (.ref a0), some (.ref j), some (.ref a), some (.ref r1), some (.ref r2), some (.ref L), some (.ref M), some (.ref W), v8, v9, none, none, none, none, none] ∧ S78 C_History K (fun z => H4 z = none) j a L M W (fun c => cond c P1 P0) Hx p4 0 ∧ Hx ln = some (.lst [.ref r1, .ref r2]) ∧ (i = 0 → Own K (fun z => H2 z = none ∧ H3 z ≠ none) Hx r1 h1) ∧ (i ≤ 1 → Own K (fun z => H3 z = none ∧ H4 z ≠ none) Hx r2 h2)) ?_ ?_ ?_ ?_
   · exact ⟨none, none, rfl, X0.same sln, upd_same, fun _ => r1e.mono sln, fun _ => r2e.mono sln⟩
   · rintro i σ Hx _ ⟨v8, v9, rfl, x, eln, _⟩
     exact .inl (.inl eln)
   · rintro i y σ Hx hy ⟨v8, v9, rfl, x, eln, w1, w2⟩
     obtain ⟨r, hh, Nn, rfl, own, hG, hNn, hi1, rest⟩ : ∃ (r : Addr) (hh : Hs) (Nn : Addr → Prop), y = .ref r ∧ Own K Nn Hx r hh ∧ HG hh ∧ (∀ z, Nn z → H2 z = none ∧ H4 z ≠ none) ∧ i ≤ 1 ∧ (i = 0 → ∀ z, Nn z → H3 z ≠ none) := by
       obtain rfl | rfl : i = 0 ∨ i = 1 := by
         have := (List.getElem?_eq_some_iff.mp hy).1
         simp at this
         omega
       · cases (show some _ = some _ from hy)
         exact ⟨r1, h1, _, rfl, w1 rfl, hG1, N1, by decide, fun _ z n => n.2⟩
       · cases (show some _ = some _ from hy)
         exact ⟨r2, h2, _, rfl, w2 (by decide), hG2, N2, by decide, fun z => nomatch z⟩
     walk_at "g"
     refine q_items ?_
     walk_at "g"
     obtain ⟨kvs, er, ks⟩ := own.key
     refine q_listK (.inl er) fun lk hlk => ?_
     have ekl : (kvs.map fun kv => kV kv.1) = (nms hh).map V.str := by
       have e := congrArg (List.map kV) ks
       rw [List.map_map, List.map_map] at e
       exact e
     rw [ekl]
     refine q_itemsE (xs := (nms hh).map V.str) (.inl (.inl upd_same)) ?_
     have sl := same_new (o := .lst ((nms hh).map V.str)) hlk
     have nl : (nms hh).length ≤ 3 := by
       rw [nms_len]
       exact hG.len.2
     refine for_items (xs := (nms hh).map V.str) (fun k σ Hx => ∃ (v9 : Option V) (ht : Hs), σ = [some (.ref a0), some (.ref j), some (.ref a), some (.ref r1), some (.ref r2), some (.ref L), some (.ref M), some (.ref W), some (.ref r), v9, none, none, none, none, none] ∧ S78 C_History K (fun z => H4 z = none) j a L M W (fun c => cond c P1 P0) Hx p4 0 ∧ Hx ln = some (.lst [.ref r1, .ref r2]) ∧ Hx lk = some (.lst ((nms hh).map V.str)) ∧ Own K Nn Hx r ht ∧ nms ht = nms hh ∧ Wf ht ∧ Fits (4 + k) ht ∧ (i = 0 → Own K (fun z => H3 z = none ∧ H4 z ≠ none) Hx r2 h2)) ?_ ?_ ?_ ?_
     · exact ⟨_, hh, rfl, x.same sl, sl _ _ eln, upd_same, own.mono sl, rfl, hG.wf, hG.fit, fun e => (w2 (by omega)).mono sl⟩
     · rintro k σ Hx _ ⟨v9, ht, rfl, _, _, elk, _⟩
       exact .inl (.inl elk)
     · rintro k y σ Hx hy ⟨v9, ht, rfl, x, eln, elk, ot, nt, wt, ft, w2⟩
       obtain ⟨n, hn, rfl⟩ := map_at hy
       have hk3 : k < 3 := by
         have := (List.getElem?_eq_some_iff.mp hn).1
         omega
       have hnm : n ∈ nms hh := mem_at hn
       obtain ⟨t2, e2⟩ := lk_mem_nms (show n ∈ nms ht by rw [nt]; exact hnm)
       obtain ⟨kt, qt, et, z1, z2, z3, z4, zq, _, _, zback⟩ := ot.at e2
       have wt2 := wt.tab _ (lk_mem e2)
       have g2 : t2.length ≤ 4 + k := ft _ (lk_mem e2)
       walk_at "g"
       refine q_ixK (.inr n) (.inl z1) z2 ?_
       walk_at "g"
       refine q_setD (.inr "x7") z3 ?_ ?_
       · rw [z4.length]
         unfold tK
         rw [List.length_map]
         exact len_small (by omega)
       have ot2 := zback (putK et (.inr "x7") (.int 7)) (put t2 "x7" (.int 7)) (by
         rw [← put_tK wt2.1]
         exact z4.put (.int 7))
       have p2 := len_put_le t2 "x7" (.int 7)
       refine ⟨_, _, rfl, wr x (hNn _ zq) z3, ?_, ?_, ot2, (nms_put_of (mem_nms (lk_mem e2))).trans nt, wt.set (nd_put wt2.1 _ _) (immT_put wt2.2 _ rfl), ft.set (by omega) (by omega), fun e => (w2 e).keep (keeps_upd (p := qt)) (nt_of z3 (fun _ z => nomatch z) fun _ _ z => nomatch z) fun z m c => rest e qt zq (by rw [← c]; exact m.1)⟩
       · rw [upd_ne (fun c => (hNn _ zq).2 (by rw [← c]; exact lnn))]
         exact eln
       · rw [upd_ne (fun c => by rw [c, z3] at elk; cases elk)]
         exact elk
     · rintro σ Hx ⟨v9, ht, rfl, x, eln, _, _, _, _, _, w2⟩
       walk_at "g"
       exact ⟨_, _, rfl, x, eln, fun z => by omega, fun z => w2 (by omega)⟩
   · rintro σ Hx ⟨v8, v9, rfl, x, _⟩
     have x := x.imp (Z' := fun _ => True) fun _ _ => trivial
     clear wr N1 N2 r1e r2e X0
     walk_at "g"
     refine ⟨j, a, p4, 25, rfl, x.R, Int.le_trans (show p4 ≤ 400 by omega) (by decide), by decide, fun v p5 v0 v1 p50 p51 => ?_⟩
     obtain ⟨many, rfl⟩ : ∃ n : Nat, v = n := ⟨v.toNat, by omega⟩
     have x5 := x.draw D p50
     generalize upd Hx a (.lst [.int p5]) = G0 at x5
     clear x
     walk_at "g"
     refine ⟨_, rfl, by omega, by omega, ?_⟩
     rw [Int.toNat_natCast]
     refine for_rng (lo := 0) (n := many) (fun i σ Hi => ∃ (v8 v9 v10 v11 v12 v13 v14 : Option V) (pi : Int), σ = [some (.ref a0), some (.ref j), some (.ref a), some (.ref r1), some (.ref r2), some (.ref L), some (.ref M), some (.ref W), v8, v9, v10, v11, v12, v13, v14] ∧ S78 C_History K (fun _ => True) j a L M W (fun c => cond c P1 P0) Hi pi i ∧ pi ≤ 500 + 160 * i) ?_ ?_ ?_
     · exact ⟨_, _, _, _, _, _, _, _, rfl, x5, by omega⟩
     · rintro i σ Hi hi ⟨v8, v9, v10, v11, v12, v13, v14, pi, rfl, x, hpi⟩
       walk_at "g"
       refine ⟨j, a, pi, 2, rfl, x.R, Int.le_trans (show pi ≤ 5000 by omega) (by decide), by decide, fun w pw w0 w1 qw0 qw1 => ?_⟩
       obtain ⟨c, rfl⟩ : ∃ c : Bool, w = ix78 c := by
         obtain rfl | rfl : w = 0 ∨ w = 1 := by omega
         · exact ⟨false, rfl⟩
         · exact ⟨true, rfl⟩
       have x1 := x.draw D qw0
       generalize upd Hi a (.lst [.int pw]) = G1 at x1
       clear x
       obtain ⟨m, h, vl, now, eM, eW, s⟩ := x1.ex
       obtain ⟨xm, hxm, txm⟩ := (s c).xm
       walk_at "g"
       refine q_ixL (.inl (.inl x1.ls)) (at78 (f := fun c => V.ref (cond c P1 P0)) c) ?_
       walk_at "g"
       refine q_ixL (.inl (.inl eM)) (at78 (f := fun c => V.ref (m c)) c) ?_
       walk_at "g"
       refine q_ixL (.inl (.inl eW)) (at78 (f := fun c => V.int (now c)) c) ?_
       walk_at "g"
       have le1 := (s c).le
       have mne : m c ≠ a := fun e => (s c).nm.2.1 (by rw [e]; exact List.mem_cons_self)
       have nq : ∀ z, Nz (fun _ => True) (U78 a M W (fun c => cond c P1 P0)) G1 z → z ≠ a ∧ z ≠ cond c P1 P0 ∧ G1 z ≠ none := fun z n => ⟨fun e => n.2.1 (by rw [e]; exact List.mem_cons_self), fun e => n.2.1 (by rw [e]; exact mem_p (p := fun c => cond c P1 P0) c), n.2.2⟩
       have pl : ∃ dx fs, G1 (cond c P1 P0) = some (.ins C_History dx fs) := by
         obtain ⟨dx, _, _, _, _, _, e, _⟩ := (s c).hi.ex
         exact ⟨_, _, e⟩
       refine ⟨_, _, j, a, cond c P1 P0, m c, pw, h c, vl c, now c, xm, rfl, x1.R, Int.le_trans (show pw + 150 ≤ 5200 by omega) (by decide), (s c).hi, nq, (s c).g, (s c).hg, by omega, hxm, txm, nq, mne, fun vl' now' pi' q m' G2 xm' k2 R2 z1 z2 hi2 g2 le2 em2 ts2 dm eq => ?_⟩
       obtain ⟨x2, y2⟩ := x1.step D eM eW s k2 R2 hi2 g2 le2 em2 ts2 dm pl
       have d := D.ap
       have Mne : M ≠ a ∧ M ≠ cond c P1 P0 := ⟨d.2.2.1.symm, by cases c; (exact d.2.2.2.2.2.1.symm); (exact d.2.2.2.2.2.2.2.1.symm)⟩
       have Wne : W ≠ a ∧ W ≠ cond c P1 P0 := ⟨d.2.2.2.1.symm, by cases c; (exact d.2.2.2.2.2.2.1.symm); (exact d.2.2.2.2.2.2.2.2.1.symm)⟩
       have eM2 := k2 _ _ (fun q => q.elim Mne.1 Mne.2) eM
       have eW2 := k2 _ _ (fun q => q.elim Wne.1 Wne.2) eW
       walk_at "g"
       refine q_gtup (.inl (.inl eq)) rfl (q_gcons ?_)
       walk_at "g"
       refine q_gcons ?_
       walk_at "g"
       refine q_gcons ?_
       walk_at "g"
       refine q_gnil ?_
       walk_at "g"
       refine q_setL eM2 (ixn78 (f := fun c => V.ref (m c)) c) ?_
       rw [set78r (f := m) c]
       walk_at "g"
       refine q_setL ((upd_ne d.2.2.2.2.2.2.2.2.2.symm).trans eW2) (ixn78 (f := fun c => V.int (now c)) c) ?_
       rw [set78i (f := now) c]
       generalize upd (upd G2 M (.lst [.ref (if c = false then m' else m false), .ref (if c = true then m' else m true)])) W (.lst [.int (if c = false then now' else now false : Nat), .int (if c = true then now' else now true : Nat)]) = G3 at x2 y2
       clear x1 eM eW s hxm txm k2 R2 hi2 g2 em2 ts2 dm eq eM2 eW2 pl nq
       walk_at "g"
       refine q_notB ?_
       rw [decide_eq_true rfl]
       walk_at "g"
       refine q_ixL (.inl (.inl x2.ls)) (at78 (f := fun c => V.ref (cond c P1 P0)) c) ?_
       walk_at "g"
       obtain ⟨xm2, hxm, txm⟩ := y2.xm
       refine ⟨_, _, cond c P1 P0, m', h c, vl', now', xm2, rfl, y2.hi, y2.g, y2.hg.len.2, hxm, txm, fun H9 s9 => ?_⟩
       walk_at "g"
       exact ⟨_, _, _, _, _, _, _, _, rfl, x2.same s9, by omega⟩
     · rintro σ Hi ⟨v8, v9, v10, v11, v12, v13, v14, pi, rfl, x, hpi⟩
       walk_at "g"
       refine ⟨_, rfl, by decide, by decide, ?_⟩
       refine for_rng (lo := 0) (n := 2) (fun i σ Hx => ∃ (v10 v11 : Option V), σ = [some (.ref a0), some (.ref j), some (.ref a), some (.ref r1), some (.ref r2), some (.ref L), some (.ref M), some (.ref W), v8, v9, v10, v11, v12, v13, v14] ∧ S78 C_History K (fun _ => True) j a L M W (fun c => cond c P1 P0) Hx pi many) ?_ ?_ ?_
       · exact ⟨_, _, rfl, x⟩
       · rintro i σ Hx hi ⟨v10, v11, rfl, x⟩
         obtain ⟨c, ec⟩ : ∃ c : Bool, (0 : Int) + (i : Nat) = ix78 c := by
           obtain rfl | rfl : i = 0 ∨ i = 1 := by omega
           · exact ⟨false, rfl⟩
           · exact ⟨true, rfl⟩
         rw [ec]
         obtain ⟨m, h, vl, now, eM, eW, s⟩ := x.ex
         obtain ⟨xm, hxm, txm⟩ := (s c).xm
         walk_at "g"
         refine q_ixL (.inl (.inl x.ls)) (at78 (f := fun c => V.ref (cond c P1 P0)) c) ?_
         walk_at "g"
         refine q_ixL (.inl (.inl eM)) (at78 (f := fun c => V.ref (m c)) c) ?_
         walk_at "g"
         refine q_ixL (.inl (.inl eW)) (at78 (f := fun c => V.int (now c)) c) ?_
         walk_at "g"
         refine ⟨_, _, cond c P1 P0, m c, h c, vl c, now c, xm, rfl, (s c).hi, (s c).g, (s c).hg.len.2, hxm, txm, fun H9 s9 => ?_⟩
         walk_at "g"
         exact ⟨_, _, rfl, x.same s9⟩
       · rintro σ Hx ⟨v10, v11, rfl, x⟩
         walk_at "g"
         refine ⟨j, a, pi, 8, rfl, x.R, Int.le_trans (show pi ≤ 5000 by omega) (by decide), by decide, fun w pw w0 w1 qw0 qw1 => ?_⟩
         have x1 := x.draw D qw0
         generalize upd Hx a (.lst [.int pw]) = G1 at x1
         obtain ⟨m, h, vl, now, eM, eW, s⟩ := x1.ex
         walk_at "g"
         refine q_dec (fun c => ?_) (fun c => ?_)
         · walk_at "g"
           refine q_ixL (.inl (.inl x1.ls)) (at78 (f := fun c => V.ref (cond c P1 P0)) false) ?_
           walk_at "g"
           refine q_ixL (.inl (.inl eM)) (at78 (f := fun c => V.ref (m c)) false) ?_
           walk_at "g"
           refine q_ixL (.inl (.inl eW)) (at78 (f := fun c => V.int (now c)) false) ?_
           walk_at "g"
           have le1 := (s false).le
           exact ⟨_, P0, m false, h false, vl false, now false, rfl, (s false).hi, fun z n e => n.2.1 (by rw [e]; exact mem_p (p := fun c => cond c P1 P0) false), (s false).g, (s false).hg.len.2, by omega, fun H9 _ => hq H9⟩
         · walk_at "g"
           exact hq _

end
end K78
open PySem PySem.W PyProof.Rows
set_option maxRecDepth 100000 in
set_option maxHeartbeats 0 in
theorem PySem.Challenge.cw_trundleyard_k78_history_holds : PySem.Challenge.rw_trundleyard_k78_history.Holds := by
  w_on; o_law; k_head; (case hw => w_witness2)
  k_fill
  refine TU.top_walk (l := PySem.Challenge.rw_trundleyard_k78_history) rfl rfl (fun w h Y => PySem.W.kIn_of Y) ?F
  case F =>
    intro w mg fa h KX G hmg base KB GB
    have z_len : mg "len" = none := PySem.W.mg_none_of KX G (by k_is)
    have z_abs : mg "abs" = none := PySem.W.mg_none_of KX G (by k_is)
    have z_repr : mg "repr" = none := PySem.W.mg_none_of KX G (by k_is)
    have z_isinstance : mg "isinstance" = none := PySem.W.mg_none_of KX G (by k_is)
    have z_sorted : mg "sorted" = none := PySem.W.mg_none_of KX G (by k_is)
    have z_all : mg "all" = none := PySem.W.mg_none_of KX G (by k_is)
    have z_any : mg "any" = none := PySem.W.mg_none_of KX G (by k_is)
    have z_sum : mg "sum" = none := PySem.W.mg_none_of KX G (by k_is)
    have z_max : mg "max" = none := PySem.W.mg_none_of KX G (by k_is)
    have z_min : mg "min" = none := PySem.W.mg_none_of KX G (by k_is)
    have z_range : mg "range" = none := PySem.W.mg_none_of KX G (by k_is)
    have z_enumerate : mg "enumerate" = none := PySem.W.mg_none_of KX G (by k_is)
    have z_zip : mg "zip" = none := PySem.W.mg_none_of KX G (by k_is)
    have z_reversed : mg "reversed" = none := PySem.W.mg_none_of KX G (by k_is)
    have z_int : mg "int" = none := PySem.W.mg_none_of KX G (by k_is)
    have z_bool : mg "bool" = none := PySem.W.mg_none_of KX G (by k_is)
    have z_str : mg "str" = none := PySem.W.mg_none_of KX G (by k_is)
    have z_list : mg "list" = none := PySem.W.mg_none_of KX G (by k_is)
    have z_dict : mg "dict" = none := PySem.W.mg_none_of KX G (by k_is)
    have z_tuple : mg "tuple" = none := PySem.W.mg_none_of KX G (by k_is)
    have z_set : mg "set" = none := PySem.W.mg_none_of KX G (by k_is)
    have B : TU.Bt mg := ⟨z_len, z_abs, z_repr, z_isinstance, z_sorted, z_all, z_any, z_sum, z_max, z_min, z_range, z_enumerate, z_zip, z_reversed, z_int, z_bool, z_str, z_list, z_dict, z_tuple, z_set⟩
    have G_MOST_VERSIONS : ∃ t, mg "MOST_VERSIONS" = some (.int 401 t) := by
      refine' TU.glob_int KX G ?zgMOST_VERSIONSa
      (case zgMOST_VERSIONSa => k_is)
    obtain ⟨C_History, Kl_History, F_History___init, F_History_check_version, F_History_count, F_History_house_at, F_History_undo, F_History_commit, F_History_current, F_History_redo, F_History_label_at, F_History_edits_at, F_History_standing, F_History_way_of, F_History_log⟩ : ∃ C, TU.Kl (L2.KOf KX) mg "History" C ["houses", "labels", "lists", "now"] ∧ TU.TopM (L2.KOf KX) C "__init__" "History.__init__" K78.s_History___init ["self", "house"] ∧ TU.TopM (L2.KOf KX) C "check_version" "History.check_version" K78.s_History_check_version ["self", "version"] ∧ TU.TopM (L2.KOf KX) C "count" "History.count" K78.s_History_count ["self"] ∧ TU.TopM (L2.KOf KX) C "house_at" "History.house_at" K78.s_History_house_at ["self", "version"] ∧ TU.TopM (L2.KOf KX) C "undo" "History.undo" K78.s_History_undo ["self"] ∧ TU.TopM (L2.KOf KX) C "commit" "History.commit" K78.s_History_commit ["self", "edits", "label"] ∧ TU.TopM (L2.KOf KX) C "current" "History.current" K78.s_History_current ["self"] ∧ TU.TopM (L2.KOf KX) C "redo" "History.redo" K78.s_History_redo ["self"] ∧ TU.TopM (L2.KOf KX) C "label_at" "History.label_at" K78.s_History_label_at ["self", "version"] ∧ TU.TopM (L2.KOf KX) C "edits_at" "History.edits_at" K78.s_History_edits_at ["self", "version"] ∧ TU.TopM (L2.KOf KX) C "standing" "History.standing" K78.s_History_standing ["self"] ∧ TU.TopM (L2.KOf KX) C "way_of" "History.way_of" K78.s_History_way_of ["self", "first", "last"] ∧ TU.TopM (L2.KOf KX) C "log" "History.log" K78.s_History_log ["self"] := by
      unfold L2.KOf
      refine' ⟨_, ⟨⟨?zkHistorypg, ?zkHistoryhd, ?zkHistorypo, ?zkHistorysa⟩, PySem.W.mg_of KX G ?zkHistoryca, (TU.no_cons ?zkHistoryn0 (TU.no_cons ?zkHistoryn1 (TU.no_cons ?zkHistoryn2 (TU.no_cons ?zkHistoryn3 TU.no_nil)))), ?zkHistorymk, ?zkHistorykp⟩, TU.top_mkM ?zqHistory___inita ?zqHistory___initi ?zqHistory___initl ?zqHistory___initc ?zqHistory___initk (fun _ _ _ _ _ _ us hl => match us, hl with | [_, _], _ => rfl), TU.top_mkM ?zqHistory_check_versiona ?zqHistory_check_versioni ?zqHistory_check_versionl ?zqHistory_check_versionc ?zqHistory_check_versionk (fun _ _ _ _ _ _ us hl => match us, hl with | [_, _], _ => rfl), TU.top_mkM ?zqHistory_counta ?zqHistory_counti ?zqHistory_countl ?zqHistory_countc ?zqHistory_countk (fun _ _ _ _ _ _ us hl => match us, hl with | [_], _ => rfl), TU.top_mkM ?zqHistory_house_ata ?zqHistory_house_ati ?zqHistory_house_atl ?zqHistory_house_atc ?zqHistory_house_atk (fun _ _ _ _ _ _ us hl => match us, hl with | [_, _], _ => rfl), TU.top_mkM ?zqHistory_undoa ?zqHistory_undoi ?zqHistory_undol ?zqHistory_undoc ?zqHistory_undok (fun _ _ _ _ _ _ us hl => match us, hl with | [_], _ => rfl), TU.top_mkM ?zqHistory_commita ?zqHistory_commiti ?zqHistory_commitl ?zqHistory_commitc ?zqHistory_commitk (fun _ _ _ _ _ _ us hl => match us, hl with | [_, _, _], _ => rfl), TU.top_mkM ?zqHistory_currenta ?zqHistory_currenti ?zqHistory_currentl ?zqHistory_currentc ?zqHistory_currentk (fun _ _ _ _ _ _ us hl => match us, hl with | [_], _ => rfl), TU.top_mkM ?zqHistory_redoa ?zqHistory_redoi ?zqHistory_redol ?zqHistory_redoc ?zqHistory_redok (fun _ _ _ _ _ _ us hl => match us, hl with | [_], _ => rfl), TU.top_mkM ?zqHistory_label_ata ?zqHistory_label_ati ?zqHistory_label_atl ?zqHistory_label_atc ?zqHistory_label_atk (fun _ _ _ _ _ _ us hl => match us, hl with | [_, _], _ => rfl), TU.top_mkM ?zqHistory_edits_ata ?zqHistory_edits_ati ?zqHistory_edits_atl ?zqHistory_edits_atc ?zqHistory_edits_atk (fun _ _ _ _ _ _ us hl => match us, hl with | [_, _], _ => rfl), TU.top_mkM ?zqHistory_standinga ?zqHistory_standingi ?zqHistory_standingl ?zqHistory_standingc ?zqHistory_standingk (fun _ _ _ _ _ _ us hl => match us, hl with | [_], _ => rfl), TU.top_mkM ?zqHistory_way_ofa ?zqHistory_way_ofi ?zqHistory_way_ofl ?zqHistory_way_ofc ?zqHistory_way_ofk (fun _ _ _ _ _ _ us hl => match us, hl with | [_, _, _], _ => rfl), TU.top_mkM ?zqHistory_loga ?zqHistory_logi ?zqHistory_logl ?zqHistory_logc ?zqHistory_logk (fun _ _ _ _ _ _ us hl => match us, hl with | [_], _ => rfl)⟩
      (case zkHistoryca => k_is)
      (case zkHistorypg => k_is)
      (case zkHistoryhd => k_is)
      (case zkHistorypo => k_is)
      (case zkHistorysa => k_is)
      (case zkHistoryn0 => k_is)
      (case zkHistoryn1 => k_is)
      (case zkHistoryn2 => k_is)
      (case zkHistoryn3 => k_is)
      (case zkHistorymk => k_is)
      (case zkHistorykp => k_is)
      (case zqHistory___inita => k_is)
      (case zqHistory___initi => k_is)
      (case zqHistory___initl => k_is)
      (case zqHistory___initc => k_is)
      (case zqHistory___initk => k_is)
      (case zqHistory_check_versiona => k_is)
      (case zqHistory_check_versioni => k_is)
      (case zqHistory_check_versionl => k_is)
      (case zqHistory_check_versionc => k_is)
      (case zqHistory_check_versionk => k_is)
      (case zqHistory_counta => k_is)
      (case zqHistory_counti => k_is)
      (case zqHistory_countl => k_is)
      (case zqHistory_countc => k_is)
      (case zqHistory_countk => k_is)
      (case zqHistory_house_ata => k_is)
      (case zqHistory_house_ati => k_is)
      (case zqHistory_house_atl => k_is)
      (case zqHistory_house_atc => k_is)
      (case zqHistory_house_atk => k_is)
      (case zqHistory_undoa => k_is)
      (case zqHistory_undoi => k_is)
      (case zqHistory_undol => k_is)
      (case zqHistory_undoc => k_is)
      (case zqHistory_undok => k_is)
      (case zqHistory_commita => k_is)
      (case zqHistory_commiti => k_is)
      (case zqHistory_commitl => k_is)
      (case zqHistory_commitc => k_is)
      (case zqHistory_commitk => k_is)
      (case zqHistory_currenta => k_is)
      (case zqHistory_currenti => k_is)
      (case zqHistory_currentl => k_is)
      (case zqHistory_currentc => k_is)
      (case zqHistory_currentk => k_is)
      (case zqHistory_redoa => k_is)
      (case zqHistory_redoi => k_is)
      (case zqHistory_redol => k_is)
      (case zqHistory_redoc => k_is)
      (case zqHistory_redok => k_is)
      (case zqHistory_label_ata => k_is)
      (case zqHistory_label_ati => k_is)
      (case zqHistory_label_atl => k_is)
      (case zqHistory_label_atc => k_is)
      (case zqHistory_label_atk => k_is)
      (case zqHistory_edits_ata => k_is)
      (case zqHistory_edits_ati => k_is)
      (case zqHistory_edits_atl => k_is)
      (case zqHistory_edits_atc => k_is)
      (case zqHistory_edits_atk => k_is)
      (case zqHistory_standinga => k_is)
      (case zqHistory_standingi => k_is)
      (case zqHistory_standingl => k_is)
      (case zqHistory_standingc => k_is)
      (case zqHistory_standingk => k_is)
      (case zqHistory_way_ofa => k_is)
      (case zqHistory_way_ofi => k_is)
      (case zqHistory_way_ofl => k_is)
      (case zqHistory_way_ofc => k_is)
      (case zqHistory_way_ofk => k_is)
      (case zqHistory_loga => k_is)
      (case zqHistory_logi => k_is)
      (case zqHistory_logl => k_is)
      (case zqHistory_logc => k_is)
      (case zqHistory_logk => k_is)
    obtain ⟨C_Unknown, X_Unknown⟩ : ∃ C, TU.Xc PySem.Challenge.rw_trundleyard_k78_history.prog w (L2.KOf KX) mg base "Unknown" ["what", "name"] C := by
      unfold L2.KOf
      refine' ⟨_, TU.xc_mk2 (qual := "Unknown.__init__") (st := K78.s_Unknown___init) KX G ?zxUnknownaC ?zxUnknownxL ?zxUnknownxb ?zxUnknownsa ?zxUnknownga ?zxUnknowngg ?zxUnknownn1 ?zxUnknownn2 ?zxUnknowna1 ?zxUnknownt1 ?zxUnknownl1 ?zxUnknownc1 ?zxUnknownk1 ?zxUnknownkC ?zxUnknowneC ?zxUnknowntC ?zxUnknownhC ?zxUnknowniC ?zxUnknownsC ⟨rfl, rfl, rfl, by decide +kernel, rfl, by decide +kernel, by decide +kernel⟩ rfl (by decide +kernel) (by decide +kernel) (by decide +kernel) (by decide +kernel) (.inl rfl) (.inl rfl) (.inl rfl) (fun _ _ _ _ _ _ us hl => match us, hl with | [_, _, _], _ => rfl)⟩
      (case zxUnknownaC => first | k_is | rfl | decide +kernel)
      (case zxUnknownxL => first | k_is | rfl | decide +kernel)
      (case zxUnknownxb => first | k_is | rfl | decide +kernel)
      (case zxUnknownsa => first | k_is | rfl | decide +kernel)
      (case zxUnknownga => first | k_is | rfl | decide +kernel)
      (case zxUnknowngg => first | k_is | rfl | decide +kernel)
      (case zxUnknownn1 => first | k_is | rfl | decide +kernel)
      (case zxUnknownn2 => first | k_is | rfl | decide +kernel)
      (case zxUnknowna1 => first | k_is | rfl | decide +kernel)
      (case zxUnknownt1 => first | k_is | rfl | decide +kernel)
      (case zxUnknownl1 => first | k_is | rfl | decide +kernel)
      (case zxUnknownc1 => first | k_is | rfl | decide +kernel)
      (case zxUnknownk1 => first | k_is | rfl | decide +kernel)
      (case zxUnknownkC => first | k_is | rfl | decide +kernel)
      (case zxUnknowneC => first | k_is | rfl | decide +kernel)
      (case zxUnknowntC => first | k_is | rfl | decide +kernel)
      (case zxUnknownhC => first | k_is | rfl | decide +kernel)
      (case zxUnknowniC => first | k_is | rfl | decide +kernel)
      (case zxUnknownsC => first | k_is | rfl | decide +kernel)
    obtain ⟨C_Stale, X_Stale⟩ : ∃ C, TU.Xc PySem.Challenge.rw_trundleyard_k78_history.prog w (L2.KOf KX) mg base "Stale" ["version"] C := by
      unfold L2.KOf
      refine' ⟨_, TU.xc_mk1 (qual := "Stale.__init__") (st := K78.s_Stale___init) KX G ?zxStaleaC ?zxStalexL ?zxStalexb ?zxStalesa ?zxStalega ?zxStalegg ?zxStalen1 ?zxStalea1 ?zxStalet1 ?zxStalel1 ?zxStalec1 ?zxStalek1 ?zxStalekC ?zxStaleeC ?zxStaletC ?zxStalehC ?zxStaleiC ?zxStalesC ⟨rfl, rfl, rfl, by decide +kernel, rfl, by decide +kernel, by decide +kernel⟩ rfl (by decide +kernel) (by decide +kernel) (.inl rfl) (.inl rfl) (fun _ _ _ _ _ _ us hl => match us, hl with | [_, _], _ => rfl)⟩
      (case zxStaleaC => first | k_is | rfl | decide +kernel)
      (case zxStalexL => first | k_is | rfl | decide +kernel)
      (case zxStalexb => first | k_is | rfl | decide +kernel)
      (case zxStalesa => first | k_is | rfl | decide +kernel)
      (case zxStalega => first | k_is | rfl | decide +kernel)
      (case zxStalegg => first | k_is | rfl | decide +kernel)
      (case zxStalen1 => first | k_is | rfl | decide +kernel)
      (case zxStalea1 => first | k_is | rfl | decide +kernel)
      (case zxStalet1 => first | k_is | rfl | decide +kernel)
      (case zxStalel1 => first | k_is | rfl | decide +kernel)
      (case zxStalec1 => first | k_is | rfl | decide +kernel)
      (case zxStalek1 => first | k_is | rfl | decide +kernel)
      (case zxStalekC => first | k_is | rfl | decide +kernel)
      (case zxStaleeC => first | k_is | rfl | decide +kernel)
      (case zxStaletC => first | k_is | rfl | decide +kernel)
      (case zxStalehC => first | k_is | rfl | decide +kernel)
      (case zxStaleiC => first | k_is | rfl | decide +kernel)
      (case zxStalesC => first | k_is | rfl | decide +kernel)
    obtain ⟨C_TooMany, X_TooMany⟩ : ∃ C, TU.Xc PySem.Challenge.rw_trundleyard_k78_history.prog w (L2.KOf KX) mg base "TooMany" ["what", "limit"] C := by
      unfold L2.KOf
      refine' ⟨_, TU.xc_mk2 (qual := "TooMany.__init__") (st := K78.s_TooMany___init) KX G ?zxTooManyaC ?zxTooManyxL ?zxTooManyxb ?zxTooManysa ?zxTooManyga ?zxTooManygg ?zxTooManyn1 ?zxTooManyn2 ?zxTooManya1 ?zxTooManyt1 ?zxTooManyl1 ?zxTooManyc1 ?zxTooManyk1 ?zxTooManykC ?zxTooManyeC ?zxTooManytC ?zxTooManyhC ?zxTooManyiC ?zxTooManysC ⟨rfl, rfl, rfl, by decide +kernel, rfl, by decide +kernel, by decide +kernel⟩ rfl (by decide +kernel) (by decide +kernel) (by decide +kernel) (by decide +kernel) (.inl rfl) (.inl rfl) (.inl rfl) (fun _ _ _ _ _ _ us hl => match us, hl with | [_, _, _], _ => rfl)⟩
      (case zxTooManyaC => first | k_is | rfl | decide +kernel)
      (case zxTooManyxL => first | k_is | rfl | decide +kernel)
      (case zxTooManyxb => first | k_is | rfl | decide +kernel)
      (case zxTooManysa => first | k_is | rfl | decide +kernel)
      (case zxTooManyga => first | k_is | rfl | decide +kernel)
      (case zxTooManygg => first | k_is | rfl | decide +kernel)
      (case zxTooManyn1 => first | k_is | rfl | decide +kernel)
      (case zxTooManyn2 => first | k_is | rfl | decide +kernel)
      (case zxTooManya1 => first | k_is | rfl | decide +kernel)
      (case zxTooManyt1 => first | k_is | rfl | decide +kernel)
      (case zxTooManyl1 => first | k_is | rfl | decide +kernel)
      (case zxTooManyc1 => first | k_is | rfl | decide +kernel)
      (case zxTooManyk1 => first | k_is | rfl | decide +kernel)
      (case zxTooManykC => first | k_is | rfl | decide +kernel)
      (case zxTooManyeC => first | k_is | rfl | decide +kernel)
      (case zxTooManytC => first | k_is | rfl | decide +kernel)
      (case zxTooManyhC => first | k_is | rfl | decide +kernel)
      (case zxTooManyiC => first | k_is | rfl | decide +kernel)
      (case zxTooManysC => first | k_is | rfl | decide +kernel)
    obtain ⟨C_NothingToUndo, X_NothingToUndo⟩ : ∃ C, TU.X0 (L2.KOf KX) mg "NothingToUndo" C := by
      unfold L2.KOf
      refine' ⟨_, TU.x0_mk KX G ?zxNothingToUndoa PySem.F.excBase_ValueError ?zxNothingToUndoq ?zxNothingToUndoe ?zxNothingToUndot ?zxNothingToUndok ?zxNothingToUndoi ?zxNothingToUndos⟩
      (case zxNothingToUndoa => first | k_is | k_exc | rfl | decide +kernel)
      (case zxNothingToUndoq => first | k_is | k_exc | rfl | decide +kernel)
      (case zxNothingToUndoe => first | k_is | k_exc | rfl | decide +kernel)
      (case zxNothingToUndot => first | k_is | k_exc | rfl | decide +kernel)
      (case zxNothingToUndok => first | k_is | k_exc | rfl | decide +kernel)
      (case zxNothingToUndoi => first | k_is | k_exc | rfl | decide +kernel)
      (case zxNothingToUndos => first | k_is | k_exc | rfl | decide +kernel)
    obtain ⟨C_NothingToRedo, X_NothingToRedo⟩ : ∃ C, TU.X0 (L2.KOf KX) mg "NothingToRedo" C := by
      unfold L2.KOf
      refine' ⟨_, TU.x0_mk KX G ?zxNothingToRedoa PySem.F.excBase_ValueError ?zxNothingToRedoq ?zxNothingToRedoe ?zxNothingToRedot ?zxNothingToRedok ?zxNothingToRedoi ?zxNothingToRedos⟩
      (case zxNothingToRedoa => first | k_is | k_exc | rfl | decide +kernel)
      (case zxNothingToRedoq => first | k_is | k_exc | rfl | decide +kernel)
      (case zxNothingToRedoe => first | k_is | k_exc | rfl | decide +kernel)
      (case zxNothingToRedot => first | k_is | k_exc | rfl | decide +kernel)
      (case zxNothingToRedok => first | k_is | k_exc | rfl | decide +kernel)
      (case zxNothingToRedoi => first | k_is | k_exc | rfl | decide +kernel)
      (case zxNothingToRedos => first | k_is | k_exc | rfl | decide +kernel)
    have F_check_key : TU.TopF (L2.KOf KX) mg "check_key" K78.s_check_key ["house", "key"] := by
      unfold L2.KOf
      refine' TU.top_mk KX G ?zqcheck_keya ?zqcheck_keyl ?zqcheck_keyc ?zqcheck_keyk (fun _ _ _ _ _ _ us hl => match us, hl with | [_, _], _ => rfl)
      (case zqcheck_keya => k_is); (case zqcheck_keyl => k_is); (case zqcheck_keyc => k_is); (case zqcheck_keyk => k_is)
    have F_check_edit : TU.TopF (L2.KOf KX) mg "check_edit" K78.s_check_edit ["house", "edit"] := by
      unfold L2.KOf
      refine' TU.top_mk KX G ?zqcheck_edita ?zqcheck_editl ?zqcheck_editc ?zqcheck_editk (fun _ _ _ _ _ _ us hl => match us, hl with | [_, _], _ => rfl)
      (case zqcheck_edita => k_is); (case zqcheck_editl => k_is); (case zqcheck_editc => k_is); (case zqcheck_editk => k_is)
    have F_copy_house : TU.TopF (L2.KOf KX) mg "copy_house" K78.s_copy_house ["house"] := by
      unfold L2.KOf
      refine' TU.top_mk KX G ?zqcopy_housea ?zqcopy_housel ?zqcopy_housec ?zqcopy_housek (fun _ _ _ _ _ _ us hl => match us, hl with | [_], _ => rfl)
      (case zqcopy_housea => k_is); (case zqcopy_housel => k_is); (case zqcopy_housec => k_is); (case zqcopy_housek => k_is)
    have F_change_tables : TU.TopF (L2.KOf KX) mg "change_tables" K78.s_change_tables ["tables", "edit"] := by
      unfold L2.KOf
      refine' TU.top_mk KX G ?zqchange_tablesa ?zqchange_tablesl ?zqchange_tablesc ?zqchange_tablesk (fun _ _ _ _ _ _ us hl => match us, hl with | [_, _], _ => rfl)
      (case zqchange_tablesa => k_is); (case zqchange_tablesl => k_is); (case zqchange_tablesc => k_is); (case zqchange_tablesk => k_is)
    have F_apply_edits : TU.TopF (L2.KOf KX) mg "apply_edits" K78.s_apply_edits ["house", "edits"] := by
      unfold L2.KOf
      refine' TU.top_mk KX G ?zqapply_editsa ?zqapply_editsl ?zqapply_editsc ?zqapply_editsk (fun _ _ _ _ _ _ us hl => match us, hl with | [_, _], _ => rfl)
      (case zqapply_editsa => k_is); (case zqapply_editsl => k_is); (case zqapply_editsc => k_is); (case zqapply_editsk => k_is)
    have F_inverse : TU.TopF (L2.KOf KX) mg "inverse" K78.s_inverse ["house", "edit"] := by
      unfold L2.KOf
      refine' TU.top_mk KX G ?zqinversea ?zqinversel ?zqinversec ?zqinversek (fun _ _ _ _ _ _ us hl => match us, hl with | [_, _], _ => rfl)
      (case zqinversea => k_is); (case zqinversel => k_is); (case zqinversec => k_is); (case zqinversek => k_is)
    have F_inverse_of : TU.TopF (L2.KOf KX) mg "inverse_of" K78.s_inverse_of ["house", "edits"] := by
      unfold L2.KOf
      refine' TU.top_mk KX G ?zqinverse_ofa ?zqinverse_ofl ?zqinverse_ofc ?zqinverse_ofk (fun _ _ _ _ _ _ us hl => match us, hl with | [_, _], _ => rfl)
      (case zqinverse_ofa => k_is); (case zqinverse_ofl => k_is); (case zqinverse_ofc => k_is); (case zqinverse_ofk => k_is)
    have F_law_jar : TU.TopF (L2.KOf KX) mg "_law_jar" K78.s_law_jar ["script"] := by
      unfold L2.KOf
      refine' TU.top_mk KX G ?zqlaw_jara ?zqlaw_jarl ?zqlaw_jarc ?zqlaw_jark (fun _ _ _ _ _ _ us hl => match us, hl with | [_], _ => rfl)
      (case zqlaw_jara => k_is); (case zqlaw_jarl => k_is); (case zqlaw_jarc => k_is); (case zqlaw_jark => k_is)
    have F_law_draw : TU.TopF (L2.KOf KX) mg "_law_draw" K78.s_law_draw ["jar", "at", "many"] := by
      unfold L2.KOf
      refine' TU.top_mk KX G ?zqlaw_drawa ?zqlaw_drawl ?zqlaw_drawc ?zqlaw_drawk (fun _ _ _ _ _ _ us hl => match us, hl with | [_, _, _], _ => rfl)
      (case zqlaw_drawa => k_is); (case zqlaw_drawl => k_is); (case zqlaw_drawc => k_is); (case zqlaw_drawk => k_is)
    have F_law_entry : TU.TopF (L2.KOf KX) mg "_law_entry" K78.s_law_entry ["jar", "at"] := by
      unfold L2.KOf
      refine' TU.top_mk KX G ?zqlaw_entrya ?zqlaw_entryl ?zqlaw_entryc ?zqlaw_entryk (fun _ _ _ _ _ _ us hl => match us, hl with | [_, _], _ => rfl)
      (case zqlaw_entrya => k_is); (case zqlaw_entryl => k_is); (case zqlaw_entryc => k_is); (case zqlaw_entryk => k_is)
    have F_law_copy : TU.TopF (L2.KOf KX) mg "_law_copy" K78.s_law_copy ["house"] := by
      unfold L2.KOf
      refine' TU.top_mk KX G ?zqlaw_copya ?zqlaw_copyl ?zqlaw_copyc ?zqlaw_copyk (fun _ _ _ _ _ _ us hl => match us, hl with | [_], _ => rfl)
      (case zqlaw_copya => k_is); (case zqlaw_copyl => k_is); (case zqlaw_copyc => k_is); (case zqlaw_copyk => k_is)
    have F_law_after : TU.TopF (L2.KOf KX) mg "_law_after" K78.s_law_after ["house", "edit"] := by
      unfold L2.KOf
      refine' TU.top_mk KX G ?zqlaw_aftera ?zqlaw_afterl ?zqlaw_afterc ?zqlaw_afterk (fun _ _ _ _ _ _ us hl => match us, hl with | [_, _], _ => rfl)
      (case zqlaw_aftera => k_is); (case zqlaw_afterl => k_is); (case zqlaw_afterc => k_is); (case zqlaw_afterk => k_is)
    have F_law_same : TU.TopF (L2.KOf KX) mg "_law_same" K78.s_law_same ["told", "house"] := by
      unfold L2.KOf
      refine' TU.top_mk KX G ?zqlaw_samea ?zqlaw_samel ?zqlaw_samec ?zqlaw_samek (fun _ _ _ _ _ _ us hl => match us, hl with | [_, _], _ => rfl)
      (case zqlaw_samea => k_is); (case zqlaw_samel => k_is); (case zqlaw_samec => k_is); (case zqlaw_samek => k_is)
    have F_law_house : TU.TopF (L2.KOf KX) mg "_law_house" K78.s_law_house ["jar", "at"] := by
      unfold L2.KOf
      refine' TU.top_mk KX G ?zqlaw_housea ?zqlaw_housel ?zqlaw_housec ?zqlaw_housek (fun _ _ _ _ _ _ us hl => match us, hl with | [_, _], _ => rfl)
      (case zqlaw_housea => k_is); (case zqlaw_housel => k_is); (case zqlaw_housec => k_is); (case zqlaw_housek => k_is)
    have F_law_edits : TU.TopF (L2.KOf KX) mg "_law_edits" K78.s_law_edits ["jar", "at", "house", "many"] := by
      unfold L2.KOf
      refine' TU.top_mk KX G ?zqlaw_editsa ?zqlaw_editsl ?zqlaw_editsc ?zqlaw_editsk (fun _ _ _ _ _ _ us hl => match us, hl with | [_, _, _, _], _ => rfl)
      (case zqlaw_editsa => k_is); (case zqlaw_editsl => k_is); (case zqlaw_editsc => k_is); (case zqlaw_editsk => k_is)
    have F_law_stale : TU.TopF (L2.KOf KX) mg "_law_stale" K78.s_law_stale ["past", "version"] := by
      unfold L2.KOf
      refine' TU.top_mk KX G ?zqlaw_stalea ?zqlaw_stalel ?zqlaw_stalec ?zqlaw_stalek (fun _ _ _ _ _ _ us hl => match us, hl with | [_, _], _ => rfl)
      (case zqlaw_stalea => k_is); (case zqlaw_stalel => k_is); (case zqlaw_stalec => k_is); (case zqlaw_stalek => k_is)
    have F_law_looks_right : TU.TopF (L2.KOf KX) mg "_law_looks_right" K78.s_law_looks_right ["past", "mine", "now"] := by
      unfold L2.KOf
      refine' TU.top_mk KX G ?zqlaw_looks_righta ?zqlaw_looks_rightl ?zqlaw_looks_rightc ?zqlaw_looks_rightk (fun _ _ _ _ _ _ us hl => match us, hl with | [_, _, _], _ => rfl)
      (case zqlaw_looks_righta => k_is); (case zqlaw_looks_rightl => k_is); (case zqlaw_looks_rightc => k_is); (case zqlaw_looks_rightk => k_is)
    have F_law_step : TU.TopF (L2.KOf KX) mg "_law_step" K78.s_law_step ["jar", "at", "past", "mine", "now"] := by
      unfold L2.KOf
      refine' TU.top_mk KX G ?zqlaw_stepa ?zqlaw_stepl ?zqlaw_stepc ?zqlaw_stepk (fun _ _ _ _ _ _ us hl => match us, hl with | [_, _, _, _, _], _ => rfl)
      (case zqlaw_stepa => k_is); (case zqlaw_stepl => k_is); (case zqlaw_stepc => k_is); (case zqlaw_stepk => k_is)
    have F_law_bound_right : TU.TopF (L2.KOf KX) mg "_law_bound_right" K78.s_law_bound_right ["past", "mine", "now"] := by
      unfold L2.KOf
      refine' TU.top_mk KX G ?zqlaw_bound_righta ?zqlaw_bound_rightl ?zqlaw_bound_rightc ?zqlaw_bound_rightk (fun _ _ _ _ _ _ us hl => match us, hl with | [_, _, _], _ => rfl)
      (case zqlaw_bound_righta => k_is); (case zqlaw_bound_rightl => k_is); (case zqlaw_bound_rightc => k_is); (case zqlaw_bound_rightk => k_is)
    have F_law : TU.TopF (L2.KOf KX) mg "law" K78.s_law ["script"] := by
      unfold L2.KOf
      refine' TU.top_mk KX G ?zqlawa ?zqlawl ?zqlawc ?zqlawk (fun _ _ _ _ _ _ us hl => match us, hl with | [_], _ => rfl)
      (case zqlawa => k_is); (case zqlawl => k_is); (case zqlawc => k_is); (case zqlawk => k_is)
    have N_check_key := K78.dn_check_key (P := PySem.Challenge.rw_trundleyard_k78_history.prog) (w := w) (base := base) B F_check_key X_Unknown
    have D_check_key := N_check_key.df
    have N_check_edit := K78.dn_check_edit (P := PySem.Challenge.rw_trundleyard_k78_history.prog) (w := w) (base := base) B F_check_edit X_Unknown N_check_key
    have D_check_edit := N_check_edit.df
    have D_copy_house := K78.d_copy_house (P := PySem.Challenge.rw_trundleyard_k78_history.prog) (w := w) (base := base) B F_copy_house 
    have H_copy_house := K78.dh_copy_house (P := PySem.Challenge.rw_trundleyard_k78_history.prog) (w := w) (base := base) B F_copy_house 
    have N_change_tables := K78.dn_change_tables (P := PySem.Challenge.rw_trundleyard_k78_history.prog) (w := w) (base := base) B F_change_tables N_check_edit
    have D_change_tables := N_change_tables.df
    have N_apply_edits := K78.dn_apply_edits (P := PySem.Challenge.rw_trundleyard_k78_history.prog) (w := w) (base := base) B F_apply_edits D_copy_house N_change_tables
    have D_apply_edits := N_apply_edits.df
    have D_inverse := K78.d_inverse (P := PySem.Challenge.rw_trundleyard_k78_history.prog) (w := w) (base := base) B F_inverse D_check_edit
    have D_inverse_of := K78.d_inverse_of (P := PySem.Challenge.rw_trundleyard_k78_history.prog) (w := w) (base := base) B F_inverse_of D_change_tables D_inverse D_copy_house
    have H_apply_edits := K78.dh_apply_edits (P := PySem.Challenge.rw_trundleyard_k78_history.prog) (w := w) (base := base) B F_apply_edits H_copy_house
    have D_History___init := K78.d_History___init (P := PySem.Challenge.rw_trundleyard_k78_history.prog) (w := w) (base := base) B F_History___init Kl_History D_copy_house
    have D_History_check_version := K78.d_History_check_version (P := PySem.Challenge.rw_trundleyard_k78_history.prog) (w := w) (base := base) B F_History_check_version Kl_History X_Stale
    have D_History_count := K78.d_History_count (P := PySem.Challenge.rw_trundleyard_k78_history.prog) (w := w) (base := base) B F_History_count Kl_History
    have H_History_count := K78.dh_History_count (P := PySem.Challenge.rw_trundleyard_k78_history.prog) (w := w) (base := base) B F_History_count Kl_History
    have D_History_house_at := K78.d_History_house_at (P := PySem.Challenge.rw_trundleyard_k78_history.prog) (w := w) (base := base) B F_History_house_at Kl_History D_copy_house D_History_check_version
    have H_History_undo := K78.dh_History_undo (P := PySem.Challenge.rw_trundleyard_k78_history.prog) (w := w) (base := base) B F_History_undo Kl_History
    have N_History_commit := K78.dn_History_commit (P := PySem.Challenge.rw_trundleyard_k78_history.prog) (w := w) (base := base) B F_History_commit G_MOST_VERSIONS Kl_History X_TooMany N_apply_edits
    have D_History_commit := N_History_commit.dm
    have D_History_current := K78.d_History_current (P := PySem.Challenge.rw_trundleyard_k78_history.prog) (w := w) (base := base) B F_History_current Kl_History
    have H_History_current := K78.dh_History_current (P := PySem.Challenge.rw_trundleyard_k78_history.prog) (w := w) (base := base) B F_History_current Kl_History
    have D_History_undo := K78.d_History_undo (P := PySem.Challenge.rw_trundleyard_k78_history.prog) (w := w) (base := base) B F_History_undo Kl_History X_NothingToUndo
    have D_History_redo := K78.d_History_redo (P := PySem.Challenge.rw_trundleyard_k78_history.prog) (w := w) (base := base) B F_History_redo Kl_History X_NothingToRedo
    have D_History_label_at := K78.d_History_label_at (P := PySem.Challenge.rw_trundleyard_k78_history.prog) (w := w) (base := base) B F_History_label_at Kl_History D_History_check_version
    have D_History_edits_at := K78.d_History_edits_at (P := PySem.Challenge.rw_trundleyard_k78_history.prog) (w := w) (base := base) B F_History_edits_at Kl_History D_History_check_version
    have D_History_standing := K78.d_History_standing (P := PySem.Challenge.rw_trundleyard_k78_history.prog) (w := w) (base := base) B F_History_standing Kl_History D_copy_house
    have H_History_check_version := K78.dh_History_check_version (P := PySem.Challenge.rw_trundleyard_k78_history.prog) (w := w) (base := base) B F_History_check_version Kl_History
    have H_History_label_at := K78.dh_History_label_at (P := PySem.Challenge.rw_trundleyard_k78_history.prog) (w := w) (base := base) B F_History_label_at Kl_History H_History_check_version
    have H_History_commit := K78.dh_History_commit (P := PySem.Challenge.rw_trundleyard_k78_history.prog) (w := w) (base := base) B F_History_commit G_MOST_VERSIONS Kl_History H_apply_edits
    have D_History_way_of := K78.d_History_way_of (P := PySem.Challenge.rw_trundleyard_k78_history.prog) (w := w) (base := base) B F_History_way_of Kl_History D_inverse_of D_History_check_version
    have D_History_log := K78.d_History_log (P := PySem.Challenge.rw_trundleyard_k78_history.prog) (w := w) (base := base) B F_History_log Kl_History
    have D_law_jar := K78.d_law_jar (P := PySem.Challenge.rw_trundleyard_k78_history.prog) (w := w) (base := base) B F_law_jar 
    have D_law_draw := K78.d_law_draw (P := PySem.Challenge.rw_trundleyard_k78_history.prog) (w := w) (base := base) B F_law_draw 
    have D_law_entry := K78.d_law_entry (P := PySem.Challenge.rw_trundleyard_k78_history.prog) (w := w) (base := base) B F_law_entry D_law_draw
    have D_law_copy := K78.d_law_copy (P := PySem.Challenge.rw_trundleyard_k78_history.prog) (w := w) (base := base) B F_law_copy 
    have D_law_after := K78.d_law_after (P := PySem.Challenge.rw_trundleyard_k78_history.prog) (w := w) (base := base) B F_law_after D_law_copy
    have D_law_same := K78.d_law_same (P := PySem.Challenge.rw_trundleyard_k78_history.prog) (w := w) (base := base) B F_law_same 
    have D_law_house := K78.d_law_house (P := PySem.Challenge.rw_trundleyard_k78_history.prog) (w := w) (base := base) B F_law_house D_law_draw D_law_entry
    have D_law_edits := K78.d_law_edits (P := PySem.Challenge.rw_trundleyard_k78_history.prog) (w := w) (base := base) B F_law_edits D_law_after D_law_draw D_law_entry D_law_copy
    have D_law_stale := K78.d_law_stale (P := PySem.Challenge.rw_trundleyard_k78_history.prog) (w := w) (base := base) B F_law_stale Kl_History X_Stale D_History_house_at D_History_label_at D_History_edits_at D_History_way_of
    have D_law_looks_right := K78.d_law_looks_right (P := PySem.Challenge.rw_trundleyard_k78_history.prog) (w := w) (base := base) B F_law_looks_right Kl_History D_law_stale D_History_log D_History_edits_at D_History_label_at D_law_same D_History_house_at D_History_standing D_History_count D_History_current
    have D_law_step := K78.d_law_step (P := PySem.Challenge.rw_trundleyard_k78_history.prog) (w := w) (base := base) B F_law_step Kl_History X_Unknown X_NothingToRedo X_NothingToUndo D_History_commit D_law_after D_law_copy D_law_draw N_History_commit D_law_edits D_History_redo D_History_undo
    have D_law_bound_right := K78.d_law_bound_right (P := PySem.Challenge.rw_trundleyard_k78_history.prog) (w := w) (base := base) B F_law_bound_right Kl_History X_TooMany N_History_commit H_History_label_at H_History_commit H_History_undo H_History_count H_History_current D_History_commit
    obtain ⟨fb, hb, ok⟩ := K78.d_law (P := PySem.Challenge.rw_trundleyard_k78_history.prog) (w := w) (base := base) B F_law Kl_History D_law_draw D_law_bound_right D_law_looks_right D_law_step D_law_copy D_History___init D_law_house D_law_jar
    have e := hmg.symm.trans hb
    cases e
    exact ok
#print axioms PySem.Challenge.cw_trundleyard_k78_history_holds

