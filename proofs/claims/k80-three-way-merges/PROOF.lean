import PyProof.Rows.All
import Wide.All
import OpenK.AllK
import Wide.FinOn
import HandS.ForMost
import HandS.ForExc
import HandS.DeepEq
import HandS.DictComp
import HandS.Small
import HandS.IsInst
import HandS.ExcInit
import HandS.RaiseMore
import HandS.Flow
import HandS.Style
import PyProof.ReprRoads
import KE.DataEq
import HandS.RaiseOp
import HandS.Walk
import HandS.SortInts
import HandS.ExcField
import HandS.ExcIs
import PyProof.ReprBulk
import KE.KSortTupAny
import HandS.SortRule
import KE.KEqNest
import PyProof.NeKinds
import PySem.Challenge.RW_trundleyard_k80_three_way_merges
set_option Elab.async false
set_option linter.all false
set_option maxRecDepth 100000
namespace TU
open PySem PySem.Spec PyProof.Rows L2

/-- data as trees -/
inductive Tr where
  | non | bl (b : Bool) | int (i : Int) | str (x : Str)
  | lst (xs : List Tr) | tup (xs : List Tr) | dic (kvs : List (Key × Tr))

-- v reads as the tree d in H; the addresses of its lists and dicts satisfy P
mutual
inductive T (K : PySem.W.Frag) (H : Hp) (P : Addr → Prop) : V → Tr → Prop
  | non : T K H P .non .non
  | bl (b : Bool) : T K H P (.bl b) (.bl b)
  | int (i : Int) : T K H P (.int i) (.int i)
  | str (x : Str) : T K H P (.str x) (.str x)
  | lst {a : Addr} {xs : List V} {ds : List Tr} : P a → SqL K H a xs → Ts K H P xs ds → T K H P (.ref a) (.lst ds)
  | tup {a : Addr} {xs : List V} {ds : List Tr} : SqT K H a xs → Ts K H P xs ds → T K H P (.ref a) (.tup ds)
  | dic {a : Addr} {kvs : List (Key × V)} {es : List (Key × Tr)} : P a → Rd H a (.dK kvs) → Tk K H P kvs es → T K H P (.ref a) (.dic es)
inductive Ts (K : PySem.W.Frag) (H : Hp) (P : Addr → Prop) : List V → List Tr → Prop
  | nil : Ts K H P [] []
  | cons {v : V} {vs : List V} {d : Tr} {ds : List Tr} : T K H P v d → Ts K H P vs ds → Ts K H P (v :: vs) (d :: ds)
inductive Tk (K : PySem.W.Frag) (H : Hp) (P : Addr → Prop) : List (Key × V) → List (Key × Tr) → Prop
  | nil : Tk K H P [] []
  | cons {k : Key} {v : V} {vs : List (Key × V)} {d : Tr} {ds : List (Key × Tr)} : T K H P v d → Tk K H P vs ds → Tk K H P ((k, v) :: vs) ((k, d) :: ds)
end

/-- what W does not hold is kept -/
def Keeps (W : Addr → Prop) (H H' : Hp) : Prop := ∀ a o, ¬ W a → H a = some o → H' a = some o
theorem Keeps.of_same {W : Addr → Prop} {H H' : Hp} (s : Same H H') : Keeps W H H' := fun a o _ e => s a o e
theorem Keeps.same {H H' : Hp} (s : Keeps (fun _ => False) H H') : Same H H' := fun a o e => s a o (fun z => z) e

section
variable {K : PySem.W.Frag} {H H' : Hp} {P P' W : Addr → Prop}
theorem sqT_keep (k : Keeps W H H') (nt : ∀ a xs, W a → ¬ Rd H a (.tup xs)) {a : Addr} {xs : List V} (h : SqT K H a xs) : SqT K H' a xs := by
  rcases h with h | h
  · have nw : ¬ W a := fun z => nt a xs z h
    rcases h with h | ⟨o, h⟩
    · exact .inl (.inl (k a _ nw h))
    · exact .inl (.inr ⟨o, k a _ nw h⟩)
  · exact .inr h
theorem sqL_keep (k : Keeps W H H') {a : Addr} {xs : List V} (nw : ¬ W a) (h : SqL K H a xs) : SqL K H' a xs := by
  rcases h with h | h
  · rcases h with h | ⟨o, h⟩
    · exact .inl (.inl (k a _ nw h))
    · exact .inl (.inr ⟨o, k a _ nw h⟩)
  · exact .inr h
theorem rd_keep (k : Keeps W H H') {a : Addr} {u : HO} (nw : ¬ W a) (h : Rd H a u) : Rd H' a u := by
  rcases h with h | ⟨o, h⟩
  · exact .inl (k a _ nw h)
  · exact .inr ⟨o, k a _ nw h⟩
mutual
theorem T.keep (k : Keeps W H H') (nt : ∀ a xs, W a → ¬ Rd H a (.tup xs)) (hp : ∀ a, P a → P' a ∧ ¬ W a) : ∀ {v : V} {d : Tr}, T K H P v d → T K H' P' v d
  | _, _, .non => .non
  | _, _, .bl b => .bl b
  | _, _, .int i => .int i
  | _, _, .str x => .str x
  | _, _, .lst p h t => .lst (hp _ p).1 (sqL_keep k (hp _ p).2 h) (Ts.keep k nt hp t)
  | _, _, .tup h t => .tup (sqT_keep k nt h) (Ts.keep k nt hp t)
  | _, _, .dic p h t => .dic (hp _ p).1 (rd_keep k (hp _ p).2 h) (Tk.keep k nt hp t)
theorem Ts.keep (k : Keeps W H H') (nt : ∀ a xs, W a → ¬ Rd H a (.tup xs)) (hp : ∀ a, P a → P' a ∧ ¬ W a) : ∀ {v : List V} {d : List Tr}, Ts K H P v d → Ts K H' P' v d
  | _, _, .nil => .nil
  | _, _, .cons h t => .cons (T.keep k nt hp h) (Ts.keep k nt hp t)
theorem Tk.keep (k : Keeps W H H') (nt : ∀ a xs, W a → ¬ Rd H a (.tup xs)) (hp : ∀ a, P a → P' a ∧ ¬ W a) : ∀ {v : List (Key × V)} {d : List (Key × Tr)}, Tk K H P v d → Tk K H' P' v d
  | _, _, .nil => .nil
  | _, _, .cons h t => .cons (T.keep k nt hp h) (Tk.keep k nt hp t)
end
theorem T.mono (s : Same H H') {v : V} {d : Tr} (h : T K H P v d) : T K H' P v d := h.keep (W := fun _ => False) (.of_same s) (fun _ _ z => z.elim) fun _ p => ⟨p, fun z => z⟩
theorem Ts.mono (s : Same H H') {v : List V} {d : List Tr} (h : Ts K H P v d) : Ts K H' P v d := h.keep (W := fun _ => False) (.of_same s) (fun _ _ z => z.elim) fun _ p => ⟨p, fun z => z⟩
theorem Tk.mono (s : Same H H') {v : List (Key × V)} {d : List (Key × Tr)} (h : Tk K H P v d) : Tk K H' P v d := h.keep (W := fun _ => False) (.of_same s) (fun _ _ z => z.elim) fun _ p => ⟨p, fun z => z⟩
theorem T.imp (hp : ∀ a, P a → P' a) {v : V} {d : Tr} (h : T K H P v d) : T K H P' v d := h.keep (W := fun _ => False) (.of_same (Same.refl H)) (fun _ _ z => z.elim) fun a p => ⟨hp a p, fun z => z⟩
theorem Ts.imp (hp : ∀ a, P a → P' a) {v : List V} {d : List Tr} (h : Ts K H P v d) : Ts K H P' v d := h.keep (W := fun _ => False) (.of_same (Same.refl H)) (fun _ _ z => z.elim) fun a p => ⟨hp a p, fun z => z⟩
theorem Tk.imp (hp : ∀ a, P a → P' a) {v : List (Key × V)} {d : List (Key × Tr)} (h : Tk K H P v d) : Tk K H P' v d := h.keep (W := fun _ => False) (.of_same (Same.refl H)) (fun _ _ z => z.elim) fun a p => ⟨hp a p, fun z => z⟩
/-- an object that is no tuple is changed -/
theorem nt_of {p : Addr} {o : HO} (h : H p = some o) (n : ∀ xs, o ≠ .tup xs) (n2 : ∀ u v, o ≠ .frz u v) : ∀ a xs, a = p → ¬ Rd H a (.tup xs) := by
  rintro a xs rfl (e | ⟨u, e⟩)
  · rw [h] at e
    exact n xs (Option.some.inj e)
  · rw [h] at e
    exact n2 _ _ (Option.some.inj e)
theorem keeps_upd {p : Addr} {o : HO} : Keeps (fun a => a = p) H (upd H p o) := fun a u n e => by
  rw [upd_ne n]
  exact e
theorem T.upd {p : Addr} {o o' : HO} (e : H p = some o) (n : ∀ xs, o ≠ .tup xs) (n2 : ∀ u v, o ≠ .frz u v) (hp : ∀ a, P a → a ≠ p) {v : V} {d : Tr} (h : T K H P v d) : T K (upd H p o') P v d :=
  h.keep keeps_upd (nt_of e n n2) fun a q => ⟨q, hp a q⟩
theorem Ts.upd {p : Addr} {o o' : HO} (e : H p = some o) (n : ∀ xs, o ≠ .tup xs) (n2 : ∀ u v, o ≠ .frz u v) (hp : ∀ a, P a → a ≠ p) {v : List V} {d : List Tr} (h : Ts K H P v d) : Ts K (upd H p o') P v d :=
  h.keep keeps_upd (nt_of e n n2) fun a q => ⟨q, hp a q⟩
theorem Tk.upd {p : Addr} {o o' : HO} (e : H p = some o) (n : ∀ xs, o ≠ .tup xs) (n2 : ∀ u v, o ≠ .frz u v) (hp : ∀ a, P a → a ≠ p) {v : List (Key × V)} {d : List (Key × Tr)} (h : Tk K H P v d) : Tk K (upd H p o') P v d :=
  h.keep keeps_upd (nt_of e n n2) fun a q => ⟨q, hp a q⟩
theorem same_new {p : Addr} {o : HO} (h : H p = none) : Same H (upd H p o) := fun b u e => by
  rw [upd_ne (ne_of_none e h)]
  exact e
theorem Ts.length : ∀ {v : List V} {d : List Tr}, Ts K H P v d → v.length = d.length
  | _, _, .nil => rfl
  | _, _, .cons _ t => congrArg Nat.succ (Ts.length t)
theorem Tk.length : ∀ {v : List (Key × V)} {d : List (Key × Tr)}, Tk K H P v d → v.length = d.length
  | _, _, .nil => rfl
  | _, _, .cons _ t => congrArg Nat.succ (Tk.length t)
theorem Tk.keys : ∀ {v : List (Key × V)} {d : List (Key × Tr)}, Tk K H P v d → v.map (·.1) = d.map (·.1)
  | _, _, .nil => rfl
  | _, _, .cons _ t => by
    rw [List.map_cons, List.map_cons, Tk.keys t]
theorem Ts.get : ∀ {vs : List V} {ds : List Tr} {i : Nat} {v : V}, Ts K H P vs ds → vs[i]? = some v → ∃ d, ds[i]? = some d ∧ T K H P v d
  | _, _, _, _, .nil, e => by simp at e
  | _, _, 0, _, .cons h _, e => by
    simp at e
    subst e
    exact ⟨_, rfl, h⟩
  | _, _, i + 1, v, .cons _ t, e => by
    obtain ⟨d, h1, h2⟩ := Ts.get (i := i) (v := v) t (by simpa using e)
    exact ⟨d, by simpa using h1, h2⟩
theorem Ts.get' : ∀ {vs : List V} {ds : List Tr} {i : Nat} {d : Tr}, Ts K H P vs ds → ds[i]? = some d → ∃ v, vs[i]? = some v ∧ T K H P v d
  | _, _, _, _, .nil, e => by simp at e
  | _, _, 0, _, .cons h _, e => by
    simp at e
    subst e
    exact ⟨_, rfl, h⟩
  | _, _, i + 1, d, .cons _ t, e => by
    obtain ⟨v, h1, h2⟩ := Ts.get' (i := i) (d := d) t (by simpa using e)
    exact ⟨v, by simpa using h1, h2⟩
theorem Ts.append : ∀ {v u : List V} {d e : List Tr}, Ts K H P v d → Ts K H P u e → Ts K H P (v ++ u) (d ++ e)
  | _, _, _, _, .nil, h => h
  | _, _, _, _, .cons h t, h' => .cons h (Ts.append t h')
theorem Ts.one {v : V} {d : Tr} (h : T K H P v d) : Ts K H P [v] [d] := .cons h .nil
theorem Tk.append : ∀ {v u : List (Key × V)} {d e : List (Key × Tr)}, Tk K H P v d → Tk K H P u e → Tk K H P (v ++ u) (d ++ e)
  | _, _, _, _, .nil, h => h
  | _, _, _, _, .cons h t, h' => .cons h (Tk.append t h')

/-! ### dicts as lists of pairs -/
def getD (kvs : List (Key × Tr)) (k : Key) : Option Tr := (kvs.find? fun kv => decide (kv.1 = k)).map (·.2)
def putD (kvs : List (Key × Tr)) (k : Key) (v : Tr) : List (Key × Tr) :=
  if (kvs.any fun kv => decide (kv.1 = k)) = true then kvs.map (fun kv => if kv.1 = k then (kv.1, v) else kv) else kvs ++ [(k, v)]
def delD (kvs : List (Key × Tr)) (k : Key) : List (Key × Tr) := kvs.filter fun kv => decide (kv.1 ≠ k)
theorem getD_cons (p : Key × Tr) (r : List (Key × Tr)) (k : Key) : getD (p :: r) k = if p.1 = k then some p.2 else getD r k := by
  by_cases e : p.1 = k
  · simp [getD, List.find?_cons, e]
  · simp [getD, List.find?_cons, e]
theorem Tk.get : ∀ {kvs : List (Key × V)} {es : List (Key × Tr)} (k : Key), Tk K H P kvs es → (valV kvs k = none ∧ getD es k = none) ∨ ∃ v d, valV kvs k = some v ∧ getD es k = some d ∧ T K H P v d
  | _, _, k, .nil => .inl ⟨rfl, rfl⟩
  | _, _, k, .cons (k := k0) h t => by
    by_cases e : k0 = k
    · refine .inr ⟨_, _, valV_pos e, ?_, h⟩
      rw [getD_cons, if_pos e]
    · rw [valV_neg (p := (k0, _)) e, getD_cons, if_neg e]
      exact Tk.get k t
theorem Tk.gets {kvs : List (Key × V)} {es : List (Key × Tr)} {k : Key} {d : Tr} (h : Tk K H P kvs es) (e : getD es k = some d) : ∃ v, valV kvs k = some v ∧ T K H P v d := by
  rcases h.get k with ⟨_, z⟩ | ⟨v, d', h1, h2, h3⟩
  · rw [z] at e
    cases e
  · rw [h2] at e
    cases e
    exact ⟨v, h1, h3⟩
theorem Tk.getn {kvs : List (Key × V)} {es : List (Key × Tr)} {k : Key} (h : Tk K H P kvs es) (e : getD es k = none) : valV kvs k = none := by
  rcases h.get k with ⟨z, _⟩ | ⟨v, d', h1, h2, h3⟩
  · exact z
  · rw [h2] at e
    cases e
theorem Tk.isSome {kvs : List (Key × V)} {es : List (Key × Tr)} {k : Key} (h : Tk K H P kvs es) : (valV kvs k).isSome = (getD es k).isSome := by
  rcases h.get k with ⟨z, z'⟩ | ⟨v, d', h1, h2, h3⟩
  · rw [z, z'] <;> rfl
  · rw [h1, h2] <;> rfl
theorem Tk.anyk : ∀ {kvs : List (Key × V)} {es : List (Key × Tr)} (k : Key), Tk K H P kvs es → (kvs.any fun kv => decide (kv.1 = k)) = (es.any fun kv => decide (kv.1 = k))
  | _, _, _, .nil => rfl
  | _, _, k, .cons _ t => by
    rw [List.any_cons, List.any_cons, Tk.anyk k t]
theorem Tk.mapput {k : Key} {v : V} {d : Tr} (hv : T K H P v d) : ∀ {kvs : List (Key × V)} {es : List (Key × Tr)}, Tk K H P kvs es → Tk K H P (kvs.map (fun kv => if kv.1 = k then (kv.1, v) else kv)) (es.map (fun kv => if kv.1 = k then (kv.1, d) else kv))
  | _, _, .nil => .nil
  | _, _, .cons (k := k0) h t => by
    rw [List.map_cons, List.map_cons]
    by_cases e : k0 = k
    · simp only [if_pos e]
      exact .cons hv (Tk.mapput hv t)
    · simp only [if_neg e]
      exact .cons h (Tk.mapput hv t)
theorem Tk.put {k : Key} {v : V} {d : Tr} {kvs : List (Key × V)} {es : List (Key × Tr)} (h : Tk K H P kvs es) (hv : T K H P v d) : Tk K H P (putK kvs k v) (putD es k d) := by
  unfold putK putD
  rw [h.anyk k]
  by_cases e : (es.any fun kv => decide (kv.1 = k)) = true
  · rw [if_pos e, if_pos e]
    exact h.mapput hv
  · rw [if_neg e, if_neg e]
    exact h.append (.cons hv .nil)
theorem Tk.del (k : Key) : ∀ {kvs : List (Key × V)} {es : List (Key × Tr)}, Tk K H P kvs es → Tk K H P (dropK kvs k) (delD es k)
  | _, _, .nil => .nil
  | _, _, .cons (k := k0) h t => by
    unfold dropK delD
    rw [List.filter_cons, List.filter_cons]
    by_cases e : k0 ≠ k
    · rw [if_pos (by simpa using e), if_pos (by simpa using e)]
      exact .cons h (Tk.del k t)
    · rw [if_neg (by simpa using e), if_neg (by simpa using e)]
      exact Tk.del k t
end
end TU

set_option Elab.async false
set_option linter.all false
set_option maxRecDepth 100000
namespace TU
open PySem PySem.Spec PyProof.Rows L2

/-! ### to the library's data -/
mutual
def py : Tr → PyData
  | .non => .none
  | .bl b => .bool b
  | .int i => .int i
  | .str x => .str x
  | .lst xs => .list (pys xs)
  | .tup xs => .tuple (pys xs)
  | .dic kvs => .dict (pyk kvs)
def pys : List Tr → List PyData
  | [] => []
  | x :: xs => py x :: pys xs
def pyk : List (Key × Tr) → List (PyData × PyData)
  | [] => []
  | p :: xs => ((match p.1 with | .inl i => .int i | .inr s => .str s), py p.2) :: pyk xs
end
mutual
/-- no dict within -/
def nod : Tr → Bool
  | .lst xs => nods xs
  | .tup xs => nods xs
  | .dic _ => false
  | _ => true
def nods : List Tr → Bool
  | [] => true
  | x :: xs => nod x && nods xs
end
mutual
/-- no list within -/
def nol : Tr → Bool
  | .lst _ => false
  | .tup xs => nols xs
  | .dic kvs => nolk kvs
  | _ => true
def nols : List Tr → Bool
  | [] => true
  | x :: xs => nol x && nols xs
def nolk : List (Key × Tr) → Bool
  | [] => true
  | p :: xs => nol p.2 && nolk xs
end
mutual
def dep : Tr → Nat
  | .lst xs => deps xs + 1
  | .tup xs => deps xs + 1
  | .dic kvs => depk kvs + 1
  | _ => 0
def deps : List Tr → Nat
  | [] => 0
  | x :: xs => max (dep x) (deps xs)
def depk : List (Key × Tr) → Nat
  | [] => 0
  | p :: xs => max (dep p.2) (depk xs)
end
mutual
theorem plain_py : ∀ d : Tr, nod d = true → (py d).plain = true
  | .non, _ => rfl
  | .bl _, _ => rfl
  | .int _, _ => rfl
  | .str _, _ => rfl
  | .lst xs, h => by
    have h' : nods xs = true := by simpa [nod] using h
    simp only [py, PyData.plain]
    exact plain_pys xs h'
  | .tup xs, h => by
    have h' : nods xs = true := by simpa [nod] using h
    simp only [py, PyData.plain]
    exact plain_pys xs h'
  | .dic _, h => by simp [nod] at h
theorem plain_pys : ∀ ds : List Tr, nods ds = true → PyData.plainAll (pys ds) = true
  | [], _ => rfl
  | x :: xs, h => by
    have h' : nod x = true ∧ nods xs = true := by simpa [nods] using h
    simp only [pys, PyData.plainAll, plain_py x h'.1, plain_pys xs h'.2, Bool.and_self]
end
mutual
theorem depth_py : ∀ d : Tr, (py d).depth = dep d
  | .non => rfl
  | .bl _ => rfl
  | .int _ => rfl
  | .str _ => rfl
  | .lst xs => by simp only [py, PyData.depth, dep, depth_pys xs]
  | .tup xs => by simp only [py, PyData.depth, dep, depth_pys xs]
  | .dic kvs => by simp only [py, PyData.depth, dep, depth_pyk kvs]
theorem depth_pys : ∀ ds : List Tr, PyData.depthAll (pys ds) = deps ds
  | [] => rfl
  | x :: xs => by simp only [pys, PyData.depthAll, deps, depth_py x, depth_pys xs]
theorem depth_pyk : ∀ ds : List (Key × Tr), PyData.depthKv (pyk ds) = depk ds
  | [] => rfl
  | (k, x) :: xs => by
    cases k <;> simp [pyk, PyData.depthKv, depk, depth_py x, depth_pyk xs, PyData.depth]
end

section
variable {X : Cx} {pins : List (Addr × Obj)} {σ : L2.St} {H : Hp} {s : Shared} {P : Addr → Prop}
theorem reads_keys {prog : Program} {w : World} {h : Heap} {es : List DictEntry} {kvs : List (Key × Value)} (r : Pairs (mixKind prog w) es kvs) : ∀ {ds : List (Key × Tr)}, kvs.map (·.1) = ds.map (·.1) →
    ReadsAll h (es.map (·.key)) ((pyk ds).map (·.1)) [] := by
  induction r with
  | nil =>
    intro ds hk
    cases ds with
    | nil => exact .nil
    | cons q ds => exact nomatch hk
  | @cons e p es kvs h1 h2 t ih =>
    intro ds hk
    cases ds with
    | nil => exact nomatch hk
    | cons q ds =>
      obtain ⟨k, d⟩ := q
      have hk' : p.1 = k ∧ kvs.map (·.1) = ds.map (·.1) := by simpa using hk
      have r1 : keyIs k e.key = true := by rw [← hk'.1]; exact h1
      have ih' := ih hk'.2
      simp only [List.map_cons, pyk]
      rcases keyIs_shape r1 with ⟨i, t, rfl, e2⟩ | ⟨x, t, rfl, e2⟩
      · rw [e2]
        exact ReadsAll.cons (as := []) (bs := []) (Reads.int i t) ih'
      · rw [e2]
        exact ReadsAll.cons (as := []) (bs := []) (Reads.str x t) ih'
theorem vals_of_pairs {prog : Program} {w : World} {es : List DictEntry} {kvs : List (Key × Value)} (r : Pairs (mixKind prog w) es kvs) : es.map (·.val) = kvs.map (·.2) := by
  induction r with
  | nil => rfl
  | cons h1 h2 t ih => rw [List.map_cons, List.map_cons, h2, ih]
theorem pyk_snd : ∀ ds : List (Key × Tr), (pyk ds).map (·.2) = pys (ds.map (·.2))
  | [] => rfl
  | p :: ds => by simp only [pyk, List.map_cons, pys, pyk_snd ds]
mutual
/-- a tree is read as the library's data; where no list lies within, sys.modules is none of its objects -/
theorem T.reads (I : Inv X pins σ H s) : ∀ (d : Tr) (v : V) (u : Value), T X.K H P v d → RelV v u → ∃ as, Reads s.heap u (py d) as ∧ (nol d = true → sysModules ∉ as)
  | .non, _, _, h, r => by
    cases h
    cases r
    exact ⟨_, Reads.none, fun _ h => nomatch h⟩
  | .bl b, _, _, h, r => by
    cases h
    cases r
    exact ⟨_, Reads.bool b, fun _ h => nomatch h⟩
  | .int i, _, _, h, r => by
    cases h
    obtain ⟨t, rfl⟩ := r
    exact ⟨_, Reads.int i t, fun _ h => nomatch h⟩
  | .str x, _, _, h, r => by
    cases h
    obtain ⟨t, rfl⟩ := r
    exact ⟨_, Reads.str x t, fun _ h => nomatch h⟩
  | .lst ds, _, _, h, r => by
    cases h with
    | lst p hs ha =>
      cases r
      obtain ⟨its, rv, ⟨o, n, ho, hc, _, hd⟩, _⟩ := I.list hs
      obtain ⟨as, hr, _⟩ := Ts.reads I ds _ its ha rv
      exact ⟨_, Reads.list ho hc hd hr, fun q => by simp [nol] at q⟩
  | .tup ds, _, _, h, r => by
    cases h with
    | tup hs ha =>
      cases r
      obtain ⟨its, rv, ⟨o, ho, hc, n, hd⟩, _⟩ := I.tuple hs
      obtain ⟨as, hr, hn⟩ := Ts.reads I ds _ its ha rv
      exact ⟨_, Reads.tuple ho hc hd hr, fun q => hn (by simpa [nol] using q)⟩
  | .dic ds, _, _, h, r => by
    cases h with
    | @dic a kvs _ p hs ha =>
      cases r
      obtain ⟨z, hd, vs, rel, o, es, ep, ho, hx, hdat, hk, hp, nd⟩ := dk_rd I.hok hs
      have hkeys : vs.map (·.1) = ds.map (·.1) := rel.keys.symm.trans ha.keys
      obtain ⟨bs, hr, hn⟩ := Tk.reads I ds kvs vs ha rel
      have e2 : es.toList.map (·.val) = vs.map (·.2) := vals_of_pairs hp
      rw [← e2, ← pyk_snd] at hr
      refine ⟨_, Reads.dict ho hx.1 hdat (reads_keys hp hkeys) hr, fun q => ?_⟩
      have q' : nolk ds = true := by simpa [nol] using q
      have hd' : a ≠ sysModules := by simpa using hd
      simp only [List.cons_append, List.nil_append, List.mem_cons, not_or]
      exact ⟨fun z => hd' z.symm, hn q'⟩
theorem Ts.reads (I : Inv X pins σ H s) : ∀ (ds : List Tr) (vs : List V) (us : List Value), Ts X.K H P vs ds → Vals vs us → ∃ as, ReadsAll s.heap us (pys ds) as ∧ (nols ds = true → sysModules ∉ as)
  | [], _, _, h, r => by
    cases h
    cases r
    exact ⟨_, ReadsAll.nil, fun _ h => nomatch h⟩
  | d :: ds, _, _, h, r => by
    cases h with
    | cons h1 h2 =>
      cases r with
      | cons r1 r2 =>
        obtain ⟨as, q1, n1⟩ := T.reads I d _ _ h1 r1
        obtain ⟨bs, q2, n2⟩ := Ts.reads I ds _ _ h2 r2
        refine ⟨_, ReadsAll.cons q1 q2, fun q => ?_⟩
        have q' : nol d = true ∧ nols ds = true := by simpa [nols] using q
        rw [List.mem_append, not_or]
        exact ⟨n1 q'.1, n2 q'.2⟩
theorem Tk.reads (I : Inv X pins σ H s) : ∀ (ds : List (Key × Tr)) (kvs : List (Key × V)) (vs : List (Key × Value)), Tk X.K H P kvs ds → KV kvs vs → ∃ as, ReadsAll s.heap (vs.map (·.2)) (pys (ds.map (·.2))) as ∧ (nolk ds = true → sysModules ∉ as)
  | [], _, _, h, r => by
    cases h
    cases r
    exact ⟨_, ReadsAll.nil, fun _ h => nomatch h⟩
  | d :: ds, _, _, h, r => by
    cases h with
    | cons h1 h2 =>
      cases r with
      | cons r1 r2 =>
        obtain ⟨as, q1, n1⟩ := T.reads I _ _ _ h1 r1.2
        obtain ⟨bs, q2, n2⟩ := Tk.reads I ds _ _ h2 r2
        refine ⟨_, ReadsAll.cons q1 q2, fun q => ?_⟩
        simp only [nolk, Bool.and_eq_true] at q
        rw [List.mem_append, not_or]
        exact ⟨n1 q.1, n2 q.2⟩
end
end

/-! ### operators of any kind -/
section
variable {X : Cx}
/-- a + b -/
def rAddU (K : PySem.W.Frag) : R2 := fun x y H Q => (∃ i j, x = .int i ∧ y = .int j ∧ Q (.int (i + j)) H) ∨ (∃ i j, x = .str i ∧ y = .str j ∧ i.length + j.length ≤ sizeLine ∧ Q (.str (i ++ j)) H) ∨ rCat x y H Q ∨ rCatT K x y H Q
theorem op_addU : OpR X (binaryOp .Add) (rAddU X.K) := op_add.or (op_add_str.or (op_cat.or op_catT))
theorem q_addI {K : PySem.W.Frag} {i j : Int} {H : Hp} {Q : VK} (q : Q (.int (i + j)) H) : rAddU K (.int i) (.int j) H Q := .inl ⟨i, j, rfl, rfl, q⟩
theorem q_addS {K : PySem.W.Frag} {i j : Str} {H : Hp} {Q : VK} (z : i.length + j.length ≤ sizeLine) (q : Q (.str (i ++ j)) H) : rAddU K (.str i) (.str j) H Q := .inr (.inl ⟨i, j, rfl, rfl, z, q⟩)
theorem q_addL {K : PySem.W.Frag} {a b : Addr} {xs ys : List V} {H : Hp} {Q : VK} (ha : H a = some (.lst xs)) (hb : H b = some (.lst ys)) (z : xs.length + ys.length ≤ sizeLine) (q : ∀ p, H p = none → Q (.ref p) (upd H p (.lst (xs ++ ys)))) :
    rAddU K (.ref a) (.ref b) H Q := .inr (.inr (.inl ⟨a, b, xs, ys, rfl, rfl, ha, hb, z, q⟩))
theorem q_addT {K : PySem.W.Frag} {a b : Addr} {xs ys : List V} {H : Hp} {Q : VK} (ha : SqT K H a xs) (hb : SqT K H b ys) (n1 : xs ≠ []) (n2 : ys ≠ []) (z : xs.length + ys.length ≤ sizeLine) (q : ∀ p, H p = none → Q (.ref p) (upd H p (.tup (xs ++ ys)))) :
    rAddU K (.ref a) (.ref b) H Q := .inr (.inr (.inr ⟨a, b, xs, ys, rfl, rfl, ha, hb, n1, z, fun e => absurd e n2, fun _ => q⟩))

/-- what == tells of two trees without dicts -/
def eqb (d e : Tr) : Bool := PyData.eqv (py d) (py e)
theorem eqb_refl {d : Tr} (h : nod d = true) : eqb d d = true := SeqAt.eqv_refl_plain _ (plain_py d h)
/-- a dict == another one: the values without dicts -/
def eqk (ks ls : List (Key × Tr)) : Bool := ks.length == ls.length && ks.all fun p => match getD ls p.1 with | some u => eqb p.2 u | none => false

/-- a == b: trees without dicts -/
def rEqT (K : PySem.W.Frag) (n : Nat) : R2 := fun x y H Q => ∃ P d e, T K H P x d ∧ T K H P y e ∧ nod d = true ∧ nod e = true ∧ dep d ≤ n ∧ Q (.bl (eqb d e)) H
def rNeT (K : PySem.W.Frag) (n : Nat) : R2 := fun x y H Q => ∃ P d e, T K H P x d ∧ T K H P y e ∧ nod d = true ∧ nod e = true ∧ dep d ≤ n ∧ Q (.bl (!eqb d e)) H
theorem op_eqT {n : Nat} (hu : X.A.units + n < cLine) : OpR X (compareOp .Eq) (rEqT X.K n) := by
  intro pins s σ H x y v u Q I rx ry h
  obtain ⟨P, d, e, hd, he, nd, ne, hn, q⟩ := h
  obtain ⟨as, r1, _⟩ := T.reads I d x v hd rx
  obtain ⟨bs, r2, _⟩ := T.reads I e y u he ry
  refine SeqAt.eq_plain r1 r2 (plain_py d nd) (plain_py e ne) ?_ ⟨.bl _, H, I, rfl, q⟩
  rw [depth_py, depth_py]
  have := Nat.min_le_left (dep d) (dep e)
  omega
theorem op_neT {n : Nat} (hu : X.A.units + n < cLine) : OpR X (compareOp .NotEq) (rNeT X.K n) := by
  intro pins s σ H x y v u Q I rx ry h
  obtain ⟨P, d, e, hd, he, nd, ne, hn, q⟩ := h
  obtain ⟨as, r1, _⟩ := T.reads I d x v hd rx
  obtain ⟨bs, r2, _⟩ := T.reads I e y u he ry
  refine SeqAt.ne_plain r1 r2 (plain_py d nd) (plain_py e ne) ?_ ⟨.bl _, H, I, rfl, q⟩
  rw [depth_py, depth_py]
  have := Nat.min_le_left (dep d) (dep e)
  omega

/-- the values that are met when two dicts are compared -/
theorem hits_of {pins : List (Addr × Obj)} {σ : L2.St} {H : Hp} {s : Shared} {P P' : Addr → Prop} {A : Around} {n : Nat} (I : Inv X pins σ H s) (hu : A.units + n < cLine) {ls : List (Key × Tr)} {vl : List (Key × V)} {vb : List (Key × Value)} (hl : Tk X.K H P' vl ls) (rb : KV vl vb) (nl : ∀ p ∈ ls, nod p.2 = true) :
    ∀ {ks : List (Key × Tr)} {vk : List (Key × V)} {va : List (Key × Value)}, Tk X.K H P vk ks → KV vk va → (∀ p ∈ ks, nod p.2 = true ∧ dep p.2 ≤ n) →
      ∃ b, PySem.W.KeqHits A s vb va b ∧ (b = ks.all fun p => match getD ls p.1 with | some u => eqb p.2 u | none => false)
  | [], _, _, h, r, _ => by
    cases h
    cases r
    exact ⟨true, .nil, rfl⟩
  | (k, d) :: ks, _, _, h, r, hn => by
    cases h with
    | @cons _ v vk _ _ h1 h2 =>
      cases r with
      | @cons _ q _ _ r1 r2 =>
        obtain ⟨e1, e2⟩ := r1
        obtain ⟨key, w'⟩ := q
        have e1' : k = key := e1
        subst e1'
        obtain ⟨b, hb, eb⟩ := hits_of I hu hl rb nl h2 r2 fun p hp => hn p (List.mem_cons_of_mem _ hp)
        have rr := rb.val k
        rcases hl.get k with ⟨z1, z2⟩ | ⟨u, e, z1, z2, z3⟩
        · rw [z1] at rr
          have e3 : valueAt vb k = none := by
            cases q : valueAt vb k with
            | none => rfl
            | some y =>
              rw [q] at rr
              exact (show False from rr).elim
          refine ⟨false, .miss e3, ?_⟩
          rw [List.all_cons]
          simp only [z2, Bool.false_and]
        · rw [z1] at rr
          obtain ⟨y, hy, ry⟩ := rr.some_of
          obtain ⟨as, q1, _⟩ := T.reads I d v w' h1 e2
          obtain ⟨bs, q2, _⟩ := T.reads I e u y z3 ry
          have ne : nod e = true := by
            have hm : ∃ p ∈ ls, p.1 = k ∧ p.2 = e := by
              unfold getD at z2
              cases q : ls.find? fun kv => decide (kv.1 = k) with
              | none =>
                rw [q] at z2
                cases z2
              | some p =>
                rw [q] at z2
                exact ⟨p, List.mem_of_find?_eq_some q, by simpa using List.find?_some q, Option.some.inj z2⟩
            obtain ⟨p, hp, _, hp2⟩ := hm
            rw [← hp2]
            exact nl p hp
          have hd := hn (k, d) List.mem_cons_self
          have EA : SeqAt.EqAt A s w' y (eqb d e) := SeqAt.eqAt_plain _ _ A s w' y _ _ q1 q2 (plain_py d hd.1) (plain_py e ne) (by
            rw [depth_py, depth_py]
            have h3 : dep d ≤ n := hd.2
            have := Nat.min_le_left (dep d) (dep e)
            omega)
          refine ⟨eqb d e && b, .hit hy EA hb, ?_⟩
          rw [List.all_cons]
          simp only [z2, eb]
def rEqK (neg : Bool) (K : PySem.W.Frag) (n : Nat) : R2 := fun x y H Q => ∃ P a b vk vl ks ls, x = .ref a ∧ y = .ref b ∧ Rd H a (.dK vk) ∧ Rd H b (.dK vl) ∧ Tk K H P vk ks ∧ Tk K H P vl ls ∧ (∀ p ∈ ks, nod p.2 = true ∧ dep p.2 ≤ n) ∧ (∀ p ∈ ls, nod p.2 = true) ∧ Q (.bl (if neg then !eqk ks ls else eqk ks ls)) H
theorem op_eqK {n : Nat} (hu : X.A.units + 1 + n < cLine) : OpR X (compareOp .Eq) (rEqK false X.K n) := by
  intro pins s σ H x y v u Q I rx ry h
  obtain ⟨P, a, b, vk, vl, ks, ls, rfl, rfl, ha, hb, ta, tb, na, nb, q⟩ := h
  cases (show v = Value.ref a from rx)
  cases (show u = Value.ref b from ry)
  obtain ⟨_, ya, va, ra, da⟩ := dk_rd I.hok ha
  obtain ⟨_, yb, vb, rb, db⟩ := dk_rd I.hok hb
  obtain ⟨r, hits, er⟩ := hits_of I (A := X.A.in1) hu tb rb nb ta ra na
  refine PySem.W.keq_eq (knd := mixKind X.prog X.w) ya yb da db (by omega) (fun _ => hits) ⟨.bl _, H, I, rfl, ?_⟩
  have e1 : va.length = ks.length := by rw [← ra.length, ta.length]
  have e2 : vb.length = ls.length := by rw [← rb.length, tb.length]
  rw [e1, e2, er]
  exact q
theorem op_neK {n : Nat} (hu : X.A.units + 1 + n < cLine) : OpR X (compareOp .NotEq) (rEqK true X.K n) := by
  intro pins s σ H x y v u Q I rx ry h
  obtain ⟨P, a, b, vk, vl, ks, ls, rfl, rfl, ha, hb, ta, tb, na, nb, q⟩ := h
  cases (show v = Value.ref a from rx)
  cases (show u = Value.ref b from ry)
  obtain ⟨_, ya, va, ra, da⟩ := dk_rd I.hok ha
  obtain ⟨_, yb, vb, rb, db⟩ := dk_rd I.hok hb
  obtain ⟨r, hits, er⟩ := hits_of I (A := X.A.in1) hu tb rb nb ta ra na
  refine PySem.W.keq_ne (knd := mixKind X.prog X.w) ya yb da db (by omega) (fun _ => hits) ⟨.bl _, H, I, rfl, ?_⟩
  have e1 : va.length = ks.length := by rw [← ra.length, ta.length]
  have e2 : vb.length = ls.length := by rw [← rb.length, tb.length]
  rw [e1, e2, er]
  exact q
/-- a == b, a != b of anything that is known here -/
def rEqU (K : PySem.W.Frag) : R2 := fun x y H Q => rEq x y H Q ∨ rEqT K 60 x y H Q ∨ rEqK false K 60 x y H Q
def rNeU (K : PySem.W.Frag) : R2 := fun x y H Q => rNe x y H Q ∨ rNeT K 60 x y H Q ∨ rEqK true K 60 x y H Q
theorem op_eqU (hu : X.A.units + 64 < cLine) : OpR X (compareOp .Eq) (rEqU X.K) := op_eq.or ((op_eqT (by omega)).or (op_eqK (by omega)))
theorem op_neU (hu : X.A.units + 64 < cLine) : OpR X (compareOp .NotEq) (rNeU X.K) := op_ne.or ((op_neT (by omega)).or (op_neK (by omega)))

/-- x in c, x not in c -/
def rInU (neg : Bool) (K : PySem.W.Frag) : R2 := fun x y H Q => (∃ a o, y = .ref a ∧ DGet H a x o ∧ Q (.bl (if neg then !o.isSome else o.isSome)) H) ∨
  (∃ P d ds, T K H P x d ∧ (T K H P y (.lst ds) ∨ T K H P y (.tup ds)) ∧ nod d = true ∧ nods ds = true ∧ dep d ≤ 60 ∧ Q (.bl (if neg then !ds.any fun z => eqb z d else ds.any fun z => eqb z d)) H) ∨
  (∃ i j, x = .str i ∧ y = .str j ∧ Q (.bl (if neg then (Builtin.Str.occurrences j i 0 j.length 1).isEmpty else !(Builtin.Str.occurrences j i 0 j.length 1).isEmpty)) H)
theorem any_pys (d : Tr) : ∀ ds : List Tr, ((pys ds).any fun z => PyData.eqv z (py d)) = ds.any fun z => eqb z d
  | [] => rfl
  | x :: xs => by rw [pys, List.any_cons, List.any_cons, any_pys d xs] <;> rfl
theorem op_inU (hu : X.A.units + 64 < cLine) : OpR X (compareOp .In) (rInU false X.K) := by
  intro pins s σ H x y v u Q I rx ry h
  rcases h with ⟨a, o, rfl, g, q⟩ | ⟨P, d, ds, hd, he, nd, ns, hn, q⟩ | ⟨i, j, rfl, rfl, q⟩
  · cases (show u = Value.ref a from ry)
    exact d_in (by omega) I g rx fun s3 I3 => ⟨.bl o.isSome, H, I3, rfl, q⟩
  · obtain ⟨as, r1, _⟩ := T.reads I d x v hd rx
    have hm : X.A.units + 1 + min (PyData.depthAll (pys ds)) (py d).depth < cLine := by
      rw [depth_py, depth_pys]
      have := Nat.min_le_right (deps ds) (dep d)
      omega
    rcases he with he | he
    · obtain ⟨bs, r2, _⟩ := T.reads I _ y u he ry
      exact SeqAt.in_list_data r2 r1 (plain_pys ds ns) (plain_py d nd) hm ⟨.bl _, H, I, rfl, by rw [any_pys]; exact q⟩
    · obtain ⟨bs, r2, _⟩ := T.reads I _ y u he ry
      exact SeqAt.in_tuple_data r2 r1 (plain_pys ds ns) (plain_py d nd) hm ⟨.bl _, H, I, rfl, by rw [any_pys]; exact q⟩
  · exact op_in_str pins s σ H _ _ v u Q I rx ry ⟨i, j, rfl, rfl, q⟩
theorem op_notInU (hu : X.A.units + 64 < cLine) : OpR X (compareOp .NotIn) (rInU true X.K) := by
  intro pins s σ H x y v u Q I rx ry h
  rcases h with ⟨a, o, rfl, g, q⟩ | ⟨P, d, ds, hd, he, nd, ns, hn, q⟩ | ⟨i, j, rfl, rfl, q⟩
  · cases (show u = Value.ref a from ry)
    exact d_notIn (by omega) I g rx fun s3 I3 => ⟨.bl (!o.isSome), H, I3, rfl, q⟩
  · obtain ⟨as, r1, _⟩ := T.reads I d x v hd rx
    have hm : X.A.units + 1 + min (PyData.depthAll (pys ds)) (py d).depth < cLine := by
      rw [depth_py, depth_pys]
      have := Nat.min_le_right (deps ds) (dep d)
      omega
    rcases he with he | he
    · obtain ⟨bs, r2, _⟩ := T.reads I _ y u he ry
      exact SeqAt.notIn_list_data r2 r1 (plain_pys ds ns) (plain_py d nd) hm ⟨.bl _, H, I, rfl, by rw [any_pys]; exact q⟩
    · obtain ⟨bs, r2, _⟩ := T.reads I _ y u he ry
      exact SeqAt.notIn_tuple_data r2 r1 (plain_pys ds ns) (plain_py d nd) hm ⟨.bl _, H, I, rfl, by rw [any_pys]; exact q⟩
  · exact op_notIn_str pins s σ H _ _ v u Q I rx ry ⟨i, j, rfl, rfl, by
      rw [Bool.not_not]
      exact q⟩

/-- c[k] -/
def rDIx : R2 := fun x y H Q => ∃ a v, x = .ref a ∧ DGet H a y (some v) ∧ Q v H
theorem ix_dict (hu : X.A.units + 1 < cLine) : IxR X rDIx := by
  intro value slice pins s σ H x y v u Q I rx ry h hs
  obtain ⟨a, w, rfl, g, q⟩ := h
  cases (show v = Value.ref a from rx)
  exact PyProof.Rows.tail_any (dict_typeIs I g) PySem.F.slot_dict_getitem.lookup (d_getItem hu I g ry fun w' s3 I3 rw' => ⟨w, H, I3, rw', q⟩) hs
def rIxU (K : PySem.W.Frag) : R2 := fun x y H Q => rIxL K x y H Q ∨ rIxT K x y H Q ∨ rIxS x y H Q ∨ rDIx x y H Q
theorem ix_any (hu : X.A.units + 64 < cLine) : IxR X (rIxU X.K) := ix_list.or (ix_tup.or (ix_str.or (ix_dict (by omega))))
/-- c[k] = v -/
def rSetU : TSet := fun o i v H Q => rSetL o i v H Q ∨ rSetD o i v H Q
theorem set_any (hu : X.A.units + 64 < cLine) : PSet X rSetU := by
  intro pins s σ H o i v ov iv u Q I ro ri rv h
  rcases h with h | h
  · exact set_list pins s σ H o i v ov iv u Q I ro ri rv h
  · exact set_dict (by omega) pins s σ H o i v ov iv u Q I ro ri rv h
/-- c[lo:hi] -/
def rSlU (K : PySem.W.Frag) : V → Option Int → Option Int → Hp → VK → Prop := fun x lo hi H Q => rSlL K x lo hi H Q ∨ rSlT K x lo hi H Q ∨ rSlS x lo hi H Q
theorem sl_any : SlR X (rSlU X.K) := sl_list.or (sl_tup.or sl_str)
/-- len(c) -/
def rLenU (K : PySem.W.Frag) : List V → Hp → VK → Prop := fun xs H Q => (∃ p ys, xs = [.ref p] ∧ (SqL K H p ys ∨ SqT K H p ys) ∧ Q (.int ys.length) H) ∨ (∃ z, xs = [.str z] ∧ z.length ≤ sizeLine ∧ Q (.int z.length) H) ∨ ∃ a kvs, xs = [.ref a] ∧ Rd H a (.dK kvs) ∧ Q (.int kvs.length) H
theorem call_lenR : CallR X (.builtin "len") (fun xs H Q => ∃ a kvs, xs = [V.ref a] ∧ Rd H a (.dK kvs) ∧ Q (.int kvs.length) H) := by
  intro pins s σ H xs us Q I r h
  obtain ⟨a, kvs, rfl, hd, q⟩ := h
  obtain ⟨u, rfl, rx⟩ := vals1 r
  cases rx
  exact d_len I hd fun t s' I' => ⟨.int _, H, I', ⟨t, rfl⟩, q⟩
theorem call_lenU : CallR X (.builtin "len") (rLenU X.K) := call_len_seq.or (call_len_str.or call_lenR)
/-- list(c) -/
def rListU (K : PySem.W.Frag) : List V → Hp → VK → Prop := fun xs H Q => (∃ p ys, xs = [.ref p] ∧ (SqL K H p ys ∨ SqT K H p ys) ∧ ∀ l, H l = none → Q (.ref l) (upd H l (.lst ys))) ∨
  (∃ (a : Addr) (kvs : List (Key × V)), xs = [.ref a] ∧ Rd H a (.dK kvs) ∧ ∀ p, H p = none → Q (.ref p) (upd H p (.lst (kvs.map fun kv => kV kv.1))))
theorem call_listU (hc : X.calm = true) : CallR X (.type "list") (rListU X.K) := call_list_of.or (call_listD hc)
/-- repr(c) of a tree -/
def rReprT (K : PySem.W.Frag) : List V → Hp → VK → Prop := fun xs H Q => ∃ P a d, xs = [.ref a] ∧ T K H P (.ref a) d ∧ (py d).showable = true ∧ ((py d).hasDict = true → nol d = true) ∧ dep d ≤ 60 ∧ (py d).shown.length ≤ sizeLine ∧ Q (.str (py d).shown) H
theorem call_reprT (hg : X.A.guards = some []) (hu : X.A.units + 64 < cLine) : CallR X (.builtin "repr") (rReprT X.K) := by
  intro pins s σ H xs us Q I r h
  obtain ⟨P, a, d, rfl, ht, hs, hn, hd, hz, q⟩ := h
  obtain ⟨u, rfl, rx⟩ := vals1 r
  cases (show u = Value.ref a from rx)
  obtain ⟨as, r1, na⟩ := T.reads I d _ _ ht rfl
  exact repr_of_reads' r1 hs (fun z => na (hn z)) hg (by rw [depth_py]; omega) (fun _ _ e => e) (fun h' u tk k => ⟨.str _, H, I.kept (t' := tk) k, ⟨u, rfl⟩, q⟩) hz
end
end TU

set_option Elab.async false
set_option linter.all false
set_option maxRecDepth 100000
namespace TU
open PySem PySem.Spec PyProof.Rows L2

/-! ### one of two rules -/
section
variable {X : Cx}
theorem PEor {e : Expr} {t t' : TE} (h : PE X e t) (h' : PE X e t') : PE X e (fun σ H Q => t σ H Q ∨ t' σ H Q) := ⟨fun pins s σ H Q I q => q.elim (h.run pins s σ H Q I) (h'.run pins s σ H Q I)⟩
theorem PSor {e : Stmt} {t t' : TS} (h : PS X e t) (h' : PS X e t') : PS X e (fun D σ H => t D σ H ∨ t' D σ H) := ⟨fun pins s σ H Q I q => q.elim (h.run pins s σ H Q I) (h'.run pins s σ H Q I)⟩
theorem PIor {tg e : Expr} {t t' : TI} (h : PI X tg e t) (h' : PI X tg e t') : PI X tg e (fun σ H R => t σ H R ∨ t' σ H R) := ⟨fun pins s σ H Q I q => q.elim (h.run pins s σ H Q I) (h'.run pins s σ H Q I)⟩
/-- what a for walks: a list, a tuple, a dict that is locked -/
def iAny (K : PySem.W.Frag) (te : TE) : TI := fun σ H R => iList K te σ H R ∨ iTup K te σ H R ∨ iKeys te σ H R
theorem pi_any {tg e : Expr} {te : TE} (h : PE X e te) : PI X tg e (iAny X.K te) := PIor (pi_list h) (PIor (pi_tup h) (pi_keys h))
/-- .. the dict locked here -/
def tLockU (t : TS) : TS := fun D σ H => t D σ H ∨ tLock t D σ H
theorem ps_lockU {e : Stmt} {t : TS} (h : PS X e t) : PS X e (tLockU t) := PSor h (ps_lock h)
def tLockEU (t : TE) : TE := fun σ H Q => t σ H Q ∨ tLockE t σ H Q
theorem pe_lockU {e : Expr} {t : TE} (h : PE X e t) : PE X e (tLockEU t) := PEor h (pe_lock h)
end

/-! ### a def of the text, called -/
structure Df (P : Program) (w : World) (K : PySem.W.Frag) (mg : Str → Option Value) (base : Heap) (x : Str) (ps : List Str) (k : Nat) (sp : Sp) : Prop where
  ex : ∃ f fd, FnOk P w K mg base (L2.CX P w) k f fd ps sp ∧ mg x = some (.ref f) ∧ PySem.W.keepIn K (.ref f) = true ∧ Binds K fd ps []
structure TopF (K : PySem.W.Frag) (mg : Str → Option Value) (x : Str) (st : Stmt) (ps : List Str) : Prop where
  ex : ∃ f fd, Fun K x x st f fd ∧ mg x = some (.ref f) ∧ Binds K fd ps []
section
variable {P : Program} {w : World} {K : PySem.W.Frag} {mg : Str → Option Value} {base : Heap}
theorem TopF.df {x : Str} {st : Stmt} {N ps : List Str} {k : Nat} {sp : Sp} (F : TopF K mg x st ps) (S : FnScope N ps (defScope st)) (len : ∀ vs H Q E, sp vs H Q E → vs.length = ps.length)
    (hbody : ∀ (f : Addr) (cdv : Value) (A : Around) (outer : List Env) (s : Shared) (H : Hp) (vs : List V) (Q : VK) (E : XK), Room k (A.deeper (envOfC x (defScope st) s.heap.objs.size f cdv)) → sp vs H Q E →
      ∃ t, PSs (cxOf (L2.CX P w) P w K mg base N x (defScope st) f cdv A outer s H E) (defBody st) t ∧ t { nx := fun _ H' => Q .non H', rt := Q } (start N vs) H) : Df P w K mg base x ps (k + 1) sp := by
  obtain ⟨f, fd, F0, hm, hb⟩ := F.ex
  exact ⟨f, fd, F0.okX S len fun cdv A outer s H vs Q E hr h => hbody f cdv A outer s H vs Q E hr h, hm, F0.kp, hb⟩
theorem Df.imp {x : Str} {ps : List Str} {k : Nat} {sp sp' : Sp} (F : Df P w K mg base x ps k sp) (h : ∀ vs H Q E, sp' vs H Q E → sp vs H Q E) : Df P w K mg base x ps k sp' := by
  obtain ⟨f, fd, F0, r⟩ := F.ex
  exact ⟨f, fd, F0.imp h, r⟩
end
section
variable {X : Cx} {k : Nat} {ps : List Str} {sp : Sp} {x : Str} {p pos : Pos} {e : Expr} {es : List Expr} {t : TA} 
/-- its call, where exceptions go on as E says -/
theorem pe_df {E : L2.St → XK} (F : Df X.prog X.w X.K X.mg X.base x ps k sp) (hr : Room k X.A) (hx : ∀ σ, PassesAt (L2.CX X.prog X.w) X σ (E σ)) (ha : PA X (e :: es) t) (hg : Gl X x := by rfl)
    (hdb : (x == ("__debug__" : Str)) = false := by decide) (he : starEach (e :: es) X.env = (false, eval e X.env) :: starEach es X.env := by rfl) (hpl : (backTo pos (starEach es X.env)).any (·.1) = false := by rfl) :
    PE X (.Call (.Name x p) (e :: es) [] pos) (tCallS sp E t) := by
  obtain ⟨f, fd, F0, hm, hk, hb⟩ := F.ex
  exact pe_callS F0 hr hg hm hk hb hx ha hdb he hpl
/-- its call, where nothing is raised -/
theorem pe_df0 (F : Df X.prog X.w X.K X.mg X.base x ps k sp) (hr : Room k X.A) (ha : PA X (e :: es) t) (hg : Gl X x := by rfl)
    (hdb : (x == ("__debug__" : Str)) = false := by decide) (he : starEach (e :: es) X.env = (false, eval e X.env) :: starEach es X.env := by rfl) (hpl : (backTo pos (starEach es X.env)).any (·.1) = false := by rfl) :
    PE X (.Call (.Name x p) (e :: es) [] pos) (tCallS sp (fun _ => E0) t) := by
  obtain ⟨f, fd, F0, hm, hk, hb⟩ := F.ex
  exact pe_callS F0 hr hg hm hk hb (fun _ _ s s' e' H' I h => passL _ _ _ _ _ _ I h) ha hdb he hpl
end

/-! ### readings, step by step -/
section
variable {K : PySem.W.Frag} {σ : L2.St} {H : Hp} {D : Ends} {Q : VK} {te ta tb tk : TE} {t u : TS} {g : TG} {i : Nat} {v : V} {c : TT} {tr : TA}
theorem q_seq (h : t { D with nx := u D } σ H) : tSeq t u D σ H := h
theorem q_asg (h : te σ H fun x H1 => g x σ H1 D.nx) : tAsg te g D σ H := h
theorem q_drop (h : te σ H fun _ H1 => D.nx σ H1) : tDrop te D σ H := h
theorem q_ret (h : te σ H D.rt) : tRet te D σ H := h
theorem q_retN (h : D.rt .non H) : tRetN D σ H := h
theorem q_next (h : D.nx σ H) : tNext D σ H := h
theorem q_if (h : c σ H fun b H1 => if b = true then t D σ H1 else u D σ H1) : tIfS c t u D σ H := h
theorem q_gname {R : L2.St → Hp → Prop} (h : R (σ.set i (some v)) H) : gName i v σ H R := h
theorem q_gsub {to ti : TE} {ts : TSet} {R : L2.St → Hp → Prop} (h : to σ H fun o H1 => ti σ H1 fun i H2 => ts o i v H2 fun H3 => R σ H3) : gSub to ti ts v σ H R := h
theorem q_var (h : σ[i]? = some (some v)) (q : Q v H) : tVar i σ H Q := ⟨v, h, q⟩
theorem q_c (q : Q v H) : tC v σ H Q := q
theorem q_op {r : R2} (h : ta σ H fun x H1 => tb σ H1 fun y H2 => r x y H2 Q) : tOp r ta tb σ H Q := h
theorem q_un {r : V → Hp → VK → Prop} (h : ta σ H fun x H1 => r x H1 Q) : tUn r ta σ H Q := h
theorem q_U {f : Int → V} {a : Int} (q : Q (f a) H) : rU f (.int a) H Q := ⟨a, rfl, q⟩
theorem q_I0 {f : Int → Int → V} {a b : Int} (q : Q (f a b) H) : rI0 f (.int a) (.int b) H Q := ⟨a, b, rfl, rfl, q⟩
theorem q_I {C : Int → Int → Prop} {f : Int → Int → V} {a b : Int} (hc : C a b) (q : Q (f a b) H) : rI C f (.int a) (.int b) H Q := ⟨a, b, rfl, rfl, hc, q⟩
theorem q_test {R : Bool → Hp → Prop} (h : te σ H fun x H' => ∃ k, x = .bl k ∧ R k H') : tTest te σ H R := h
theorem q_tB {R : Bool → Hp → Prop} (h : te σ H fun x H' => ∃ k, x = .bl k ∧ R k H') : tB te σ H R := h
theorem q_bl {b : Bool} {R : Bool → Prop} (h : R b) : ∃ k, V.bl b = V.bl k ∧ R k := ⟨b, rfl, h⟩
theorem q_not {R : Bool → Hp → Prop} (h : c σ H fun b H1 => R (!b) H1) : tNot c σ H R := h
theorem q_and {c' : TT} {R : Bool → Hp → Prop} (h : c σ H fun b H1 => if b = true then c' σ H1 R else R false H1) : tAnd c c' σ H R := h
theorem q_or {c' : TT} {R : Bool → Hp → Prop} (h : c σ H fun b H1 => if b = true then R true H1 else c' σ H1 R) : tOr c c' σ H R := h
theorem q_nil {R : List V → Hp → Prop} (h : R [] H) : tNil σ H R := h
theorem q_cons {R : List V → Hp → Prop} (h : ta σ H fun x H1 => tr σ H1 fun xs H2 => R (x :: xs) H2) : tCons ta tr σ H R := h
theorem q_callS {sp : Sp} {E : L2.St → XK} (h : tr σ H fun vs H1 => sp vs H1 Q (E σ)) : tCallS sp E tr σ H Q := h
theorem q_cb {r : List V → Hp → VK → Prop} (h : tr σ H fun vs H1 => r vs H1 Q) : tCB r tr σ H Q := h
theorem q_tup (h : tr σ H fun xs H1 => xs.length ≤ sizeLine ∧ ∀ p, H1 p = none → Q (.ref p) (upd H1 p (.tup xs))) : tTup tr σ H Q := h
theorem q_lst (h : tr σ H fun xs H1 => xs.length ≤ sizeLine ∧ ∀ p, H1 p = none → Q (.ref p) (upd H1 p (.lst xs))) : tLst tr σ H Q := h
theorem q_ifE (h : c σ H fun b H1 => if b = true then ta σ H1 Q else tb σ H1 Q) : tIf c ta tb σ H Q := h
theorem q_notV (h : ta σ H fun x H1 => ∃ c, x = .bl c ∧ Q (.bl (!c)) H1) : tNotV ta σ H Q := h
theorem q_andV (h : ta σ H fun x H1 => ∃ c, x = .bl c ∧ if c = true then tb σ H1 Q else Q (.bl false) H1) : tAndV ta tb σ H Q := h
theorem q_orV (h : ta σ H fun x H1 => ∃ c, x = .bl c ∧ if c = true then Q (.bl true) H1 else tb σ H1 Q) : tOrV ta tb σ H Q := h
theorem q_dnew (h : ∀ p, H p = none → Q (.ref p) (upd H p (.dK []))) : tDNewK σ H Q := h
theorem q_bm {T : String} {r : V → List V → Hp → VK → Prop} (h : ta σ H fun x H1 => tyV K T x H1 ∧ tr σ H1 fun xs H2 => r x xs H2 Q) : tBM K T r ta tr σ H Q := h
theorem q_size {n : Nat} {R : Prop} (h : n ≤ 1000) (r : R) : n ≤ sizeLine ∧ R := ⟨Nat.le_trans h (by decide), r⟩
/-- tests whose answer is known, or not -/
theorem q_t {A B : Prop} (h : A) : if true = true then A else B := by
  rw [if_pos rfl]
  exact h
theorem q_f {A B : Prop} (h : B) : if false = true then A else B := by
  rw [if_neg Bool.false_ne_true]
  exact h
theorem q_ite {b : Bool} {A B : Prop} (h1 : b = true → A) (h2 : b = false → B) : if b = true then A else B := by
  cases b with
  | true => exact q_t (h1 rfl)
  | false => exact q_f (h2 rfl)
theorem q_dec {p : Prop} [Decidable p] {A B : Prop} (h1 : p → A) (h2 : ¬ p → B) : if decide p = true then A else B := by
  by_cases h : p
  · rw [decide_eq_true h]
    exact q_t (h1 h)
  · rw [decide_eq_false h]
    exact q_f (h2 h)
theorem q_ndec {p : Prop} [Decidable p] {A B : Prop} (h1 : ¬ p → A) (h2 : p → B) : if (!decide p) = true then A else B := by
  by_cases h : p
  · rw [decide_eq_true h]
    exact q_f (h2 h)
  · rw [decide_eq_false h]
    exact q_t (h1 h)
/-! the operators -/
theorem q_eqI {a b : Int} (q : Q (.bl (decide (a = b))) H) : rEqU K (.int a) (.int b) H Q := .inl ⟨rfl, by
  have e : decide (V.int a = V.int b) = decide (a = b) := by simp
  rw [e]
  exact q⟩
theorem q_eqS {a b : Str} (q : Q (.bl (decide (a = b))) H) : rEqU K (.str a) (.str b) H Q := .inl ⟨rfl, by
  have e : decide (V.str a = V.str b) = decide (a = b) := by simp
  rw [e]
  exact q⟩
theorem q_eqB {a b : Bool} (q : Q (.bl (decide (a = b))) H) : rEqU K (.bl a) (.bl b) H Q := .inl ⟨rfl, by
  have e : decide (V.bl a = V.bl b) = decide (a = b) := by simp
  rw [e]
  exact q⟩
theorem q_neI {a b : Int} (q : Q (.bl (!decide (a = b))) H) : rNeU K (.int a) (.int b) H Q := .inl ⟨rfl, by
  have e : decide (V.int a = V.int b) = decide (a = b) := by simp
  rw [e]
  exact q⟩
theorem q_neS {a b : Str} (q : Q (.bl (!decide (a = b))) H) : rNeU K (.str a) (.str b) H Q := .inl ⟨rfl, by
  have e : decide (V.str a = V.str b) = decide (a = b) := by simp
  rw [e]
  exact q⟩
theorem q_eqT {P : Addr → Prop} {x y : V} {d e : Tr} (hd : T K H P x d) (he : T K H P y e) (nd : nod d = true) (ne : nod e = true) (hn : dep d ≤ 60) (q : Q (.bl (eqb d e)) H) : rEqU K x y H Q := .inr (.inl ⟨P, d, e, hd, he, nd, ne, hn, q⟩)
theorem q_neT {P : Addr → Prop} {x y : V} {d e : Tr} (hd : T K H P x d) (he : T K H P y e) (nd : nod d = true) (ne : nod e = true) (hn : dep d ≤ 60) (q : Q (.bl (!eqb d e)) H) : rNeU K x y H Q := .inr (.inl ⟨P, d, e, hd, he, nd, ne, hn, q⟩)
theorem q_eqK {P : Addr → Prop} {a b : Addr} {vk vl : List (Key × V)} {ks ls : List (Key × Tr)} (ha : Rd H a (.dK vk)) (hb : Rd H b (.dK vl)) (ta : Tk K H P vk ks) (tb : Tk K H P vl ls) (na : ∀ p ∈ ks, nod p.2 = true ∧ dep p.2 ≤ 60) (nb : ∀ p ∈ ls, nod p.2 = true)
    (q : Q (.bl (eqk ks ls)) H) : rEqU K (.ref a) (.ref b) H Q := .inr (.inr ⟨P, a, b, vk, vl, ks, ls, rfl, rfl, ha, hb, ta, tb, na, nb, q⟩)
theorem q_neK {P : Addr → Prop} {a b : Addr} {vk vl : List (Key × V)} {ks ls : List (Key × Tr)} (ha : Rd H a (.dK vk)) (hb : Rd H b (.dK vl)) (ta : Tk K H P vk ks) (tb : Tk K H P vl ls) (na : ∀ p ∈ ks, nod p.2 = true ∧ dep p.2 ≤ 60) (nb : ∀ p ∈ ls, nod p.2 = true)
    (q : Q (.bl (!eqk ks ls)) H) : rNeU K (.ref a) (.ref b) H Q := .inr (.inr ⟨P, a, b, vk, vl, ks, ls, rfl, rfl, ha, hb, ta, tb, na, nb, q⟩)
theorem dget_rd {a : Addr} {kvs : List (Key × V)} {k : Key} (e : Rd H a (.dK kvs)) : DGet H a (kV k) (valV kvs k) := .inl ⟨kvs, k, e, rfl, rfl⟩
theorem q_inD {a : Addr} {kvs : List (Key × V)} (k : Key) (e : Rd H a (.dK kvs)) (q : Q (.bl (valV kvs k).isSome) H) : rInU false K (kV k) (.ref a) H Q := .inl ⟨a, _, rfl, dget_rd e, q⟩
theorem q_ninD {a : Addr} {kvs : List (Key × V)} (k : Key) (e : Rd H a (.dK kvs)) (q : Q (.bl (!(valV kvs k).isSome)) H) : rInU true K (kV k) (.ref a) H Q := .inl ⟨a, _, rfl, dget_rd e, q⟩
theorem q_ixL {p : Addr} {xs : List V} {i : Int} (h : SqL K H p xs) (hi : atI xs i = some v) (q : Q v H) : rIxU K (.ref p) (.int i) H Q := .inl ⟨p, xs, i, v, rfl, rfl, h, hi, q⟩
theorem q_ixT {p : Addr} {xs : List V} {i : Int} (h : SqT K H p xs) (hi : atI xs i = some v) (q : Q v H) : rIxU K (.ref p) (.int i) H Q := .inr (.inl ⟨p, xs, i, v, rfl, rfl, h, hi, q⟩)
theorem q_ixK {a : Addr} {kvs : List (Key × V)} (k : Key) (e : Rd H a (.dK kvs)) (hv : valV kvs k = some v) (q : Q v H) : rIxU K (.ref a) (kV k) H Q := .inr (.inr (.inr ⟨a, v, rfl, by
  have g := dget_rd (k := k) e
  rw [hv] at g
  exact g, q⟩))
theorem q_setL {p : Addr} {xs : List V} {i : Int} {j : Nat} {R : Hp → Prop} (h : H p = some (.lst xs)) (hi : ixN xs.length i = some j) (q : R (upd H p (.lst (xs.set j v)))) : rSetU (.ref p) (.int i) v H R := .inl ⟨p, xs, i, j, rfl, rfl, h, hi, q⟩
theorem q_setD {a : Addr} {kvs : List (Key × V)} {R : Hp → Prop} (k : Key) (e : H a = some (.dK kvs)) (hl : kvs.length < sizeLine) (q : R (upd H a (.dK (putK kvs k v)))) : rSetU (.ref a) (kV k) v H R := .inr ⟨a, _, rfl, DPut.k e hl, q⟩
theorem q_lenL {p : Addr} {ys : List V} (h : SqL K H p ys) (q : Q (.int ys.length) H) : rLenU K [.ref p] H Q := .inl ⟨p, ys, rfl, .inl h, q⟩
theorem q_lenT {p : Addr} {ys : List V} (h : SqT K H p ys) (q : Q (.int ys.length) H) : rLenU K [.ref p] H Q := .inl ⟨p, ys, rfl, .inr h, q⟩
theorem q_lenK {p : Addr} {kvs : List (Key × V)} (h : Rd H p (.dK kvs)) (q : Q (.int kvs.length) H) : rLenU K [.ref p] H Q := .inr (.inr ⟨p, kvs, rfl, h, q⟩)
theorem q_listL {p : Addr} {ys : List V} (h : SqL K H p ys) (q : ∀ l, H l = none → Q (.ref l) (upd H l (.lst ys))) : rListU K [.ref p] H Q := .inl ⟨p, ys, rfl, .inl h, q⟩
theorem q_listT {p : Addr} {ys : List V} (h : SqT K H p ys) (q : ∀ l, H l = none → Q (.ref l) (upd H l (.lst ys))) : rListU K [.ref p] H Q := .inl ⟨p, ys, rfl, .inr h, q⟩
theorem q_listK {p : Addr} {kvs : List (Key × V)} (h : Rd H p (.dK kvs)) (q : ∀ l, H l = none → Q (.ref l) (upd H l (.lst (kvs.map fun kv => kV kv.1)))) : rListU K [.ref p] H Q := .inr ⟨p, kvs, rfl, h, q⟩
theorem q_append {l : Addr} {xs : List V} {y : V} (h : H l = some (.lst xs)) (hl : xs.length < sizeLine) (q : Q .non (upd H l (.lst (xs ++ [y])))) : rAppend (.ref l) [y] H Q := ⟨l, xs, y, rfl, rfl, h, hl, q⟩
theorem tyL {p : Addr} {xs : List V} {R : Prop} (h : H p = some (.lst xs)) (r : R) : tyV K "list" (.ref p) H ∧ R := ⟨.inl ⟨rfl, xs, .inl (.inl h)⟩, r⟩
theorem q_sl {r : V → Option Int → Option Int → Hp → VK → Prop} {tl th : TO} (h : te σ H fun x H1 => tl σ H1 fun l H2 => th σ H2 fun u H3 => r x l u H3 Q) : tSl r te tl th σ H Q := h
theorem q_part {R : Option Int → Hp → Prop} (h : te σ H fun x H1 => ∃ i, x = .int i ∧ R (some i) H1) : tPart te σ H R := h
theorem q_nopart {R : Option Int → Hp → Prop} (h : R none H) : tNoPart σ H R := h
theorem q_int {a : Int} {R : Int → Prop} (h : R a) : ∃ i, V.int a = V.int i ∧ R i := ⟨a, rfl, h⟩
theorem q_slL {p : Addr} {xs : List V} {lo hi : Option Int} (h : SqL K H p xs) (q : ∀ l, H l = none → Q (.ref l) (upd H l (.lst (cutV xs lo hi)))) : rSlU K (.ref p) lo hi H Q := .inl ⟨p, xs, rfl, h, q⟩
/-! loops -/
def forB (J : It) (g : TG) (tb : TS) (D : Ends) (σ : L2.St) (H : Hp) : Prop := ∃ W : Nat → Nat → L2.St → Hp → Prop, (∃ m, W 0 m σ H) ∧ ∀ i m σ H, W i m σ H →
      (J.stop i H ∧ D.nx σ H) ∨ (J.go i H ∧ ∃ N : L2.St → Hp → Prop, (∀ σ' H', N σ' H' → ∃ m', m' < m ∧ W (i + 1) m' σ' H') ∧ ∀ x H', J.yld i H x H' → g x σ H' fun σ2 H2 => tb { D with nx := N, ct := N, bk := D.nx } σ2 H2)
theorem q_for {wi : TI} {tb : TS} (h : wi σ H fun J H1 => forB J g tb D σ H1) : tFor wi g tb D σ H := h
theorem q_anyL {R : It → Hp → Prop} {a : Addr} {xs : List V} (h : te σ H fun x H1 => x = .ref a ∧ SqL K H1 a xs ∧ R (Itl K a) H1) (hm : ∀ Q Q' : VK, (∀ x H1, Q x H1 → Q' x H1) → te σ H Q → te σ H Q') : iAny K te σ H R :=
  .inl (hm _ _ (fun x H1 ⟨e, s, r⟩ => ⟨a, e, ⟨xs, s⟩, r⟩) h)
theorem q_iL {R : It → Hp → Prop} (h : te σ H fun x H1 => ∃ a, x = .ref a ∧ (∃ xs, SqL K H1 a xs) ∧ R (Itl K a) H1) : iAny K te σ H R := .inl h
theorem q_iT {R : It → Hp → Prop} (h : te σ H fun x H1 => ∃ a, x = .ref a ∧ (∃ xs, SqT K H1 a xs) ∧ R (Itt K a) H1) : iAny K te σ H R := .inr (.inl h)
theorem q_iK {R : It → Hp → Prop} (h : te σ H fun x H1 => ∃ d o kvs, x = .ref d ∧ H1 d = some (.frz o (.dK kvs)) ∧ R (Itk d o kvs) H1) (hm : ∀ Q Q' : VK, (∀ x H1, Q x H1 → Q' x H1) → te σ H Q → te σ H Q') : iAny K te σ H R :=
  .inr (.inr (hm _ _ (fun x H1 ⟨d, o, kvs, e, s, r⟩ => ⟨d, o, e, .inl ⟨kvs, s, r⟩⟩) h))
theorem for_any {J : It} {n : Nat} {G : Hp → Prop} {Y : Nat → Hp → V → Hp → Prop} {tb : TS} (w : Walk J n G Y) (Pv : Nat → L2.St → Hp → Prop) (h0 : Pv 0 σ H) (hG : ∀ i σ H, i ≤ n → Pv i σ H → G H)
    (hs : ∀ i x σ H H', i < n → Pv i σ H → Y i H x H' → g x σ H' fun σ2 H2 => tb { D with nx := Pv (i + 1), ct := Pv (i + 1), bk := D.nx } σ2 H2) (hd : ∀ σ H, Pv n σ H → D.nx σ H) : forB J g tb D σ H := for_it w Pv h0 hG hs hd
/-- over a list's items, the target in slot j -/
theorem for_lst {a : Addr} {xs : List V} {tb : TS} {j : Nat} (Pv : Nat → L2.St → Hp → Prop) (hx : ∀ i σ H, i ≤ xs.length → Pv i σ H → SqL K H a xs) (h0 : Pv 0 σ H)
    (hs : ∀ i x σ H, xs[i]? = some x → Pv i σ H → tb { D with nx := Pv (i + 1), ct := Pv (i + 1), bk := D.nx } (σ.set j (some x)) H) (hd : ∀ σ H, Pv xs.length σ H → D.nx σ H) (hs0 : SqL K H a xs) :
    ∃ b, V.ref a = V.ref b ∧ (∃ xs, SqL K H b xs) ∧ forB (Itl K b) (gName j) tb D σ H :=
  ⟨a, rfl, ⟨xs, hs0⟩, for_any walk_list Pv h0 hx (fun i x σ H H' _ p y => by
    obtain ⟨e, y⟩ := y
    subst e
    exact hs i x σ _ y p) hd⟩
/-- over a range's ints -/
theorem for_rng {lo : Int} {n : Nat} {tb : TS} {j : Nat} (Pv : Nat → L2.St → Hp → Prop) (h0 : Pv 0 σ H)
    (hs : ∀ (i : Nat) σ H, i < n → Pv i σ H → tb { D with nx := Pv (i + 1), ct := Pv (i + 1), bk := D.nx } (σ.set j (some (.int (lo + i)))) H) (hd : ∀ σ H, Pv n σ H → D.nx σ H) : forB (Itr lo n) (gName j) tb D σ H :=
  for_any walk_range Pv h0 (fun _ _ _ _ _ => trivial) (fun i x σ H H' hi p y => by
    obtain ⟨e, y⟩ := y
    subst e
    rw [y]
    exact hs i σ _ hi p) hd
/-- over a locked dict's keys -/
theorem for_keys {d : Addr} {o : Obj} {kvs : List (Key × V)} {tb : TS} {j : Nat} (Pv : Nat → L2.St → Hp → Prop) (hx : ∀ i σ H, i ≤ kvs.length → Pv i σ H → H d = some (.frz o (.dK kvs))) (h0 : Pv 0 σ H)
    (hs : ∀ i k v σ H, kvs[i]? = some (k, v) → Pv i σ H → tb { D with nx := Pv (i + 1), ct := Pv (i + 1), bk := D.nx } (σ.set j (some (kV k))) H) (hd : ∀ σ H, Pv kvs.length σ H → D.nx σ H) : forB (Itk d o kvs) (gName j) tb D σ H :=
  for_any walk_keys Pv h0 hx (fun i x σ H H' _ p y => by
    obtain ⟨e, k, v, y, z⟩ := y
    subst e
    rw [z]
    exact hs i k v σ _ y p) hd
end
end TU

set_option Elab.async false
set_option linter.all false
set_option maxRecDepth 100000
namespace TU
open PySem PySem.Spec PyProof.Rows L2

/-! ### own errors with fields -/
/-- __init__ of an error's class: the fields are the arguments -/
def spXI (C : Addr) (fs : List Str) : Sp := fun vs H Q _ => ∃ (a : Addr) (us : List V), vs = .ref a :: us ∧ us.length = fs.length ∧ H a = some (exo a C none) ∧
  ∀ (dx : Addr) (H' : Hp), H dx = none → dx ≠ a → (∀ b o, b ≠ a → H b = some o → H' b = some o) → H' a = some (exo a C (some dx)) → H' dx = some (exd dx (fs.zip us).reverse) → Q .non H'
/-- what is known of an error's class -/
structure Xc (P : Program) (w : World) (K : PySem.W.Frag) (mg : Str → Option Value) (base : Heap) (x : Str) (fs : List Str) (C : Addr) : Prop where
  T : OexC K C
  xf : XfC K C
  g : mg x = some (.ref C)
  no : ∀ f ∈ fs, PySem.W.findIn K (.ref C) f = some none
  te : PySem.W.exmOne K (.ref C) (.ref C) = some true
  ini : ∃ fI fd, PySem.W.findIn K (.ref C) "__init__" = some (some (.ref fI)) ∧ PySem.W.typeIn K (.ref fI) = some (.type "function") ∧ FnOk P w K mg base (L2.CX P w) 1 fI fd ("self" :: fs) (spXI C fs) ∧ Binds K fd ("self" :: fs) []
section
variable {P : Program} {w : World} {K : PySem.W.Frag} {mg : Str → Option Value} {base : Heap}
theorem ok_init1 {qual f1 : Str} {st : Stmt} {f C : Addr} {fd : FuncData} {p1 p2 p3 p4 : Pos} (F : Fun K "__init__" qual st f fd) (S : FnScope ["self", f1] ["self", f1] (defScope st)) (hb : defBody st = [.Assign [.Attribute (.Name "self" p1) f1 p2] (.Name f1 p3) p4])
    (T : OexC K C) (n1 : PySem.W.findIn K (.ref C) f1 = some none) (d1 : (f1 == ("__debug__" : Str)) = false) (d2 : (f1 == ("__classdict__" : Str)) = false) (v0 : Vis (defScope st) "self") (v1 : Vis (defScope st) f1) : FnOk P w K mg base (L2.CX P w) 1 f fd ["self", f1] (spXI C [f1]) := by
  refine F.okX S (fun vs H Q E h => ?_) (fun cdv A outer s H vs Q E hr h => ?_)
  · obtain ⟨a, us, rfl, hl, _⟩ := h
    simpa using hl
  · obtain ⟨a, us, rfl, hl, ha, k⟩ := h
    obtain ⟨y, rfl⟩ : ∃ y, us = [y] := List.length_eq_one_iff.mp hl
    rw [hb]
    refine ⟨_, pss_one (ps_ost (pv 0 (hv := v0)) (pv 1 (hv := v1) (hd := d1) (hcd := d2))), ?_⟩
    refine ⟨y, rfl, .ref a, rfl, a, C, rfl, T, n1, .inl ⟨ha, fun dx hn hne => ?_⟩⟩
    exact k dx _ hn hne (fun b o hb e => by rw [upd_ne hb, upd_ne (ne_of_none e hn)]; exact e) upd_same (by rw [upd_ne hne, upd_same]; rfl)
theorem ok_init2 {qual f1 f2 : Str} {st : Stmt} {f C : Addr} {fd : FuncData} {p1 p2 p3 p4 q1 q2 q3 q4 : Pos} (F : Fun K "__init__" qual st f fd) (S : FnScope ["self", f1, f2] ["self", f1, f2] (defScope st))
    (hb : defBody st = [.Assign [.Attribute (.Name "self" p1) f1 p2] (.Name f1 p3) p4, .Assign [.Attribute (.Name "self" q1) f2 q2] (.Name f2 q3) q4])
    (T : OexC K C) (n1 : PySem.W.findIn K (.ref C) f1 = some none) (n2 : PySem.W.findIn K (.ref C) f2 = some none) (d1 : (f1 == ("__debug__" : Str)) = false) (d2 : (f1 == ("__classdict__" : Str)) = false) (e1 : (f2 == ("__debug__" : Str)) = false) (e2 : (f2 == ("__classdict__" : Str)) = false)
    (v0 : Vis (defScope st) "self") (v1 : Vis (defScope st) f1) (v2 : Vis (defScope st) f2) : FnOk P w K mg base (L2.CX P w) 1 f fd ["self", f1, f2] (spXI C [f1, f2]) := by
  refine F.okX S (fun vs H Q E h => ?_) (fun cdv A outer s H vs Q E hr h => ?_)
  · obtain ⟨a, us, rfl, hl, _⟩ := h
    simpa using hl
  · obtain ⟨a, us, rfl, hl, ha, k⟩ := h
    obtain ⟨y, z, rfl⟩ : ∃ y z, us = [y, z] := by
      match us, hl with
      | [y, z], _ => exact ⟨y, z, rfl⟩
    rw [hb]
    refine ⟨_, pss_cons (ps_ost (pv 0 (hv := v0)) (pv 1 (hv := v1) (hd := d1) (hcd := d2))) (pss_one (ps_ost (pv 0 (hv := v0)) (pv 2 (hv := v2) (hd := e1) (hcd := e2)))), ?_⟩
    refine ⟨y, rfl, .ref a, rfl, a, C, rfl, T, n1, .inl ⟨ha, fun dx hn hne => ?_⟩⟩
    refine ⟨z, rfl, .ref a, rfl, a, C, rfl, T, n2, .inr ⟨dx, [(f1, y)], upd_same, by rw [upd_ne hne, upd_same], (by show 1 ≤ 900; decide), ?_⟩⟩
    exact k dx _ hn hne (fun b o hb e => by rw [upd_ne (ne_of_none e hn), upd_ne hb, upd_ne (ne_of_none e hn)]; exact e) (by rw [upd_ne (Ne.symm hne), upd_same]) (by rw [upd_same]; rfl)
end
section
variable {X : Cx} {C : Addr} {x : Str} {fs : List Str} {p pos : Pos} {e : Expr} {es : List Expr} {ta : TA}
/-- x(e, ..) is made, to be raised -/
theorem pmk_xc (T : Xc X.prog X.w X.K X.mg X.base x fs C) (hr : Room 2 X.A) (ha : PA X (e :: es) ta) (hg : Gl X x := by rfl)
    (hdb : (x == ("__debug__" : Str)) = false := by decide) (he : starEach (e :: es) X.env = (false, eval e X.env) :: starEach es X.env := by rfl) (hpl : (backTo pos (starEach es X.env)).any (·.1) = false := by rfl) :
    PMk X (.Call (.Name x p) (e :: es) [] pos) (tMkO C (spXI C fs) [] ta) := by
  obtain ⟨fI, fd, iC, tI, F1, hb⟩ := T.ini
  exact pmk_oex T.T iC tI F1 hr hb .nil (fun _ _ _ _ _ _ I h => passL _ _ _ _ _ _ I h) hg T.g ha hdb he hpl
/-- raise x(e, ..) -/
def tRz (C : Addr) (fs : List Str) (W : WX) (ta : TA) : TS := fun _ σ H => tMkO C (spXI C fs) [] ta σ H fun cls d H' => W cls d σ H'
theorem ps_rz {W : WX} {pos2 : Pos} (hc : X.calm = true) (T : Xc X.prog X.w X.K X.mg X.base x fs C) (hr : Room 2 X.A) (tk : Takes X W) (ha : PA X (e :: es) ta) (hg : Gl X x := by rfl)
    (hdb : (x == ("__debug__" : Str)) = false := by decide) (he : starEach (e :: es) X.env = (false, eval e X.env) :: starEach es X.env := by rfl) (hpl : (backTo pos (starEach es X.env)).any (·.1) = false := by rfl) :
    PS X (.Raise (some (.Call (.Name x p) (e :: es) [] pos)) none pos2) (tRz C fs W ta) := ps_raise hc tk (pmk_xc T hr ha hg hdb he hpl)
def mkB (C : Addr) (fs : List Str) (us : List V) (H1 : Hp) (Q : XK) : Prop := us.length ≤ 1000 ∧ ∀ a, H1 a = none → spXI C fs (.ref a :: (us ++ [])) (upd H1 a (exo a C none)) (fun v H2 => v = .non ∧ ∃ (d : Addr) (fs : List (Str × V)), H2 a = some (exo a C (some d)) ∧ H2 d = some (exd d fs) ∧ H1 d = none ∧ Q (.ref C) (some d) (upd (del H2 a) d (.xd fs))) (fun _ _ _ => False)
theorem q_rz {W : WX} {D : Ends} {σ : L2.St} {H : Hp} (h : ta σ H fun us H1 => mkB C fs us H1 fun cls d H' => W cls d σ H') : tRz C fs W ta D σ H := h
theorem q_mk {us : List V} {H1 : Hp} {Q : XK} (h1 : us.length = fs.length) (k : ∀ d H', Same H1 H' → H1 d = none → H' d = some (.xd (fs.zip us).reverse) → Q (.ref C) (some d) H') (h2 : fs.length ≤ 1000 := by decide) : mkB C fs us H1 Q := by
  refine ⟨by rw [h1]; exact h2, fun a na => ?_⟩
  refine ⟨a, us, by rw [List.append_nil], h1, upd_same, fun dx H' hn hne hk ha hd => ?_⟩
  rw [upd_ne hne] at hn
  refine ⟨rfl, dx, _, ha, hd, hn, ?_⟩
  refine k dx _ (fun b o e => ?_) hn upd_same
  have hba : b ≠ a := ne_of_none e na
  rw [upd_ne (ne_of_none e hn), del_ne hba]
  exact hk b o hba (by rw [upd_ne hba]; exact e)
end
end TU

set_option Elab.async false
set_option linter.all false
set_option maxRecDepth 100000
namespace TU
open PySem PySem.Spec PyProof.Rows L2

section
variable {K : PySem.W.Frag} {σ : L2.St} {H H1 : Hp} {Q : VK} {te tk tv : TE} {g : TG} {tt : TT} {sl : List Nat} {wi : TI} {J : It} {n : Nat} {G : Hp → Prop} {Y : Nat → Hp → V → Hp → Prop} {d : Addr}
/-- the turns of a dict comprehension -/
def dcB (J : It) (g : TG) (tt : TT) (tk tv : TE) (sl : List Nat) (σ : L2.St) (H1 : Hp) (d : Addr) (Q : VK) : Prop := ∃ W : Nat → Nat → Hp → Prop, (∃ m, W 0 m (upd H1 d (.dK []))) ∧ ∀ i m H, W i m H →
  (J.stop i H ∧ Q (.ref d) H) ∨ (J.go i H ∧ ∃ Nx : Hp → Prop, (∀ H', Nx H' → ∃ m', m' < m ∧ W (i + 1) m' H') ∧ ∀ x H', J.yld i H x H' → g x (wipe σ sl) H' fun σ2 H2 => wipe σ2 sl = wipe σ sl ∧ tt σ2 H2 fun b H3 =>
    if b = true then tk σ2 H3 fun y H4 => tv σ2 H4 fun z H5 => ∃ kvs k, y = kV k ∧ H5 d = some (.dK kvs) ∧ kvs.length < sizeLine ∧ Nx (upd H5 d (.dK (putK kvs k z))) else Nx H3)
theorem q_dc (h : wi σ H fun J H1 => ∀ d, H1 d = none → dcB J g tt tk tv sl σ H1 d Q) : tDc wi g tt tk tv sl σ H Q := h
theorem dc_any (w : Walk J n G Y) (Pv : Nat → Hp → Prop) (h0 : Pv 0 (upd H1 d (.dK []))) (hG : ∀ i H, i ≤ n → Pv i H → G H)
    (hs : ∀ i x H H', i < n → Pv i H → Y i H x H' → g x (wipe σ sl) H' fun σ2 H2 => wipe σ2 sl = wipe σ sl ∧ tt σ2 H2 fun b H3 =>
      if b = true then tk σ2 H3 fun y H4 => tv σ2 H4 fun z H5 => ∃ kvs k, y = kV k ∧ H5 d = some (.dK kvs) ∧ kvs.length < sizeLine ∧ Pv (i + 1) (upd H5 d (.dK (putK kvs k z))) else Pv (i + 1) H3) (hd : ∀ H, Pv n H → Q (.ref d) H) : dcB J g tt tk tv sl σ H1 d Q := by
  refine ⟨fun i m H => m + i = n ∧ Pv i H, ⟨n, Nat.add_zero n, h0⟩, fun i m H p => ?_⟩
  obtain ⟨e, p⟩ := p
  have hi : i ≤ n := by omega
  have q := hG i H hi p
  rcases Nat.lt_or_ge i n with lt | ge
  · exact .inr ⟨w.goes i H lt q, Pv (i + 1), fun H' p' => ⟨m - 1, by omega, by omega, p'⟩, fun x H' y => hs i x H H' lt p (w.yields i H x H' lt q y)⟩
  · obtain rfl : i = n := Nat.le_antisymm hi ge
    exact .inl ⟨w.stops H q, hd H p⟩
/-- the turns of a list comprehension -/
def lcB (J : It) (g : TG) (tt : TT) (te : TE) (sl : List Nat) (σ : L2.St) (H1 : Hp) (d : Addr) (Q : VK) : Prop := ∃ W : Nat → Nat → Hp → Prop, (∃ m, W 0 m (upd H1 d (.lst []))) ∧ ∀ i m H, W i m H →
  (J.stop i H ∧ Q (.ref d) H) ∨ (J.go i H ∧ ∃ Nx : Hp → Prop, (∀ H', Nx H' → ∃ m', m' < m ∧ W (i + 1) m' H') ∧ ∀ x H', J.yld i H x H' → g x (wipe σ sl) H' fun σ2 H2 => wipe σ2 sl = wipe σ sl ∧ tt σ2 H2 fun b H3 =>
    if b = true then te σ2 H3 fun y H4 => ∃ acc, H4 d = some (.lst acc) ∧ acc.length < sizeLine ∧ Nx (upd H4 d (.lst (acc ++ [y]))) else Nx H3)
theorem q_lc (h : wi σ H fun J H1 => ∀ d, H1 d = none → lcB J g tt te sl σ H1 d Q) : tLc wi g tt te sl σ H Q := h
theorem lc_any (w : Walk J n G Y) (Pv : Nat → Hp → Prop) (h0 : Pv 0 (upd H1 d (.lst []))) (hG : ∀ i H, i ≤ n → Pv i H → G H)
    (hs : ∀ i x H H', i < n → Pv i H → Y i H x H' → g x (wipe σ sl) H' fun σ2 H2 => wipe σ2 sl = wipe σ sl ∧ tt σ2 H2 fun b H3 =>
      if b = true then te σ2 H3 fun y H4 => ∃ acc, H4 d = some (.lst acc) ∧ acc.length < sizeLine ∧ Pv (i + 1) (upd H4 d (.lst (acc ++ [y]))) else Pv (i + 1) H3) (hd : ∀ H, Pv n H → Q (.ref d) H) : lcB J g tt te sl σ H1 d Q := by
  refine ⟨fun i m H => m + i = n ∧ Pv i H, ⟨n, Nat.add_zero n, h0⟩, fun i m H p => ?_⟩
  obtain ⟨e, p⟩ := p
  have hi : i ≤ n := by omega
  have q := hG i H hi p
  rcases Nat.lt_or_ge i n with lt | ge
  · exact .inr ⟨w.goes i H lt q, Pv (i + 1), fun H' p' => ⟨m - 1, by omega, by omega, p'⟩, fun x H' y => hs i x H H' lt p (w.yields i H x H' lt q y)⟩
  · obtain rfl : i = n := Nat.le_antisymm hi ge
    exact .inl ⟨w.stops H q, hd H p⟩
theorem q_yes {R : Bool → Hp → Prop} (h : R true H) : tYes σ H R := h
end
end TU

set_option Elab.async false
set_option linter.all false
set_option maxRecDepth 100000
namespace TU
open PySem PySem.Spec PyProof.Rows L2

/-- no global hides a built-in -/
structure Bt (mg : Str → Option Value) : Prop where
  b_len : mg "len" = none
  b_abs : mg "abs" = none
  b_repr : mg "repr" = none
  b_isinstance : mg "isinstance" = none
  b_sorted : mg "sorted" = none
  b_all : mg "all" = none
  b_any : mg "any" = none
  b_sum : mg "sum" = none
  b_max : mg "max" = none
  b_min : mg "min" = none
  b_range : mg "range" = none
  b_enumerate : mg "enumerate" = none
  b_zip : mg "zip" = none
  b_reversed : mg "reversed" = none
  b_int : mg "int" = none
  b_bool : mg "bool" = none
  b_str : mg "str" = none
  b_list : mg "list" = none
  b_dict : mg "dict" = none
  b_tuple : mg "tuple" = none
  b_set : mg "set" = none

section
variable {X : Cx} {e : Expr} {te : TE}
/-- a value as a test -/
def tTr (K : PySem.W.Frag) (te : TE) : TT := fun σ H Q => te σ H fun x H' => ∃ k, TruV K x H' k ∧ Q k H'
theorem pt_tr (h : PE X e te) (he : ∀ whole, isTrue e X.env whole = (do let v ← whole; standAt e.pos; holding [v] (truthy v)) := by intro _; rfl) : PT X e (tTr X.K te) := pt_truth h he
theorem q_tr {K : PySem.W.Frag} {σ : L2.St} {H : Hp} {R : Bool → Hp → Prop} (h : te σ H fun x H' => ∃ k, TruV K x H' k ∧ R k H') : tTr K te σ H R := h
theorem q_trB {K : PySem.W.Frag} {H : Hp} {b : Bool} {R : Bool → Prop} (h : R b) : ∃ k, TruV K (.bl b) H k ∧ R k := ⟨b, rfl, h⟩
theorem q_trI {K : PySem.W.Frag} {H : Hp} {i : Int} {R : Bool → Prop} (h : R (i != 0)) : ∃ k, TruV K (.int i) H k ∧ R k := ⟨_, rfl, h⟩
theorem q_trL {K : PySem.W.Frag} {H : Hp} {a : Addr} {xs : List V} {R : Bool → Prop} (hs : SqL K H a xs) (h : R (!xs.isEmpty)) : ∃ k, TruV K (.ref a) H k ∧ R k := ⟨_, .inl ⟨xs, hs, rfl⟩, h⟩
theorem q_trT {K : PySem.W.Frag} {H : Hp} {a : Addr} {xs : List V} {R : Bool → Prop} (hs : SqT K H a xs) (h : R (!xs.isEmpty)) : ∃ k, TruV K (.ref a) H k ∧ R k := ⟨_, .inr (.inl ⟨xs, hs, rfl⟩), h⟩
end

/-! ### texts in order -/
def ltS (a b : Str) : Bool := ltCps a.cps.toList b.cps.toList
theorem ltS_iff {a b : Str} : ltS a b = true ↔ a.cps.toList < b.cps.toList := by
  unfold ltS
  rw [ltCps_eq]
  simp
theorem ltS_tri {a b : Str} (h1 : ltS a b = false) (h2 : ltS b a = false) : a = b := by
  have g1 : ¬ a.cps.toList < b.cps.toList := fun h => by
    rw [← ltS_iff, h1] at h
    cases h
  have g2 : ¬ b.cps.toList < a.cps.toList := fun h => by
    rw [← ltS_iff, h2] at h
    cases h
  have e : a.cps.toList = b.cps.toList := List.le_antisymm (List.not_lt.mp g2) (List.not_lt.mp g1)
  obtain ⟨⟨l⟩⟩ := a
  obtain ⟨⟨m⟩⟩ := b
  simp at e
  rw [e]
theorem ltS_irr (a : Str) : ltS a a = false := by
  cases h : ltS a a with
  | false => rfl
  | true => exact absurd (ltS_iff.mp h) (List.lt_irrefl _)
theorem ltS_trans {a b c : Str} (h1 : ltS a b = true) (h2 : ltS b c = true) : ltS a c = true := ltS_iff.mpr (List.lt_trans (ltS_iff.mp h1) (ltS_iff.mp h2))
theorem ltS_asymm {a b : Str} (h : ltS a b = true) : ltS b a = false := by
  cases q : ltS b a with
  | false => rfl
  | true =>
    have := ltS_trans h q
    rw [ltS_irr] at this
    cases this
def insS (x : Str) : List Str → List Str
  | [] => [x]
  | y :: r => if ltS y x = true then y :: insS x r else x :: y :: r
def srt : List Str → List Str
  | [] => []
  | x :: r => insS x (srt r)
abbrev Asc (l : List Str) : Prop := l.Pairwise (fun a b => ltS b a = false)
theorem insS_perm (x : Str) : ∀ l, (insS x l).Perm (x :: l)
  | [] => .refl _
  | y :: r => by
    unfold insS
    by_cases h : ltS y x = true
    · rw [if_pos h]
      exact ((insS_perm x r).cons y).trans (.swap ..)
    · rw [if_neg h]
theorem srt_perm : ∀ l, (srt l).Perm l
  | [] => .refl _
  | x :: r => (insS_perm x _).trans ((srt_perm r).cons x)
theorem le_trans' {a b c : Str} (h1 : ltS b a = false) (h2 : ltS c b = false) : ltS c a = false := by
  cases q : ltS c a with
  | false => rfl
  | true =>
    cases q1 : ltS a b with
    | true =>
      have := ltS_trans q q1
      rw [h2] at this
      cases this
    | false =>
      have e := ltS_tri h1 q1
      rw [← e, h2] at q
      cases q
theorem insS_asc (x : Str) : ∀ l, Asc l → Asc (insS x l)
  | [], _ => List.pairwise_singleton _ _
  | y :: r, h => by
    unfold insS
    have h1 := List.pairwise_cons.mp h
    by_cases hl : ltS y x = true
    · rw [if_pos hl]
      refine List.pairwise_cons.mpr ⟨fun z hz => ?_, insS_asc x r h1.2⟩
      rcases List.mem_cons.mp ((insS_perm x r).mem_iff.mp hz) with e | hz
      · rw [e]
        exact ltS_asymm hl
      · exact h1.1 z hz
    · rw [if_neg hl]
      have hl' : ltS y x = false := by simpa using hl
      refine List.pairwise_cons.mpr ⟨fun z hz => ?_, h⟩
      rcases List.mem_cons.mp hz with e | hz
      · rw [e]
        exact hl'
      · exact le_trans' hl' (h1.1 z hz)
theorem srt_asc : ∀ l, Asc (srt l)
  | [] => .nil
  | x :: r => insS_asc x _ (srt_asc r)
theorem asc_unique : ∀ {l m : List Str}, l.Perm m → Asc l → Asc m → l = m
  | [], m, p, _, _ => (List.nil_perm.mp p).symm
  | x :: l, [], p, _, _ => absurd p.symm.nil_eq (by simp)
  | x :: l, y :: m, p, h1, h2 => by
    have a1 := List.pairwise_cons.mp h1
    have a2 := List.pairwise_cons.mp h2
    have e : x = y := by
      have m1 : x ∈ y :: m := p.mem_iff.mp List.mem_cons_self
      have m2 : y ∈ x :: l := p.mem_iff.mpr List.mem_cons_self
      rcases List.mem_cons.mp m1 with e | m1
      · exact e
      · rcases List.mem_cons.mp m2 with e | m2
        · exact e.symm
        · exact ltS_tri (a2.1 x m1) (a1.1 y m2)
    subst e
    rw [asc_unique ((List.perm_cons x).mp p) a1.2 a2.2]
theorem rising_asc : ∀ (l : List Str) (p : Str), risingS p l = true → Asc (p :: l)
  | [], p, _ => List.pairwise_singleton _ _
  | x :: r, p, h => by
    have h' : (!ltCps x.cps.toList p.cps.toList && risingS x r) = true := h
    rw [Bool.and_eq_true] at h'
    have ih := rising_asc r x h'.2
    have hx : ltS x p = false := by
      have := h'.1
      unfold ltS
      simpa using this
    refine List.pairwise_cons.mpr ⟨fun z hz => ?_, ih⟩
    rcases List.mem_cons.mp hz with e | hz
    · rw [e]
      exact hx
    · exact le_trans' hx ((List.pairwise_cons.mp ih).1 z hz)
theorem sorted_asc {l : List Str} (h : sortedS l = true) : Asc l := by
  cases l with
  | nil => exact .nil
  | cons x r => exact rising_asc r x h
theorem sorted_is {l m : List Str} (p : l.Perm m) (h : sortedS l = true) : l = srt m := asc_unique (p.trans (srt_perm m).symm) (sorted_asc h) (srt_asc m)
theorem srt_of_asc {l : List Str} (h : Asc l) : srt l = l := asc_unique (srt_perm l) (srt_asc l) h
theorem srt_congr {l m : List Str} (p : l.Perm m) : srt l = srt m := asc_unique ((srt_perm l).trans (p.trans (srt_perm m).symm)) (srt_asc l) (srt_asc m)
theorem srt_srt (l : List Str) : srt (srt l) = srt l := srt_of_asc (srt_asc l)

/-- sorted(c): a dict with text keys, a list of texts, a list of ints -/
def rSortU (K : PySem.W.Frag) : List V → Hp → VK → Prop := fun xs H Q =>
  (∃ (a : Addr) (kvs : List (Key × V)) (ks : List Str), xs = [.ref a] ∧ Rd H a (.dK kvs) ∧ kvs.map (·.1) = ks.map Sum.inr ∧ ks.length < 64 ∧ ∀ ys p, ys.Perm ks → sortedS ys = true → H p = none → Q (.ref p) (upd H p (.lst (ys.map V.str)))) ∨
  rSortedS K xs H Q ∨ rSortedI K xs H Q
theorem call_sortU {X : Cx} (hc : X.calm = true) : CallR X (.builtin "sorted") (rSortU X.K) := (call_sortedD hc).or (cr_sortedS.or cr_sortedI)
theorem q_sortD {K : PySem.W.Frag} {H : Hp} {Q : VK} {a : Addr} {kvs : List (Key × V)} {ks : List Str} (h : Rd H a (.dK kvs)) (e : kvs.map (·.1) = ks.map Sum.inr) (hl : ks.length < 64) (q : ∀ p, H p = none → Q (.ref p) (upd H p (.lst ((srt ks).map V.str)))) :
    rSortU K [.ref a] H Q := .inl ⟨a, kvs, ks, rfl, h, e, hl, fun ys p pm so hp => by
  rw [sorted_is pm so]
  exact q p hp⟩
theorem q_sortS {K : PySem.W.Frag} {H : Hp} {Q : VK} {a : Addr} {ks : List Str} (h : SqL K H a (ks.map V.str)) (hl : ks.length < 64) (q : ∀ p, H p = none → Q (.ref p) (upd H p (.lst ((srt ks).map V.str)))) :
    rSortU K [.ref a] H Q := .inr (.inl ⟨a, ks, rfl, h, hl, fun ys p pm so hp => by
  rw [sorted_is pm so]
  exact q p hp⟩)
end TU

set_option Elab.async false
set_option linter.all false
set_option maxRecDepth 100000
namespace TU
open PySem PySem.Spec PyProof.Rows L2

/-! ### lists of pairs with text keys -/
section
variable {β γ : Type}
def lk : List (Str × β) → Str → Option β
  | [], _ => none
  | p :: r, k => if p.1 = k then some p.2 else lk r k
def put : List (Str × β) → Str → β → List (Str × β)
  | [], k, v => [(k, v)]
  | p :: r, k, v => if p.1 = k then (p.1, v) :: r else p :: put r k v
def del : List (Str × β) → Str → List (Str × β)
  | [], _ => []
  | p :: r, k => if p.1 = k then r else p :: del r k
def nms (l : List (Str × β)) : List Str := l.map (·.1)
theorem nms_nil : nms ([] : List (Str × β)) = [] := rfl
theorem nms_cons (p : Str × β) (r : List (Str × β)) : nms (p :: r) = p.1 :: nms r := rfl
theorem nms_len (l : List (Str × β)) : (nms l).length = l.length := List.length_map _
theorem nd_cons {p : Str × β} {r : List (Str × β)} (h : (nms (p :: r)).Nodup) : p.1 ∉ nms r ∧ (nms r).Nodup := List.nodup_cons.mp h
theorem mem_nms {p : Str × β} {l : List (Str × β)} (h : p ∈ l) : p.1 ∈ nms l := List.mem_map.mpr ⟨p, h, rfl⟩
theorem lk_cons (p : Str × β) (r : List (Str × β)) (k : Str) : lk (p :: r) k = if p.1 = k then some p.2 else lk r k := rfl
theorem lk_none {l : List (Str × β)} {k : Str} : lk l k = none ↔ k ∉ nms l := by
  induction l with
  | nil => simp [lk, nms_nil]
  | cons p r ih =>
    rw [lk_cons, nms_cons]
    by_cases e : p.1 = k
    · rw [if_pos e]
      simp [e]
    · rw [if_neg e, ih]
      have e' : ¬ k = p.1 := fun z => e z.symm
      simp [e']
theorem lk_mem {l : List (Str × β)} {k : Str} {v : β} (h : lk l k = some v) : (k, v) ∈ l := by
  induction l with
  | nil => cases h
  | cons p r ih =>
    unfold lk at h
    by_cases e : p.1 = k
    · rw [if_pos e] at h
      cases h
      subst e
      exact List.mem_cons_self
    · rw [if_neg e] at h
      exact List.mem_cons_of_mem _ (ih h)
theorem lk_of_mem {l : List (Str × β)} (nd : (nms l).Nodup) {k : Str} {v : β} (h : (k, v) ∈ l) : lk l k = some v := by
  induction l with
  | nil => cases h
  | cons p r ih =>
    have nd' := nd_cons nd
    unfold lk
    rcases List.mem_cons.mp h with e | h
    · rw [← e, if_pos rfl]
    · have hk : k ∈ nms r := mem_nms h
      have e : ¬ p.1 = k := fun z => nd'.1 (by rw [z]; exact hk)
      rw [if_neg e]
      exact ih nd'.2 h
theorem lk_put (l : List (Str × β)) (k : Str) (v : β) (x : Str) : lk (put l k v) x = if x = k then some v else lk l x := by
  induction l with
  | nil =>
    by_cases e : k = x
    · simp [put, lk, e]
    · have e' : ¬ x = k := fun z => e z.symm
      simp [put, lk, e, e']
  | cons p r ih =>
    unfold put
    by_cases e : p.1 = k
    · rw [if_pos e]
      by_cases ex : x = k
      · simp [lk, e, ex]
      · have e2 : ¬ p.1 = x := fun z => ex (by rw [← z, e])
        simp [lk, e2, ex]
    · rw [if_neg e]
      by_cases ex : p.1 = x
      · have e2 : ¬ x = k := fun z => e (by rw [ex, z])
        simp [lk, ex, e2]
      · simp only [lk, if_neg ex]
        exact ih
theorem lk_del {l : List (Str × β)} (nd : (nms l).Nodup) (k x : Str) : lk (del l k) x = if x = k then none else lk l x := by
  induction l with
  | nil => simp [del, lk]
  | cons p r ih =>
    have nd' := nd_cons nd
    unfold del
    by_cases e : p.1 = k
    · rw [if_pos e]
      by_cases ex : x = k
      · rw [if_pos ex, lk_none, ex, ← e]
        exact nd'.1
      · have e2 : ¬ p.1 = x := fun z => ex (by rw [← z, e])
        rw [if_neg ex]
        simp only [lk, if_neg e2]
    · rw [if_neg e]
      by_cases ex : p.1 = x
      · have e2 : ¬ x = k := fun z => e (by rw [ex, z])
        simp [lk, ex, e2]
      · simp only [lk, if_neg ex]
        exact ih nd'.2
theorem nms_put (l : List (Str × β)) (k : Str) (v : β) : nms (put l k v) = if k ∈ nms l then nms l else nms l ++ [k] := by
  induction l with
  | nil => simp [put, nms_nil, nms_cons]
  | cons p r ih =>
    unfold put
    by_cases e : p.1 = k
    · simp [e, nms_cons]
    · have e' : ¬ k = p.1 := fun z => e z.symm
      rw [if_neg e]
      simp only [nms_cons, List.mem_cons]
      rw [ih]
      by_cases m : k ∈ nms r
      · rw [if_pos m, if_pos (.inr m)]
      · rw [if_neg m, if_neg (by simp [e', m])]
        rfl
theorem nms_del (l : List (Str × β)) (k : Str) : nms (del l k) = (nms l).erase k := by
  induction l with
  | nil => rfl
  | cons p r ih =>
    unfold del
    by_cases e : p.1 = k
    · rw [if_pos e, nms_cons, e, List.erase_cons_head]
    · rw [if_neg e, nms_cons, nms_cons, List.erase_cons_tail (by simpa using e)]
      rw [ih]
theorem nd_put {l : List (Str × β)} (nd : (nms l).Nodup) (k : Str) (v : β) : (nms (put l k v)).Nodup := by
  rw [nms_put]
  by_cases m : k ∈ nms l
  · rw [if_pos m]
    exact nd
  · rw [if_neg m]
    exact List.nodup_append.mpr ⟨nd, by simp, fun a ha b hb e => m (by
      rw [List.mem_singleton] at hb
      rw [← hb, ← e]
      exact ha)⟩
theorem nd_del {l : List (Str × β)} (nd : (nms l).Nodup) (k : Str) : (nms (del l k)).Nodup := by
  rw [nms_del]
  exact nd.erase k
theorem len_put_le (l : List (Str × β)) (k : Str) (v : β) : (put l k v).length ≤ l.length + 1 := by
  induction l with
  | nil => exact Nat.le_refl _
  | cons p r ih =>
    unfold put
    by_cases e : p.1 = k
    · rw [if_pos e]
      exact Nat.le_succ _
    · rw [if_neg e, List.length_cons, List.length_cons]
      omega
theorem len_del_le (l : List (Str × β)) (k : Str) : (del l k).length ≤ l.length := by
  induction l with
  | nil => exact Nat.le_refl _
  | cons p r ih =>
    unfold del
    by_cases e : p.1 = k
    · rw [if_pos e]
      exact Nat.le_succ _
    · rw [if_neg e, List.length_cons, List.length_cons]
      omega
/-- in the order of the names -/
def ord [Inhabited β] (l : List (Str × β)) : List (Str × β) := (srt (nms l)).map fun n => (n, (lk l n).getD default)
theorem nms_ord [Inhabited β] (l : List (Str × β)) : nms (ord l) = srt (nms l) := by
  unfold ord
  unfold nms
  rw [List.map_map]
  exact (List.map_congr_left fun _ _ => rfl).trans (List.map_id _)
theorem nd_ord [Inhabited β] {l : List (Str × β)} (nd : (nms l).Nodup) : (nms (ord l)).Nodup := by
  rw [nms_ord]
  exact (srt_perm _).nodup_iff.mpr nd
theorem lk_map [Inhabited β] (l : List (Str × β)) : ∀ (ns : List Str) (x : Str), lk (ns.map fun n => (n, (lk l n).getD default)) x = if x ∈ ns then some ((lk l x).getD default) else none
  | [], x => by simp [lk]
  | n :: ns, x => by
    rw [List.map_cons, lk_cons]
    by_cases e : n = x
    · subst e
      rw [if_pos rfl, if_pos List.mem_cons_self]
    · have e' : ¬ x = n := fun z => e z.symm
      rw [if_neg e, lk_map l ns x]
      simp [e']
theorem lk_ord [Inhabited β] (l : List (Str × β)) (x : Str) : lk (ord l) x = lk l x := by
  unfold ord
  rw [lk_map]
  by_cases m : x ∈ nms l
  · rw [if_pos ((srt_perm _).mem_iff.mpr m)]
    cases e : lk l x with
    | none => exact absurd m (lk_none.mp e)
    | some v => rfl
  · rw [if_neg (fun z => m ((srt_perm _).mem_iff.mp z))]
    exact (lk_none.mpr m).symm
theorem len_ord [Inhabited β] (l : List (Str × β)) : (ord l).length = l.length := by
  unfold ord
  rw [List.length_map, (srt_perm _).length_eq, nms_len]
/-- two lists of pairs with the same names in the same order and the same look-ups are one -/
theorem ext_lk : ∀ {l m : List (Str × β)}, (nms l).Nodup → nms l = nms m → (∀ x, lk l x = lk m x) → l = m
  | [], [], _, _, _ => rfl
  | [], _ :: _, _, h, _ => nomatch h
  | _ :: _, [], _, h, _ => nomatch h
  | p :: l, q :: m, nd, h, e => by
    obtain ⟨a, b⟩ := p
    obtain ⟨c, d⟩ := q
    have h' : a = c ∧ nms l = nms m := by simpa [nms_cons] using h
    obtain ⟨rfl, h2⟩ := h'
    have nd' := nd_cons nd
    have e1 := e a
    simp [lk] at e1
    subst e1
    rw [ext_lk nd'.2 h2 fun x => ?_]
    by_cases ex : a = x
    · subst ex
      rw [lk_none.mpr nd'.1, lk_none.mpr (by rw [← h2]; exact nd'.1)]
    · have := e x
      simpa [lk, ex] using this
theorem ord_ext [Inhabited β] {l m : List (Str × β)} (nd : (nms l).Nodup) (p : (nms l).Perm (nms m)) (e : ∀ x, lk l x = lk m x) : ord l = ord m :=
  ext_lk (nd_ord nd) (by rw [nms_ord, nms_ord, srt_congr p]) fun x => by rw [lk_ord, lk_ord, e x]
theorem ord_ord [Inhabited β] {l : List (Str × β)} (nd : (nms l).Nodup) : ord (ord l) = ord l :=
  ext_lk (nd_ord (nd_ord nd)) (by rw [nms_ord, nms_ord, srt_srt]) fun x => by rw [lk_ord]
theorem ord_perm [Inhabited β] {l m : List (Str × β)} (n1 : (nms l).Nodup) (n2 : (nms m).Nodup) (e : ∀ x, lk l x = lk m x) : ord l = ord m := by
  refine ord_ext n1 ?_ e
  refine (List.perm_ext_iff_of_nodup n1 n2).mpr fun x => ?_
  have h1 := lk_none (l := l) (k := x)
  have h2 := lk_none (l := m) (k := x)
  rw [e x] at h1
  exact Decidable.not_iff_not.mp (h1.symm.trans h2)
end

/-! ### tables and houses -/
abbrev Tab := List (Str × Tr)
abbrev Hs := List (Str × Tab)
instance : Inhabited Tr := ⟨.non⟩
def tK (t : Tab) : List (Key × Tr) := t.map fun p => (Sum.inr p.1, p.2)
def hK (h : Hs) : List (Key × Tr) := h.map fun p => (Sum.inr p.1, Tr.dic (tK p.2))
theorem inr_eq {a b : Str} : ((Sum.inr a : Key) = Sum.inr b) ↔ a = b := ⟨fun h => Sum.inr.inj h, fun h => by rw [h]⟩
theorem get_tK (t : Tab) (k : Str) : getD (tK t) (.inr k) = lk t k := by
  induction t with
  | nil => rfl
  | cons p r ih =>
    show getD ((Sum.inr p.1, p.2) :: tK r) _ = _
    rw [getD_cons, lk_cons]
    by_cases e : p.1 = k
    · rw [if_pos (inr_eq.mpr e), if_pos e]
    · rw [if_neg (fun z => e (inr_eq.mp z)), if_neg e]
      exact ih
theorem get_hK (h : Hs) (k : Str) : getD (hK h) (.inr k) = (lk h k).map fun t => Tr.dic (tK t) := by
  induction h with
  | nil => rfl
  | cons p r ih =>
    show getD ((Sum.inr p.1, Tr.dic (tK p.2)) :: hK r) _ = _
    rw [getD_cons, lk_cons]
    by_cases e : p.1 = k
    · rw [if_pos (inr_eq.mpr e), if_pos e]
      rfl
    · rw [if_neg (fun z => e (inr_eq.mp z)), if_neg e]
      exact ih
theorem putD_new {l : List (Key × Tr)} {k : Key} {v : Tr} (h : k ∉ l.map (·.1)) : putD l k v = l ++ [(k, v)] := by
  unfold putD
  rw [if_neg]
  intro z
  rw [List.any_eq_true] at z
  obtain ⟨p, hp, e⟩ := z
  exact h (List.mem_map.mpr ⟨p, hp, by simpa using e⟩)
theorem putD_cons (p : Key × Tr) (r : List (Key × Tr)) (nd : p.1 ∉ r.map (·.1)) (k : Key) (v : Tr) : putD (p :: r) k v = if p.1 = k then (p.1, v) :: r else p :: putD r k v := by
  by_cases e : p.1 = k
  · rw [if_pos e]
    unfold putD
    rw [if_pos (by rw [List.any_cons]; simp [e]), List.map_cons, if_pos e]
    have : (r.map fun kv => if kv.1 = k then (kv.1, v) else kv) = r := by
      refine (List.map_congr_left fun q hq => ?_).trans (List.map_id _)
      have : ¬ q.1 = k := fun z => nd (by rw [e, ← z]; exact List.mem_map.mpr ⟨q, hq, rfl⟩)
      rw [if_neg this]
      rfl
    rw [this]
  · rw [if_neg e]
    unfold putD
    rw [List.any_cons, decide_eq_false e, Bool.false_or]
    by_cases a : (r.any fun kv => decide (kv.1 = k)) = true
    · rw [if_pos a, if_pos a, List.map_cons, if_neg e]
    · rw [if_neg a, if_neg a]
      rfl
theorem keys_tK (t : Tab) : (tK t).map (·.1) = (nms t).map Sum.inr := by
  unfold tK nms
  rw [List.map_map, List.map_map]
  rfl
theorem keys_hK (h : Hs) : (hK h).map (·.1) = (nms h).map Sum.inr := by
  unfold hK nms
  rw [List.map_map, List.map_map]
  rfl
theorem inr_mem {k : Str} {l : List Str} : (Sum.inr k : Key) ∈ l.map Sum.inr ↔ k ∈ l := by simp
theorem put_tK {t : Tab} (nd : (nms t).Nodup) (k : Str) (v : Tr) : putD (tK t) (.inr k) v = tK (put t k v) := by
  induction t with
  | nil => rfl
  | cons p r ih =>
    have nd' := nd_cons nd
    show putD ((Sum.inr p.1, p.2) :: tK r) _ _ = _
    rw [putD_cons _ _ (by rw [keys_tK]; exact fun z => nd'.1 (inr_mem.mp z))]
    unfold put
    by_cases e : p.1 = k
    · rw [if_pos (inr_eq.mpr e), if_pos e]
      rfl
    · rw [if_neg (fun z => e (inr_eq.mp z)), if_neg e, ih nd'.2]
      rfl
theorem del_tK {t : Tab} (nd : (nms t).Nodup) (k : Str) : delD (tK t) (.inr k) = tK (del t k) := by
  induction t with
  | nil => rfl
  | cons p r ih =>
    have nd' := nd_cons nd
    unfold delD del
    show List.filter _ ((Sum.inr p.1, p.2) :: tK r) = _
    rw [List.filter_cons]
    by_cases e : p.1 = k
    · have : ¬ (decide ((Sum.inr p.1 : Key) ≠ Sum.inr k)) = true := by simp [e]
      rw [if_neg this, if_pos e, List.filter_eq_self.mpr]
      intro q hq
      have hm : q.1 ∈ (tK r).map (·.1) := List.mem_map.mpr ⟨q, hq, rfl⟩
      rw [keys_tK] at hm
      simp only [decide_eq_true_eq]
      intro z
      rw [z] at hm
      exact nd'.1 (by rw [e]; exact inr_mem.mp hm)
    · have : (decide ((Sum.inr p.1 : Key) ≠ Sum.inr k)) = true := by simp [e]
      rw [if_pos this, if_neg e]
      have ih' := ih nd'.2
      unfold delD at ih'
      rw [ih']
      rfl
end TU

set_option Elab.async false
set_option linter.all false
set_option maxRecDepth 100000
namespace TU
open PySem PySem.Spec PyProof.Rows L2

mutual
/-- neither a list nor a dict within -/
def imm : Tr → Bool
  | .lst _ => false
  | .dic _ => false
  | .tup xs => imms xs
  | _ => true
def imms : List Tr → Bool
  | [] => true
  | x :: xs => imm x && imms xs
end
abbrev ff : Addr → Prop := fun _ => False
section
variable {K : PySem.W.Frag} {H H' : Hp} {P P' W N : Addr → Prop}
mutual
theorem T.imm : ∀ {v : V} {d : Tr}, TU.imm d = true → T K H P v d → T K H P' v d
  | _, _, _, .non => .non
  | _, _, _, .bl b => .bl b
  | _, _, _, .int i => .int i
  | _, _, _, .str x => .str x
  | _, _, h, .lst _ _ _ => by simp [TU.imm] at h
  | _, _, h, .tup s t => .tup s (Ts.imm (by simpa [TU.imm] using h) t)
  | _, _, h, .dic _ _ _ => by simp [TU.imm] at h
theorem Ts.imm : ∀ {v : List V} {d : List Tr}, TU.imms d = true → Ts K H P v d → Ts K H P' v d
  | _, _, _, .nil => .nil
  | _, _, h, .cons a b => by
    simp only [TU.imms, Bool.and_eq_true] at h
    exact .cons (T.imm h.1 a) (Ts.imm h.2 b)
end
mutual
theorem nod_of_imm : ∀ {d : Tr}, TU.imm d = true → nod d = true
  | .non, _ => rfl
  | .bl _, _ => rfl
  | .int _, _ => rfl
  | .str _, _ => rfl
  | .lst _, h => by simp [TU.imm] at h
  | .tup xs, h => by
    have h' : TU.imms xs = true := by simpa [TU.imm] using h
    simp only [nod]
    exact nods_of_imms h'
  | .dic _, h => by simp [TU.imm] at h
theorem nods_of_imms : ∀ {d : List Tr}, TU.imms d = true → nods d = true
  | [], _ => rfl
  | x :: xs, h => by
    have h' : TU.imm x = true ∧ TU.imms xs = true := by simpa [TU.imms] using h
    simp only [nods, nod_of_imm h'.1, nods_of_imms h'.2, Bool.and_self]
end
mutual
theorem nol_of_imm : ∀ {d : Tr}, TU.imm d = true → nol d = true
  | .non, _ => rfl
  | .bl _, _ => rfl
  | .int _, _ => rfl
  | .str _, _ => rfl
  | .lst _, h => by simp [TU.imm] at h
  | .tup xs, h => by
    have h' : TU.imms xs = true := by simpa [TU.imm] using h
    simp only [nol]
    exact nols_of_imms h'
  | .dic _, h => by simp [TU.imm] at h
theorem nols_of_imms : ∀ {d : List Tr}, TU.imms d = true → nols d = true
  | [], _ => rfl
  | x :: xs, h => by
    have h' : TU.imm x = true ∧ TU.imms xs = true := by simpa [TU.imms] using h
    simp only [nols, nol_of_imm h'.1, nols_of_imms h'.2, Bool.and_self]
end
def immT (t : Tab) : Prop := ∀ p ∈ t, imm p.2 = true
theorem Tk.imm : ∀ {es : List (Key × V)} {t : Tab}, immT t → Tk K H P es (tK t) → Tk K H P' es (tK t)
  | es, [], _, h => by
    cases h
    exact .nil
  | es, p :: t, hi, h => by
    have h' : Tk K H P es ((Sum.inr p.1, p.2) :: tK t) := h
    cases h' with
    | cons a b => exact .cons (a.imm (hi p List.mem_cons_self)) (Tk.imm (fun q hq => hi q (List.mem_cons_of_mem _ hq)) b)

/-- a table of a house that is read -/
theorem T.dicAt {v : V} {es : List (Key × Tr)} (h : T K H P v (.dic es)) : ∃ a kvs, v = .ref a ∧ P a ∧ Rd H a (.dK kvs) ∧ Tk K H P kvs es := by
  cases h with
  | dic p r t => exact ⟨_, _, rfl, p, r, t⟩
theorem T.tab {kvs : List (Key × V)} {h : Hs} {k : Str} {t : Tab} (tk : Tk K H P kvs (hK h)) (e : lk h k = some t) : ∃ q es, valV kvs (.inr k) = some (.ref q) ∧ P q ∧ Rd H q (.dK es) ∧ Tk K H P es (tK t) := by
  obtain ⟨v, h1, h2⟩ := tk.gets (k := .inr k) (d := .dic (tK t)) (by rw [get_hK, e]; rfl)
  obtain ⟨q, es, rfl, p, r, t⟩ := h2.dicAt
  exact ⟨q, es, h1, p, r, t⟩
theorem T.ntab {kvs : List (Key × V)} {h : Hs} {k : Str} (tk : Tk K H P kvs (hK h)) (e : lk h k = none) : valV kvs (.inr k) = none := tk.getn (by rw [get_hK, e]; rfl)
theorem Tk.ent {es : List (Key × V)} {t : Tab} {n : Str} {d : Tr} (tk : Tk K H P es (tK t)) (e : lk t n = some d) : ∃ v, valV es (.inr n) = some v ∧ T K H P v d := tk.gets (by rw [get_tK, e])
theorem Tk.nent {es : List (Key × V)} {t : Tab} {n : Str} (tk : Tk K H P es (tK t)) (e : lk t n = none) : valV es (.inr n) = none := tk.getn (by rw [get_tK, e])

/-! ### a house of one's own: its dicts stand apart and may be changed -/
inductive OT (K : PySem.W.Frag) (H : Hp) : Hs → List Addr → List (Key × V) → Prop
  | nil : OT K H [] [] []
  | cons {n : Str} {t : Tab} {h : Hs} {q : Addr} {qs : List Addr} {es : List (Key × V)} {kvs : List (Key × V)} : H q = some (.dK es) → Tk K H ff es (tK t) → OT K H h qs kvs → OT K H ((n, t) :: h) (q :: qs) ((.inr n, .ref q) :: kvs)
structure Own (K : PySem.W.Frag) (N : Addr → Prop) (H : Hp) (r : Addr) (h : Hs) : Prop where
  ex : ∃ qs kvs, H r = some (.dK kvs) ∧ OT K H h qs kvs ∧ (r :: qs).Nodup ∧ ∀ q ∈ r :: qs, N q
theorem OT.keep (k : Keeps W H H') (nt : ∀ a xs, W a → ¬ Rd H a (.tup xs)) : ∀ {h : Hs} {qs : List Addr} {kvs : List (Key × V)}, (∀ q ∈ qs, ¬ W q) → OT K H h qs kvs → OT K H' h qs kvs
  | _, _, _, _, .nil => .nil
  | _, _, _, hq, .cons e t r => .cons (k _ _ (hq _ List.mem_cons_self) e) (t.keep k nt fun _ z => z.elim) (OT.keep k nt (fun q m => hq q (List.mem_cons_of_mem _ m)) r)
theorem Own.keep {r : Addr} {h : Hs} (o : Own K N H r h) (k : Keeps W H H') (nt : ∀ a xs, W a → ¬ Rd H a (.tup xs)) (hN : ∀ a, N a → ¬ W a) : Own K N H' r h := by
  obtain ⟨qs, kvs, h1, h2, h3, h4⟩ := o.ex
  exact ⟨qs, kvs, k _ _ (hN r (h4 r List.mem_cons_self)) h1, h2.keep k nt fun q m => hN q (h4 q (List.mem_cons_of_mem _ m)), h3, h4⟩
theorem Own.mono {r : Addr} {h : Hs} (o : Own K N H r h) (s : Same H H') : Own K N H' r h := o.keep (W := ff) (.of_same s) (fun _ _ z => z.elim) fun _ _ z => z
theorem Own.imp {N' : Addr → Prop} {r : Addr} {h : Hs} (o : Own K N H r h) (i : ∀ a, N a → N' a) : Own K N' H r h := by
  obtain ⟨qs, kvs, h1, h2, h3, h4⟩ := o.ex
  exact ⟨qs, kvs, h1, h2, h3, fun q m => i q (h4 q m)⟩
theorem OT.tk : ∀ {h : Hs} {qs : List Addr} {kvs : List (Key × V)}, (∀ q ∈ qs, N q) → OT K H h qs kvs → Tk K H N kvs (hK h)
  | _, _, _, _, .nil => .nil
  | _, _, _, hq, .cons e t r => .cons (.dic (hq _ List.mem_cons_self) (.inl e) (t.imp fun _ z => z.elim)) (OT.tk (fun q m => hq q (List.mem_cons_of_mem _ m)) r)
theorem Own.T {r : Addr} {h : Hs} (o : Own K N H r h) : T K H N (.ref r) (.dic (hK h)) := by
  obtain ⟨qs, kvs, h1, h2, h3, h4⟩ := o.ex
  exact .dic (h4 r List.mem_cons_self) (.inl h1) (h2.tk fun q m => h4 q (List.mem_cons_of_mem _ m))
theorem OT.at : ∀ {h : Hs} {qs : List Addr} {kvs : List (Key × V)} {k : Str} {t : Tab}, OT K H h qs kvs → lk h k = some t → ∃ q es, valV kvs (.inr k) = some (.ref q) ∧ q ∈ qs ∧ H q = some (.dK es) ∧ Tk K H ff es (tK t)
  | _, _, _, _, _, .nil, e => nomatch e
  | _, _, _, k, t, .cons (n := n) (q := q) (es := es) e tk r, el => by
    rw [lk_cons] at el
    by_cases hk : n = k
    · rw [if_pos hk] at el
      cases el
      exact ⟨q, es, valV_pos (inr_eq.mpr hk), List.mem_cons_self, e, tk⟩
    · rw [if_neg hk] at el
      obtain ⟨q', es', h1, h2, h3, h4⟩ := OT.at r el
      exact ⟨q', es', by rw [valV_neg (p := (Sum.inr n, V.ref q)) (fun z => hk (inr_eq.mp z))]; exact h1, List.mem_cons_of_mem _ h2, h3, h4⟩
theorem no_tup {q : Addr} {es : List (Key × V)} (e : H q = some (.dK es)) : ∀ a xs, a = q → ¬ Rd H a (.tup xs) := nt_of e (fun _ z => nomatch z) fun _ _ z => nomatch z
theorem OT.set : ∀ {h : Hs} {qs : List Addr} {kvs : List (Key × V)} {k : Str} {t t' : Tab} {q : Addr} {es' : List (Key × V)}, OT K H h qs kvs → qs.Nodup → lk h k = some t → valV kvs (.inr k) = some (.ref q) → Tk K H ff es' (tK t') →
    OT K (upd H q (.dK es')) (put h k t') qs kvs
  | _, _, _, _, _, _, _, _, .nil, _, e, _, _ => nomatch e
  | _, _, _, k, t, t', q, es', .cons (n := n) (q := q0) (es := es) (qs := qs) e tk r, nd, el, ev, tk' => by
    have nd' := List.nodup_cons.mp nd
    rw [lk_cons] at el
    unfold put
    by_cases hk : n = k
    · rw [if_pos hk] at el ⊢
      rw [valV_pos (p := (Sum.inr n, V.ref q0)) (inr_eq.mpr hk)] at ev
      cases ev
      refine .cons upd_same (tk'.upd e (fun _ z => nomatch z) (fun _ _ z => nomatch z) fun _ z => z.elim) (r.keep keeps_upd (no_tup e) fun q m z => nd'.1 ?_)
      rw [← z]
      exact m
    · rw [if_neg hk] at el ⊢
      rw [valV_neg (p := (Sum.inr n, V.ref q0)) (fun z => hk (inr_eq.mp z))] at ev
      obtain ⟨q', es2, h1, h2, h3, h4⟩ := r.at el
      rw [ev] at h1
      cases h1
      have ne : q0 ≠ q := fun z => nd'.1 (by rw [z]; exact h2)
      exact .cons (by rw [upd_ne ne]; exact e) (tk.upd h3 (fun _ z => nomatch z) (fun _ _ z => nomatch z) fun _ z => z.elim) (OT.set r nd'.2 el ev tk')
/-- a table of it, and what stands when that is changed -/
theorem Own.at {r : Addr} {h : Hs} {k : Str} {t : Tab} (o : Own K N H r h) (e : lk h k = some t) : ∃ kvs q es, H r = some (.dK kvs) ∧ valV kvs (.inr k) = some (.ref q) ∧ H q = some (.dK es) ∧ Tk K H ff es (tK t) ∧ N q ∧ N r ∧ q ≠ r ∧
    ∀ es' t', Tk K H ff es' (tK t') → Own K N (upd H q (.dK es')) r (put h k t') := by
  obtain ⟨qs, kvs, h1, h2, h3, h4⟩ := o.ex
  have nd := List.nodup_cons.mp h3
  obtain ⟨q, es, g1, g2, g3, g4⟩ := h2.at e
  have ne : q ≠ r := fun z => nd.1 (by rw [← z]; exact g2)
  exact ⟨kvs, q, es, h1, g1, g3, g4, h4 q (List.mem_cons_of_mem _ g2), h4 r List.mem_cons_self, ne, fun es' t' tk' => ⟨qs, kvs, by rw [upd_ne (Ne.symm ne)]; exact h1, h2.set nd.2 e g1 tk', h3, h4⟩⟩
theorem OT.snoc {k : Str} {q : Addr} {t : Tab} {es : List (Key × V)} : ∀ {h : Hs} {qs : List Addr} {kvs : List (Key × V)}, OT K H h qs kvs → H q = some (.dK es) → Tk K H ff es (tK t) → OT K H (h ++ [(k, t)]) (qs ++ [q]) (kvs ++ [(.inr k, .ref q)])
  | _, _, _, .nil, e, x => .cons e x .nil
  | _, _, _, .cons a b c, e, x => .cons a b (OT.snoc c e x)
theorem OT.keys : ∀ {h : Hs} {qs : List Addr} {kvs : List (Key × V)}, OT K H h qs kvs → kvs.map (·.1) = (nms h).map Sum.inr
  | _, _, _, .nil => rfl
  | _, _, _, .cons a b c => by
    rw [List.map_cons, nms_cons, List.map_cons, OT.keys c]
theorem OT.len : ∀ {h : Hs} {qs : List Addr} {kvs : List (Key × V)}, OT K H h qs kvs → kvs.length = h.length
  | _, _, _, .nil => rfl
  | _, _, _, .cons a b c => congrArg Nat.succ (OT.len c)
theorem putK_fresh {kvs : List (Key × V)} {k : Key} {v : V} (h : k ∉ kvs.map (·.1)) : putK kvs k v = kvs ++ [(k, v)] := by
  unfold putK
  rw [if_neg]
  intro z
  rw [List.any_eq_true] at z
  obtain ⟨p, hp, e⟩ := z
  exact h (List.mem_map.mpr ⟨p, hp, by simpa using e⟩)
theorem OT.mem {q : Addr} : ∀ {h : Hs} {qs : List Addr} {kvs : List (Key × V)}, OT K H h qs kvs → q ∈ qs → H q ≠ none
  | _, _, _, .cons a b c, m => by
    rcases List.mem_cons.mp m with e | m
    · rw [e, a]
      exact fun z => nomatch z
    · exact OT.mem c m
/-- a new table, made since H1 -/
theorem Own.push {H1 : Hp} {r q : Addr} {h : Hs} {k : Str} {t : Tab} {es : List (Key × V)} (o : Own K N H1 r h) (nk : k ∉ nms h) (nq : H1 q = none) (hq : N q) (s : Same H1 H) (e : H q = some (.dK es)) (tk : Tk K H ff es (tK t)) :
    ∃ kvs, H r = some (.dK kvs) ∧ kvs.length = h.length ∧ Own K N (upd H r (.dK (putK kvs (.inr k) (.ref q)))) r (h ++ [(k, t)]) := by
  obtain ⟨qs, kvs, h1, h2, h3, h4⟩ := o.ex
  have nd := List.nodup_cons.mp h3
  have hr : r ≠ q := ne_of_none h1 nq
  have e2 := s _ _ h1
  have nq' : q ∉ qs := fun m => h2.mem m nq
  refine ⟨kvs, e2, h2.len, qs ++ [q], _, upd_same, ?_, ?_, fun a m => ?_⟩
  · rw [putK_fresh (by rw [h2.keys]; exact fun z => nk (inr_mem.mp z))]
    have h2' : OT K H h qs kvs := h2.keep (W := ff) (.of_same s) (fun _ _ z => z.elim) fun _ _ z => z
    refine (h2'.snoc (k := k) e tk).keep keeps_upd (no_tup e2) fun a m z => ?_
    rw [z] at m
    rcases List.mem_append.mp m with m | m
    · exact nd.1 m
    · exact hr (List.mem_singleton.mp m)
  · refine List.nodup_cons.mpr ⟨fun m => ?_, List.nodup_append.mpr ⟨nd.2, by simp, fun a ha b hb e => nq' (by
      rw [List.mem_singleton] at hb
      rw [← hb, ← e]
      exact ha)⟩⟩
    rcases List.mem_append.mp m with m | m
    · exact nd.1 m
    · exact hr (List.mem_singleton.mp m)
  · rcases List.mem_cons.mp m with e | m
    · rw [e]
      exact h4 r List.mem_cons_self
    · rcases List.mem_append.mp m with m | m
      · exact h4 a (List.mem_cons_of_mem _ m)
      · rw [List.mem_singleton.mp m]
        exact hq
theorem Own.nil {r : Addr} (e : H r = some (.dK [])) (n : N r) : Own K N H r [] := ⟨[], [], e, .nil, by simp, fun q m => by
  rw [List.mem_singleton.mp m]
  exact n⟩
end

/-! ### edits -/
inductive Ed where
  | put (key name : Str) (e : Tr)
  | drop (key name : Str)
def Ed.key : Ed → Str
  | .put k _ _ => k
  | .drop k _ => k
def Ed.name : Ed → Str
  | .put _ n _ => n
  | .drop _ n => n
def Ed.tr : Ed → Tr
  | .put k n e => .tup [.str "put", .str k, .str n, e]
  | .drop k n => .tup [.str "drop", .str k, .str n]
def Ed.Imm : Ed → Prop
  | .put _ _ e => imm e = true
  | .drop _ _ => True
/-- the house behind one edit, or the two words of the error -/
def app1 (h : Hs) (e : Ed) : Except (Str × Str) Hs :=
  match lk h e.key with
  | none => .error ("table", e.key)
  | some t => match e with
    | .put k n v => .ok (TU.put h k (TU.put t n v))
    | .drop k n => if n ∈ nms t then .ok (TU.put h k (TU.del t n)) else .error (k, n)
def eb {α β : Type} : Except (Str × Str) α → (α → Except (Str × Str) β) → Except (Str × Str) β
  | .ok a, f => f a
  | .error x, _ => .error x
def appAll : Hs → List Ed → Except (Str × Str) Hs
  | h, [] => .ok h
  | h, e :: es => eb (app1 h e) fun h' => appAll h' es
def cpH (h : Hs) : Hs := h.map fun p => (p.1, ord p.2)
/-- names stand once, entries hold no lists and no dicts -/
structure Wf (h : Hs) : Prop where
  nd : (nms h).Nodup
  tab : ∀ p ∈ h, (nms p.2).Nodup ∧ immT p.2
def Fits (n : Nat) (h : Hs) : Prop := ∀ p ∈ h, p.2.length ≤ n
end TU

set_option Elab.async false
set_option linter.all false
set_option maxRecDepth 100000
namespace TU
open PySem PySem.Spec PyProof.Rows L2
section
variable {K : PySem.W.Frag} {H H' : Hp} {P P' W N : Addr → Prop} {a : Addr} {xs : List V}
theorem Sm.sqT (s : Same H H') (h : SqT K H a xs) : SqT K H' a xs := sqT_keep (W := ff) (.of_same s) (fun _ _ z => z.elim) h
theorem Sm.sqL (s : Same H H') (h : SqL K H a xs) : SqL K H' a xs := sqL_keep (W := ff) (.of_same s) (fun z => z) h
theorem Sm.rd {u : HO} (s : Same H H') (h : Rd H a u) : Rd H' a u := rd_keep (W := ff) (.of_same s) (fun z => z) h
theorem Sm.at {u : HO} (s : Same H H') (h : H a = some u) : H' a = some u := s _ _ h
theorem T.tupAt {v : V} {ds : List Tr} (h : T K H P v (.tup ds)) : ∃ a xs, v = .ref a ∧ SqT K H a xs ∧ Ts K H P xs ds := by
  cases h with
  | tup s t => exact ⟨_, _, rfl, s, t⟩
theorem T.lstAt {v : V} {ds : List Tr} (h : T K H P v (.lst ds)) : ∃ a xs, v = .ref a ∧ P a ∧ SqL K H a xs ∧ Ts K H P xs ds := by
  cases h with
  | lst p s t => exact ⟨_, _, rfl, p, s, t⟩
theorem T.strAt {v : V} {x : Str} (h : T K H P v (.str x)) : v = .str x := by
  cases h
  rfl
theorem T.intAt {v : V} {x : Int} (h : T K H P v (.int x)) : v = .int x := by
  cases h
  rfl
theorem T.blAt {v : V} {x : Bool} (h : T K H P v (.bl x)) : v = .bl x := by
  cases h
  rfl
theorem T.nonAt {v : V} (h : T K H P v .non) : v = .non := by
  cases h
  rfl
theorem Ts.c {vs : List V} {d : Tr} {ds : List Tr} (h : Ts K H P vs (d :: ds)) : ∃ v us, vs = v :: us ∧ T K H P v d ∧ Ts K H P us ds := by
  cases h with
  | cons a b => exact ⟨_, _, rfl, a, b⟩
theorem Ts.n {vs : List V} (h : Ts K H P vs []) : vs = [] := by
  cases h
  rfl
/-- an edit, opened -/
theorem Ed.at {v : V} {e : Ed} (h : T K H P v e.tr) : ∃ b, v = .ref b ∧ match e with
    | .put k n x => ∃ y, SqT K H b [.str "put", .str k, .str n, y] ∧ T K H P y x
    | .drop k n => SqT K H b [.str "drop", .str k, .str n] := by
  cases e with
  | put k n x =>
    obtain ⟨b, xs, rfl, s, t⟩ := h.tupAt
    obtain ⟨v1, u1, rfl, t1, t⟩ := t.c
    obtain ⟨v2, u2, rfl, t2, t⟩ := t.c
    obtain ⟨v3, u3, rfl, t3, t⟩ := t.c
    obtain ⟨v4, u4, rfl, t4, t⟩ := t.c
    cases t.n
    cases t1.strAt
    cases t2.strAt
    cases t3.strAt
    exact ⟨b, rfl, v4, s, t4⟩
  | drop k n =>
    obtain ⟨b, xs, rfl, s, t⟩ := h.tupAt
    obtain ⟨v1, u1, rfl, t1, t⟩ := t.c
    obtain ⟨v2, u2, rfl, t2, t⟩ := t.c
    obtain ⟨v3, u3, rfl, t3, t⟩ := t.c
    cases t.n
    cases t1.strAt
    cases t2.strAt
    cases t3.strAt
    exact ⟨b, rfl, s⟩
theorem sq_new {p : Addr} {o : List V} : SqL K (upd H p (.lst o)) p o := .inl (.inl upd_same)
theorem st_new {p : Addr} {o : List V} : SqT K (upd H p (.tup o)) p o := .inl (.inl upd_same)
theorem q_ixT' {v : V} {i : Int} {Q : VK} (h : SqT K H a xs) (hi : atI xs i = some v) (q : Q v H) : rIxU K (.ref a) (.int i) H Q := q_ixT h hi q
theorem q_nf {A B : Prop} (h : A) : if (!false) = true then A else B := by
  rw [if_pos (by rfl)]
  exact h
theorem q_nt {A B : Prop} (h : B) : if (!true) = true then A else B := by
  rw [if_neg (by decide)]
  exact h
theorem Same.refl' : Same H H := Same.refl H
/-! ### what is read stays where a dict is locked -/
def RS (H H' : Hp) : Prop := ∀ b u, (∀ o v, u ≠ .frz o v) → Rd H b u → Rd H' b u
theorem RS.of (s : Same H H') : RS H H' := fun b u _ h => Sm.rd s h
theorem RS.refl (H : Hp) : RS H H := fun _ _ _ h => h
theorem RS.trans {H1 : Hp} (s : RS H H1) (t : RS H1 H') : RS H H' := fun b u n h => t b u n (s b u n h)
theorem RS.sqT (s : RS H H') (h : SqT K H a xs) : SqT K H' a xs := h.imp (s _ _ fun _ _ z => nomatch z) fun z => z
theorem RS.sqL (s : RS H H') (h : SqL K H a xs) : SqL K H' a xs := h.imp (s _ _ fun _ _ z => nomatch z) fun z => z
theorem RS.dk {kvs : List (Key × V)} (s : RS H H') (h : Rd H a (.dK kvs)) : Rd H' a (.dK kvs) := s _ _ (fun _ _ z => nomatch z) h
mutual
theorem T.rs (s : RS H H') : ∀ {v : V} {d : Tr}, T K H P v d → T K H' P v d
  | _, _, .non => .non
  | _, _, .bl b => .bl b
  | _, _, .int i => .int i
  | _, _, .str x => .str x
  | _, _, .lst p h t => .lst p (s.sqL h) (Ts.rs s t)
  | _, _, .tup h t => .tup (s.sqT h) (Ts.rs s t)
  | _, _, .dic p h t => .dic p (s.dk h) (Tk.rs s t)
theorem Ts.rs (s : RS H H') : ∀ {v : List V} {d : List Tr}, Ts K H P v d → Ts K H' P v d
  | _, _, .nil => .nil
  | _, _, .cons h t => .cons (T.rs s h) (Ts.rs s t)
theorem Tk.rs (s : RS H H') : ∀ {v : List (Key × V)} {d : List (Key × Tr)}, Tk K H P v d → Tk K H' P v d
  | _, _, .nil => .nil
  | _, _, .cons h t => .cons (T.rs s h) (Tk.rs s t)
end
/-- a dict is locked while it is walked, if it is not so already -/
structure Lkd (H Hl : Hp) (a : Addr) (kvs : List (Key × V)) (od : Obj) (un : Hp → Hp) : Prop where
  at_ : Hl a = some (.frz od (.dK kvs))
  el : ∀ b, b ≠ a → Hl b = H b
  back : ∀ H', H' a = some (.frz od (.dK kvs)) → un H' a = H a
  un : ∀ H' b, b ≠ a → un H' b = H' b
  rd : Rd H a (.dK kvs)
section
variable {Hl : Hp} {kvs : List (Key × V)} {od : Obj} {un : Hp → Hp}
theorem Lkd.rs (l : Lkd H Hl a kvs od un) : RS H Hl := fun b u n h => by
  by_cases e : b = a
  · subst e
    rcases l.rd with z | ⟨o, z⟩
    · rcases h with h | ⟨o', h⟩
      · rw [z] at h
        cases h
        exact .inr ⟨od, l.at_⟩
      · rw [z] at h
        cases h
    · rcases h with h | ⟨o', h⟩
      · rw [z] at h
        cases h
        exact absurd rfl (n _ _)
      · rw [z] at h
        cases h
        exact .inr ⟨od, l.at_⟩
  · have h' : Rd Hl b u := by
      unfold Rd
      rw [l.el b e]
      exact h
    exact h'
/-- what is new at the lock is new ahead of it, and the other way round -/
theorem Lkd.new (l : Lkd H Hl a kvs od un) {b : Addr} : Hl b = none ↔ H b = none := by
  by_cases e : b = a
  · subst e
    rw [l.at_]
    rcases l.rd with z | ⟨o, z⟩ <;> simp [z]
  · rw [l.el b e]
theorem Lkd.same (l : Lkd H Hl a kvs od un) (s : Same Hl H') : Same H (un H') := fun b o e => by
  by_cases h : b = a
  · subst h
    rw [l.back _ (s _ _ l.at_)]
    exact e
  · rw [l.un _ _ h]
    exact s b o (by rw [l.el b h]; exact e)
theorem Lkd.unrs (l : Lkd H Hl a kvs od un) (e : H' a = some (.frz od (.dK kvs))) : RS H' (un H') := fun b u n h => by
  by_cases hb : b = a
  · subst hb
    rcases h with h | ⟨o', h⟩
    · rw [e] at h
      cases h
      exact absurd rfl (n _ _)
    · rw [e] at h
      cases h
      have z := l.back H' e
      rcases l.rd with r | ⟨o, r⟩
      · exact .inl (by rw [z]; exact r)
      · exact .inr ⟨o, by rw [z]; exact r⟩
  · unfold Rd
    rw [l.un _ _ hb]
    exact h
/-- the locked dict is no part of it -/
theorem Lkd.own {N : Addr → Prop} {r : Addr} {h : Hs} (l : Lkd H Hl a kvs od un) (hN : ∀ b, N b → b ≠ a) (e : H' a = some (.frz od (.dK kvs))) (o : Own K N H' r h) : Own K N (un H') r h := by
  obtain ⟨qs, kvs, h1, h2, h3, h4⟩ := o.ex
  have ot : ∀ {h : Hs} {qs : List Addr} {kvs : List (Key × V)}, (∀ q ∈ qs, N q) → OT K H' h qs kvs → OT K (un H') h qs kvs := by
    intro h qs kvs hq o
    induction o with
    | nil => exact .nil
    | cons x t r ih => exact .cons (by rw [l.un _ _ (hN _ (hq _ List.mem_cons_self))]; exact x) (t.rs (l.unrs e)) (ih fun q m => hq q (List.mem_cons_of_mem _ m))
  exact ⟨qs, kvs, by rw [l.un _ _ (hN _ (h4 r List.mem_cons_self))]; exact h1, ot (fun q m => h4 q (List.mem_cons_of_mem _ m)) h2, h3, h4⟩
theorem q_lockE {t : TE} {σ : L2.St} {Q : VK} (hr : Rd H a (.dK kvs)) (h : ∀ Hl od un (Q' : VK), Lkd H Hl a kvs od un → (∀ v H', H' a = some (.frz od (.dK kvs)) → Q v (un H') → Q' v H') → t σ Hl Q') : tLockEU t σ H Q := by
  rcases hr with e | ⟨od, e⟩
  · exact .inr ⟨a, .dK kvs, e, trivial, fun od => h _ od (fun H' => upd H' a (.dK kvs)) _ ⟨upd_same, fun b n => upd_ne n, fun _ _ => by rw [upd_same, e], fun _ b n => upd_ne n, .inl e⟩ fun v H' z q => ⟨z, q⟩⟩
  · exact .inl (h H od (fun H' => H') Q ⟨e, fun _ _ => rfl, fun _ z => by rw [z, e], fun _ _ _ => rfl, .inr ⟨od, e⟩⟩ fun v H' _ q => q)
/-- the ends ahead of a lock and within it -/
structure LkE (D D' : Ends) (a : Addr) (kvs : List (Key × V)) (od : Obj) (un : Hp → Hp) : Prop where
  nx : ∀ σ' H', H' a = some (.frz od (.dK kvs)) → D.nx σ' (un H') → D'.nx σ' H'
  rt : ∀ v H', H' a = some (.frz od (.dK kvs)) → D.rt v (un H') → D'.rt v H'
  bk : ∀ σ' H', H' a = some (.frz od (.dK kvs)) → D.bk σ' (un H') → D'.bk σ' H'
  ct : ∀ σ' H', H' a = some (.frz od (.dK kvs)) → D.ct σ' (un H') → D'.ct σ' H'
theorem q_lockS {t : TS} {D : Ends} {σ : L2.St} (hr : Rd H a (.dK kvs)) (h : ∀ Hl od un D', Lkd H Hl a kvs od un → LkE D D' a kvs od un → t D' σ Hl) : tLockU t D σ H := by
  rcases hr with e | ⟨od, e⟩
  · exact .inr ⟨a, .dK kvs, e, trivial, fun od => h _ od (fun H' => upd H' a (.dK kvs)) _ ⟨upd_same, fun b n => upd_ne n, fun _ _ => by rw [upd_same, e], fun _ b n => upd_ne n, .inl e⟩ ⟨fun _ _ z q => ⟨z, q⟩, fun _ _ z q => ⟨z, q⟩, fun _ _ z q => ⟨z, q⟩, fun _ _ z q => ⟨z, q⟩⟩⟩
  · exact .inl (h H od (fun H' => H') D ⟨e, fun _ _ => rfl, fun _ z => by rw [z, e], fun _ _ _ => rfl, .inr ⟨od, e⟩⟩ ⟨fun _ _ _ q => q, fun _ _ _ q => q, fun _ _ _ q => q, fun _ _ _ q => q⟩)
/-- its keys are walked; a list's, a tuple's items are -/
def kB (R : It → Hp → Prop) (x : V) (H1 : Hp) : Prop := ∃ d o, x = .ref d ∧ ((∃ kvs, H1 d = some (.frz o (.dK kvs)) ∧ R (Itk d o kvs) H1) ∨ ∃ kvs, H1 d = some (.frz o (.dT kvs)) ∧ R (Itkt d o kvs) H1)
def lB (K : PySem.W.Frag) (R : It → Hp → Prop) (x : V) (H1 : Hp) : Prop := ∃ a, x = .ref a ∧ (∃ xs, SqL K H1 a xs) ∧ R (Itl K a) H1
def tpB (K : PySem.W.Frag) (R : It → Hp → Prop) (x : V) (H1 : Hp) : Prop := ∃ a, x = .ref a ∧ (∃ xs, SqT K H1 a xs) ∧ R (Itt K a) H1
theorem q_keys {te : TE} {σ : L2.St} {R : It → Hp → Prop} (h : te σ H (kB R)) : iAny K te σ H R := .inr (.inr h)
theorem q_items {te : TE} {σ : L2.St} {R : It → Hp → Prop} (h : te σ H (lB K R)) : iAny K te σ H R := .inl h
theorem q_tups {te : TE} {σ : L2.St} {R : It → Hp → Prop} (h : te σ H (tpB K R)) : iAny K te σ H R := .inr (.inl h)
theorem q_keysE {x : Addr} {R : It → Hp → Prop} (e : H x = some (.frz od (.dK kvs))) (r : R (Itk x od kvs) H) : kB R (.ref x) H := ⟨x, od, rfl, .inl ⟨kvs, e, r⟩⟩
theorem q_itemsE {x : Addr} {xs : List V} {R : It → Hp → Prop} (e : SqL K H x xs) (r : R (Itl K x) H) : lB K R (.ref x) H := ⟨x, rfl, ⟨xs, e⟩, r⟩
theorem q_tupsE {x : Addr} {xs : List V} {R : It → Hp → Prop} (e : SqT K H x xs) (r : R (Itt K x) H) : tpB K R (.ref x) H := ⟨x, rfl, ⟨xs, e⟩, r⟩
end
end
end TU

set_option Elab.async false
set_option linter.all false
set_option maxRecDepth 100000
namespace TU
open PySem PySem.Spec PyProof.Rows L2
/-! ### the rules, the written part named -/
section
variable {X : Cx} {K : PySem.W.Frag}
theorem k_add (h : X.K = K) : OpR X (binaryOp .Add) (rAddU K) := h ▸ op_addU
theorem k_eq (h : X.K = K) (hu : X.A.units + 64 < cLine) : OpR X (compareOp .Eq) (rEqU K) := h ▸ op_eqU hu
theorem k_ne (h : X.K = K) (hu : X.A.units + 64 < cLine) : OpR X (compareOp .NotEq) (rNeU K) := h ▸ op_neU hu
theorem k_in (h : X.K = K) (hu : X.A.units + 64 < cLine) : OpR X (compareOp .In) (rInU false K) := h ▸ op_inU hu
theorem k_nin (h : X.K = K) (hu : X.A.units + 64 < cLine) : OpR X (compareOp .NotIn) (rInU true K) := h ▸ op_notInU hu
theorem k_ix (h : X.K = K) (hu : X.A.units + 64 < cLine) : IxR X (rIxU K) := h ▸ ix_any hu
theorem k_sl (h : X.K = K) : SlR X (rSlU K) := h ▸ sl_any
theorem k_len (h : X.K = K) : CallR X (.builtin "len") (rLenU K) := h ▸ call_lenU
theorem k_list (h : X.K = K) (hc : X.calm = true) : CallR X (.type "list") (rListU K) := h ▸ call_listU hc
theorem k_sort (h : X.K = K) (hc : X.calm = true) : CallR X (.builtin "sorted") (rSortU K) := h ▸ call_sortU hc
theorem k_isi (h : X.K = K) : CallR X (.builtin "isinstance") (rIsi K) := h ▸ call_isi
theorem k_sum (h : X.K = K) (hc : X.calm = true) : CallR X (.builtin "sum") (rSum K) := h ▸ cr_sum hc
theorem k_all (h : X.K = K) (hc : X.calm = true) : CallR X (.builtin "all") (rAll K) := h ▸ cr_all hc
theorem k_anyb (h : X.K = K) (hc : X.calm = true) : CallR X (.builtin "any") (rAny K) := h ▸ cr_any hc
theorem k_repr (h : X.K = K) (hg : X.A.guards = some []) (hu : X.A.units + 64 < cLine) : CallR X (.builtin "repr") (rReprT K) := h ▸ call_reprT hg hu
theorem k_tr {e : Expr} {te : TE} (h : X.K = K) (he : PE X e te) (hi : ∀ whole, isTrue e X.env whole = (do let v ← whole; standAt e.pos; holding [v] (truthy v)) := by intro _; rfl) : PT X e (tTr K te) := h ▸ pt_tr he hi
theorem k_walk {tg e : Expr} {te : TE} (h : X.K = K) (he : PE X e te) : PI X tg e (iAny K te) := h ▸ pi_any he
theorem k_rev {e : Expr} {te : TE} {k : Nat} {p1 p2 p3 pos : Pos} (h : X.K = K) (he : PE X e te) : PE X (.Subscript e (.Slice none none (some (.UnaryOp .USub (.Constant (.int 1) k p1) p2)) p3) pos) (tRevL K te) := h ▸ pe_revL he
theorem k_tup {es : List Expr} {k : Nat} {t : TGs} {pos : Pos} {n : Nat} (h : X.K = K) (hc : X.calm = true) (ht : PGs X es t) (hn : (assignEach es X.env).length = n := by rfl) (hst : (assignEach es X.env).findIdx? (·.1) = none := by rfl) : PG X (.Tuple es k pos) (gTup K n t) := h ▸ pg_tup hc ht hn hst
theorem k_fld {e : Expr} {f : Str} {pos : Pos} {te : TE} (h : X.K = K) (he : PE X e te) (hb : attributeBase e f X.env (eval e X.env) = eval e X.env) : PE X (.Attribute e f pos) (tFld K te f) := h ▸ pe_fld he hb
theorem k_append {o e : Expr} {to : TE} {t : TA} {apos cpos : Pos} (h : X.K = K) (ho : PE X o to) (ha : PA X [e] t)
    (hbase : attributeBase o "append" X.env (eval o X.env) = eval o X.env := by rfl)
    (hfew : ((backTo cpos (starEach [e] X.env)).all (fun x => !x.1) && (backToKw cpos (keywordEach [] X.env)).all (fun x => x.1.isSome) && decide (([e] : List Expr).length + ([] : List Keyword).length + (if ([] : List Keyword).isEmpty then 0 else 1) < 30)) = true := by rfl)
    (hline : (apos.endLine == cpos.line) = true := by rfl) (hs : starEach [e] X.env = (false, eval e X.env) :: starEach [] X.env := by rfl) (hplain : (backTo cpos (starEach [] X.env)).any (·.1) = false := by rfl) :
    PE X (.Call (.Attribute o "append" apos) [e] [] cpos) (tBM K "list" rAppend to t) := h ▸ pe_bm PySem.F.plainAttrs_list PySem.F.slot_list_append PySem.F.type_list_append mt_append ho ha hbase hfew hline hs hplain
end
end TU

set_option Elab.async false
set_option linter.all false
set_option maxRecDepth 100000
namespace TU
open PySem PySem.Spec PyProof.Rows L2
section
variable {K : PySem.W.Frag}
/-- the pairs of a table by place -/
theorem at_tK {t : Tab} {i : Nat} {n : Str} {d : Tr} (h : t[i]? = some (n, d)) : (tK t)[i]? = some (.inr n, d) := by
  unfold tK
  rw [List.getElem?_map, h]
  rfl
theorem at_hK {t : Hs} {i : Nat} {n : Str} {d : Tab} (h : t[i]? = some (n, d)) : (hK t)[i]? = some (.inr n, .dic (tK d)) := by
  unfold hK
  rw [List.getElem?_map, h]
  rfl
theorem take_more {α : Type} {l : List α} {i : Nat} {x : α} (h : l[i]? = some x) : l.take (i + 1) = l.take i ++ [x] := by
  rw [List.take_add_one, h]
  rfl
theorem mem_at {α : Type} {l : List α} {i : Nat} {x : α} (h : l[i]? = some x) : x ∈ l := List.mem_of_getElem? h
theorem nd_at {l : List Str} (nd : l.Nodup) {i : Nat} {x : Str} (h : l[i]? = some x) : x ∉ l.take i := fun m => by
  obtain ⟨j, hj, e⟩ := List.getElem_of_mem m
  have hi : i < l.length := (List.getElem?_eq_some_iff.mp h).1
  rw [List.length_take] at hj
  have e2 : l[j]? = some x := by
    rw [← e, List.getElem_take]
    exact List.getElem?_eq_getElem (by omega)
  have := List.pairwise_iff_getElem.mp nd j i (by omega) hi (by omega)
  rw [List.getElem?_eq_getElem hi] at h
  rw [List.getElem?_eq_getElem (by omega)] at e2
  exact this (by rw [Option.some.inj e2, Option.some.inj h])
theorem nms_at {β : Type} {l : List (Str × β)} {i : Nat} {n : Str} {d : β} (h : l[i]? = some (n, d)) : (nms l)[i]? = some n := by
  unfold nms
  rw [List.getElem?_map, h]
  rfl
theorem nms_take {β : Type} (l : List (Str × β)) (i : Nat) : nms (l.take i) = (nms l).take i := by
  unfold nms
  rw [List.map_take]
theorem cpH_take (h : Hs) (i : Nat) : cpH (h.take i) = (cpH h).take i := by
  unfold cpH
  rw [List.map_take]
theorem nms_cpH (h : Hs) : nms (cpH h) = nms h := by
  unfold nms cpH
  rw [List.map_map]
  rfl
theorem cpH_at {h : Hs} {i : Nat} {n : Str} {t : Tab} (e : h[i]? = some (n, t)) : (cpH h)[i]? = some (n, ord t) := by
  unfold cpH
  rw [List.getElem?_map, e]
  rfl
theorem Tk.at {H : Hp} {N : Addr → Prop} : ∀ {kvs : List (Key × V)} {es : List (Key × Tr)} {i : Nat} {k : Key} {v : V}, Tk K H N kvs es → kvs[i]? = some (k, v) → ∃ d, es[i]? = some (k, d) ∧ T K H N v d
  | _, _, _, _, _, .nil, e => by simp at e
  | _, _, 0, k, v, .cons h _, e => by
    simp at e
    obtain ⟨rfl, rfl⟩ := e
    exact ⟨_, rfl, h⟩
  | _, _, i + 1, k, v, .cons _ t, e => by
    obtain ⟨d, h1, h2⟩ := Tk.at (i := i) t (by simpa using e)
    exact ⟨d, by simpa using h1, h2⟩
theorem hK_at {h : Hs} {i : Nat} {k : Key} {d : Tr} (e : (hK h)[i]? = some (k, d)) : ∃ n t, h[i]? = some (n, t) ∧ k = .inr n ∧ d = .dic (tK t) := by
  unfold hK at e
  rw [List.getElem?_map] at e
  cases q : h[i]? with
  | none =>
    rw [q] at e
    cases e
  | some p =>
    rw [q] at e
    cases e
    exact ⟨p.1, p.2, rfl, rfl, rfl⟩
theorem srt_at {l : List Str} {j : Nat} {x : V} (e : (l.map V.str)[j]? = some x) : ∃ n, l[j]? = some n ∧ x = .str n := by
  rw [List.getElem?_map] at e
  cases q : l[j]? with
  | none =>
    rw [q] at e
    cases e
  | some n =>
    rw [q] at e
    cases e
    exact ⟨n, rfl, rfl⟩
theorem ord_at {t : Tab} {j : Nat} {n : Str} (e : (srt (nms t))[j]? = some n) : ∃ d, (ord t)[j]? = some (n, d) ∧ lk t n = some d := by
  have m : n ∈ nms t := (srt_perm _).mem_iff.mp (mem_at e)
  cases q : lk t n with
  | none => exact absurd m (lk_none.mp q)
  | some d =>
    refine ⟨d, ?_, rfl⟩
    unfold ord
    rw [List.getElem?_map, e]
    show some (n, (lk t n).getD default) = _
    rw [q]
    rfl
theorem immT_lk {t : Tab} (h : immT t) {n : Str} {d : Tr} (e : lk t n = some d) : imm d = true := h _ (lk_mem e)
theorem tK_snoc (t : Tab) (n : Str) (d : Tr) : tK (t ++ [(n, d)]) = tK t ++ [(.inr n, d)] := by
  unfold tK
  rw [List.map_append]
  rfl
theorem len_small {n : Nat} (h : n ≤ 100000) : n < sizeLine := Nat.lt_of_le_of_lt h (by decide)


/-- an Unknown with its two words -/
def XUnk (C : Addr) (what name : Str) (H : Hp) (E : XK) : Prop := ∀ d H', Same H H' → H' d = some (.xd [("name", .str name), ("what", .str what)]) → E (.ref C) (some d) H'
end
end TU

set_option Elab.async false
set_option linter.all false
set_option maxRecDepth 100000
namespace TU
open PySem PySem.Spec PyProof.Rows L2
section
variable {K : PySem.W.Frag} {H H' : Hp} {N : Addr → Prop}
theorem XUnk.mono {C : Addr} {w n : Str} {E : XK} (s : Same H H') (x : XUnk C w n H E) : XUnk C w n H' E := fun d H1 s1 e => x d H1 (s.trans s1) e
theorem Own.live {r : Addr} {h : Hs} (o : Own K N H r h) : Own K (fun b => N b ∧ H b ≠ none) H r h := by
  obtain ⟨qs, kvs, h1, h2, h3, h4⟩ := o.ex
  refine ⟨qs, kvs, h1, h2, h3, fun q m => ⟨h4 q m, ?_⟩⟩
  rcases List.mem_cons.mp m with e | m
  · rw [e, h1]
    exact fun z => nomatch z
  · exact h2.mem m
theorem appAll_cons (h : Hs) (e : Ed) (es : List Ed) : appAll h (e :: es) = eb (app1 h e) fun h' => appAll h' es := rfl
theorem appAll_append : ∀ (h : Hs) (xs ys : List Ed), appAll h (xs ++ ys) = eb (appAll h xs) fun h' => appAll h' ys
  | h, [], ys => rfl
  | h, e :: xs, ys => by
    rw [List.cons_append, appAll_cons, appAll_cons]
    cases app1 h e with
    | ok h' => exact appAll_append h' xs ys
    | error x => rfl
theorem appAll_one (h : Hs) (e : Ed) : appAll h [e] = app1 h e := by
  rw [appAll_cons]
  cases app1 h e <;> rfl
/-- the edits up to a place, and one more -/
theorem appAll_more {h hi : Hs} {es : List Ed} {i : Nat} {e : Ed} (he : es[i]? = some e) (ha : appAll h (es.take i) = .ok hi) : appAll h (es.take (i + 1)) = app1 hi e := by
  rw [take_more he, appAll_append, ha]
  exact appAll_one hi e
theorem appAll_stop {h hi : Hs} {es : List Ed} {i : Nat} {e : Ed} {x : Str × Str} (he : es[i]? = some e) (ha : appAll h (es.take i) = .ok hi) (hx : app1 hi e = .error x) : appAll h es = .error x := by
  have e1 := appAll_more he ha
  rw [hx] at e1
  have e2 := appAll_append h (es.take (i + 1)) (es.drop (i + 1))
  rw [List.take_append_drop, e1] at e2
  exact e2
theorem nms_cp (h : Hs) : nms (cpH h) = nms h := nms_cpH h
theorem immT_put {t : Tab} (h : immT t) (n : Str) {d : Tr} (hd : imm d = true) : immT (put t n d) := by
  intro p hp
  induction t with
  | nil =>
    have e : p = (n, d) := List.mem_singleton.mp hp
    rw [e]
    exact hd
  | cons q r ih =>
    unfold put at hp
    by_cases e : q.1 = n
    · rw [if_pos e] at hp
      rcases List.mem_cons.mp hp with e | m
      · rw [e]
        exact hd
      · exact h p (List.mem_cons_of_mem _ m)
    · rw [if_neg e] at hp
      rcases List.mem_cons.mp hp with e | m
      · rw [e]
        exact h q List.mem_cons_self
      · exact ih (fun x hx => h x (List.mem_cons_of_mem _ hx)) m
theorem mem_del {β : Type} {t : List (Str × β)} {n : Str} {p : Str × β} (hp : p ∈ del t n) : p ∈ t := by
  induction t with
  | nil => exact hp
  | cons q r ih =>
    unfold del at hp
    by_cases e : q.1 = n
    · rw [if_pos e] at hp
      exact List.mem_cons_of_mem _ hp
    · rw [if_neg e] at hp
      rcases List.mem_cons.mp hp with e | m
      · rw [e]
        exact List.mem_cons_self
      · exact List.mem_cons_of_mem _ (ih m)
theorem immT_del {t : Tab} (h : immT t) (n : Str) : immT (del t n) := fun p hp => h p (mem_del hp)
theorem mem_put {β : Type} {t : List (Str × β)} {n : Str} {v : β} {p : Str × β} (hp : p ∈ put t n v) : p ∈ t ∨ p = (n, v) := by
  induction t with
  | nil => exact .inr (List.mem_singleton.mp hp)
  | cons q r ih =>
    unfold put at hp
    by_cases e : q.1 = n
    · rw [if_pos e] at hp
      rcases List.mem_cons.mp hp with e2 | m
      · rw [e] at e2
        exact .inr e2
      · exact .inl (List.mem_cons_of_mem _ m)
    · rw [if_neg e] at hp
      rcases List.mem_cons.mp hp with e2 | m
      · rw [e2]
        exact .inl List.mem_cons_self
      · exact (ih m).imp (List.mem_cons_of_mem _) id
theorem immT_ord {t : Tab} (h : immT t) : immT (ord t) := by
  intro p hp
  unfold ord at hp
  obtain ⟨n, hn, rfl⟩ := List.mem_map.mp hp
  have m : n ∈ nms t := (srt_perm _).mem_iff.mp hn
  cases q : lk t n with
  | none => exact absurd m (lk_none.mp q)
  | some d => exact immT_lk h q
theorem Wf.cp {h : Hs} (w : Wf h) : Wf (cpH h) := by
  refine ⟨by rw [nms_cpH]; exact w.nd, fun p hp => ?_⟩
  obtain ⟨q, hq, rfl⟩ := List.mem_map.mp hp
  exact ⟨nd_ord (w.tab q hq).1, immT_ord (w.tab q hq).2⟩
theorem Wf.set {h : Hs} (w : Wf h) {k : Str} {t : Tab} (nd : (nms t).Nodup) (im : immT t) : Wf (put h k t) := by
  refine ⟨nd_put w.nd k t, fun p hp => ?_⟩
  rcases mem_put hp with m | e
  · exact w.tab p m
  · rw [e]
    exact ⟨nd, im⟩
theorem Fits.cp {n : Nat} {h : Hs} (f : Fits n h) : Fits n (cpH h) := fun p hp => by
  obtain ⟨q, hq, rfl⟩ := List.mem_map.mp hp
  rw [len_ord]
  exact f q hq
theorem Fits.set {n m : Nat} {h : Hs} (f : Fits n h) (hnm : n ≤ m) {k : Str} {t : Tab} (ht : t.length ≤ m) : Fits m (put h k t) := fun p hp => by
  rcases mem_put hp with x | e
  · exact Nat.le_trans (f p x) hnm
  · rw [e]
    exact ht
theorem len_cp (h : Hs) : (cpH h).length = h.length := by
  unfold cpH
  rw [List.length_map]
theorem len_put_of {β : Type} {h : List (Str × β)} {k : Str} {v : β} (m : k ∈ nms h) : (put h k v).length = h.length := by
  rw [← nms_len, nms_put, if_pos m, nms_len]
theorem nms_put_of {β : Type} {h : List (Str × β)} {k : Str} {v : β} (m : k ∈ nms h) : nms (put h k v) = nms h := by rw [nms_put, if_pos m]
/-- what one edit leaves of the shape -/
theorem app1_ok {h h' : Hs} {e : Ed} (w : Wf h) (im : e.Imm) {n : Nat} (f : Fits n h) (ha : app1 h e = .ok h') : Wf h' ∧ Fits (n + 1) h' ∧ nms h' = nms h := by
  unfold app1 at ha
  cases q : lk h e.key with
  | none =>
    rw [q] at ha
    cases ha
  | some t =>
    rw [q] at ha
    have hm := lk_mem q
    have wt := w.tab _ hm
    have ft : t.length ≤ n := f _ hm
    have hk : e.key ∈ nms h := mem_nms hm
    cases e with
    | put k m d =>
      cases ha
      have := len_put_le t m d
      exact ⟨w.set (nd_put wt.1 m d) (immT_put wt.2 m im), f.set (Nat.le_succ _) (by omega), nms_put_of hk⟩
    | drop k m =>
      by_cases hn : m ∈ nms t
      · simp only [if_pos hn] at ha
        cases ha
        have := len_del_le t m
        exact ⟨w.set (nd_del wt.1 m) (immT_del wt.2 m), f.set (Nat.le_succ _) (by omega), nms_put_of hk⟩
      · simp only [if_neg hn] at ha
        cases ha
theorem appAll_ok : ∀ {es : List Ed} {h h' : Hs} {n : Nat}, Wf h → (∀ e ∈ es, e.Imm) → Fits n h → appAll h es = .ok h' → Wf h' ∧ Fits (n + es.length) h' ∧ nms h' = nms h
  | [], h, h', n, w, im, f, ha => by
    cases ha
    exact ⟨w, f, rfl⟩
  | e :: es, h, h', n, w, im, f, ha => by
    rw [appAll_cons] at ha
    cases q : app1 h e with
    | error x =>
      rw [q] at ha
      cases ha
    | ok h1 =>
      rw [q] at ha
      obtain ⟨w1, f1, n1⟩ := app1_ok w (im e List.mem_cons_self) f q
      obtain ⟨w2, f2, n2⟩ := appAll_ok w1 (fun x hx => im x (List.mem_cons_of_mem _ hx)) f1 ha
      refine ⟨w2, ?_, n2.trans n1⟩
      rw [List.length_cons, show n + (es.length + 1) = n + 1 + es.length by omega]
      exact f2
theorem len_of_nms {h h' : Hs} (e : nms h' = nms h) : h'.length = h.length := by rw [← nms_len h', e, nms_len]
theorem Ts.gets {vs : List V} {ds : List Tr} {i : Nat} {v : V} (h : Ts K H N vs ds) (e : vs[i]? = some v) : ∃ d, ds[i]? = some d ∧ T K H N v d := h.get e
theorem map_at {α β : Type} {f : α → β} {l : List α} {i : Nat} {y : β} (e : (l.map f)[i]? = some y) : ∃ x, l[i]? = some x ∧ y = f x := by
  rw [List.getElem?_map] at e
  cases q : l[i]? with
  | none =>
    rw [q] at e
    cases e
  | some x =>
    rw [q] at e
    cases e
    exact ⟨x, rfl, rfl⟩
/-- what leads back from one edit; from a list of edits -/
def inv1 (h : Hs) (e : Ed) : Ed := match lk h e.key with
  | none => .drop e.key e.name
  | some t => match lk t e.name with
    | some d => .put e.key e.name d
    | none => .drop e.key e.name
def invs : Hs → List Ed → List Ed
  | _, [] => []
  | h, e :: es => inv1 h e :: (match app1 h e with | .ok h' => invs h' es | .error _ => [])
theorem inv1_imm {h : Hs} (w : Wf h) (e : Ed) : (inv1 h e).Imm := by
  cases q : lk h e.key with
  | none =>
    simp only [inv1, q]
    trivial
  | some t =>
    cases q2 : lk t e.name with
    | none =>
      simp only [inv1, q, q2]
      trivial
    | some d =>
      simp only [inv1, q, q2]
      exact immT_lk (w.tab _ (lk_mem q)).2 q2
theorem invs_more : ∀ {es : List Ed} {h hi : Hs} {i : Nat} {e : Ed}, es[i]? = some e → appAll h (es.take i) = .ok hi → invs h (es.take (i + 1)) = invs h (es.take i) ++ [inv1 hi e]
  | [], _, _, _, _, he, _ => by simp at he
  | x :: es, h, hi, 0, e, he, ha => by
    have e1 : x = e := by simpa using he
    have e2 : h = hi := by
      have : Except.ok h = Except.ok hi := ha
      exact Except.ok.inj this
    subst e1 e2
    show inv1 h x :: (match app1 h x with | .ok h' => invs h' [] | .error _ => []) = [inv1 h x]
    cases app1 h x <;> rfl
  | x :: es, h, hi, i + 1, e, he, ha => by
    have he' : es[i]? = some e := by simpa using he
    rw [List.take_succ_cons] at ha ⊢
    rw [List.take_succ_cons]
    rw [appAll_cons] at ha
    unfold invs
    cases q : app1 h x with
    | error z =>
      rw [q] at ha
      cases ha
    | ok h1 =>
      rw [q] at ha
      show inv1 h x :: invs h1 (es.take (i + 1)) = inv1 h x :: invs h1 (es.take i) ++ [inv1 hi e]
      rw [invs_more he' ha]
      rfl
end
section
variable {K : PySem.W.Frag} {σ : L2.St} {H : Hp} {D : Ends}
theorem q_is {α : Type} {x : α} {A B : Prop} (h : A) : if (some x).isSome = true then A else B := q_t h
theorem q_isn {α : Type} {A B : Prop} (h : B) : if (none : Option α).isSome = true then A else B := q_f h
theorem q_nis {α : Type} {x : α} {A B : Prop} (h : B) : if (!(some x).isSome) = true then A else B := q_nt h
theorem q_nisn {α : Type} {A B : Prop} (h : A) : if (!(none : Option α).isSome) = true then A else B := q_nf h
theorem q_ddel {td ty : TE} (h : td σ H fun x H1 => ty σ H1 fun y H2 => ∃ a kvs k, x = .ref a ∧ H2 a = some (.dK kvs) ∧ y = kV k ∧ (valV kvs k).isSome = true ∧ D.nx σ (upd H2 a (.dK (dropK kvs k)))) : sDDel td ty D σ H := h
theorem q_rev {te : TE} {Q : VK} (h : te σ H fun x H1 => ∃ a xs, x = .ref a ∧ SqL K H1 a xs ∧ ∀ p, H1 p = none → Q (.ref p) (upd H1 p (.lst xs.reverse))) : tRevL K te σ H Q := h
theorem Ts.rev {N : Addr → Prop} : ∀ {vs : List V} {ds : List Tr}, Ts K H N vs ds → Ts K H N vs.reverse ds.reverse
  | _, _, .nil => .nil
  | _, _, .cons h t => by
    rw [List.reverse_cons, List.reverse_cons]
    exact (Ts.rev t).append (.cons h .nil)
/-- over a list's items -/
theorem for_items {a : Addr} {xs : List V} {tb : TS} {j : Nat} (Pv : Nat → L2.St → Hp → Prop) (h0 : Pv 0 σ H) (hx : ∀ i σ H, i ≤ xs.length → Pv i σ H → SqL K H a xs)
    (hs : ∀ i x σ H, xs[i]? = some x → Pv i σ H → tb { D with nx := Pv (i + 1), ct := Pv (i + 1), bk := D.nx } (σ.set j (some x)) H) (hd : ∀ σ H, Pv xs.length σ H → D.nx σ H) : forB (Itl K a) (gName j) tb D σ H :=
  for_any walk_list Pv h0 hx (fun i x σ H H' _ p y => by
    obtain ⟨e, y⟩ := y
    subst e
    exact hs i x σ _ y p) hd
end
end TU

set_option Elab.async false
set_option linter.all false
set_option maxRecDepth 100000
namespace TU
open PySem PySem.Spec PyProof.Rows L2
section
variable {X : Cx}
def rIntU : List V → Hp → VK → Prop := fun xs H Q => (∃ i, xs = [.int i] ∧ Q (.int i) H) ∨ ∃ k, xs = [.bl k] ∧ Q (.int (if k then 1 else 0)) H
theorem k_int : CallR X (.type "int") rIntU := call_int1
def rAbsU : List V → Hp → VK → Prop := fun xs H Q => ∃ i, xs = [.int i] ∧ Q (.int (if i < 0 then -i else i)) H
theorem k_abs : CallR X (.builtin "abs") rAbsU := call_abs
end
section
variable {K : PySem.W.Frag} {σ : L2.St} {H H' : Hp} {Q : VK}
theorem q_intI {i : Int} (q : Q (.int i) H) : rIntU [.int i] H Q := .inl ⟨i, rfl, q⟩
theorem q_intB {b : Bool} (q : Q (.int (if b then 1 else 0)) H) : rIntU [.bl b] H Q := .inr ⟨b, rfl, q⟩
theorem q_abs {i : Int} (q : Q (.int (if i < 0 then -i else i)) H) : rAbsU [.int i] H Q := ⟨i, rfl, q⟩
theorem upd_self {a : Addr} {o : HO} (e : H a = some o) : upd H a o = H := by
  funext b
  by_cases h : b = a
  · rw [h, upd_same, e]
  · rw [upd_ne h]
/-- where a lies may be written; all else stays -/
def Kp (a : Addr) (H H' : Hp) : Prop := Keeps (fun b => b = a) H H'
theorem Kp.refl {a : Addr} : Kp a H H := fun _ _ _ e => e
theorem Kp.trans {a : Addr} {H1 : Hp} (x : Kp a H H1) (y : Kp a H1 H') : Kp a H H' := fun b o n e => y b o n (x b o n e)
theorem Kp.of {a : Addr} (s : Same H H') : Kp a H H' := fun b o _ e => s b o e
theorem Kp.upd {a : Addr} {o : HO} : Kp a H (upd H a o) := keeps_upd
/-- what is new since H1, where H1 knows a, may change, too -/
theorem Kp.new {a p : Addr} {H1 : Hp} {o : HO} (x : Kp a H H1) (hp : H p = none) : Kp a H (L2.upd H1 p o) := fun b u n e => by
  rw [upd_ne (ne_of_none e hp)]
  exact x b u n e
/-- the draws' list and place -/
structure Rnd (H : Hp) (j a : Addr) (p : Int) : Prop where
  ex : ∃ ns : List Int, H j = some (.lst (ns.map V.int)) ∧ ns.length ≤ 2000 ∧ ∀ n ∈ ns, 0 ≤ n ∧ n < 1000
  at_ : H a = some (.lst [.int p])
  ne : j ≠ a
  p0 : 0 ≤ p
theorem Rnd.same {j a : Addr} {p : Int} (r : Rnd H j a p) (s : Same H H') : Rnd H' j a p := by
  obtain ⟨ns, h1, h2, h3⟩ := r.ex
  exact ⟨⟨ns, s _ _ h1, h2, h3⟩, s _ _ r.at_, r.ne, r.p0⟩
theorem Rnd.set {j a : Addr} {p p' : Int} (r : Rnd H j a p) (h : 0 ≤ p') : Rnd (upd H a (.lst [.int p'])) j a p' := by
  obtain ⟨ns, h1, h2, h3⟩ := r.ex
  exact ⟨⟨ns, by rw [upd_ne r.ne]; exact h1, h2, h3⟩, upd_same, r.ne, h⟩
theorem Rnd.upd {j a q : Addr} {p : Int} {o o' : HO} (r : Rnd H j a p) (e : H q = some o) (hj : q ≠ j) (ha : q ≠ a) : Rnd (upd H q o') j a p := by
  obtain ⟨ns, h1, h2, h3⟩ := r.ex
  exact ⟨⟨ns, by rw [upd_ne hj.symm]; exact h1, h2, h3⟩, by rw [upd_ne ha.symm]; exact r.at_, r.ne, r.p0⟩
theorem T.kp {a : Addr} {xs : List V} {N N' : Addr → Prop} {v : V} {d : Tr} (h : T K H N v d) (k : Kp a H H') (e : H a = some (.lst xs)) (hN : ∀ b, N b → N' b ∧ b ≠ a) : T K H' N' v d := h.keep k (nt_of e (fun _ z => nomatch z) fun _ _ z => nomatch z) hN
theorem Own.kp {a r : Addr} {xs : List V} {N : Addr → Prop} {h : Hs} (o : Own K N H r h) (k : Kp a H H') (e : H a = some (.lst xs)) (hN : ∀ b, N b → b ≠ a) : Own K N H' r h := o.keep k (nt_of e (fun _ z => nomatch z) fun _ _ z => nomatch z) hN
theorem Ts.kp {a : Addr} {xs : List V} {N N' : Addr → Prop} {v : List V} {d : List Tr} (h : Ts K H N v d) (k : Kp a H H') (e : H a = some (.lst xs)) (hN : ∀ b, N b → N' b ∧ b ≠ a) : Ts K H' N' v d := h.keep k (nt_of e (fun _ z => nomatch z) fun _ _ z => nomatch z) hN
theorem fmod_lt {a b : Int} (h : 0 < b) : 0 ≤ a.fmod b ∧ a.fmod b < b := by
  rw [Int.fmod_eq_emod_of_nonneg a (by omega)]
  exact ⟨Int.emod_nonneg a (by omega), Int.emod_lt_of_pos a h⟩
theorem fdiv_le {a b : Int} (h : 0 < b) (ha : 0 ≤ a) : 0 ≤ a.fdiv b ∧ a.fdiv b ≤ a := by
  rw [Int.fdiv_eq_ediv_of_nonneg a (by omega)]
  exact ⟨Int.ediv_nonneg ha (by omega), Int.ediv_le_self b ha⟩
end
end TU

set_option Elab.async false
set_option linter.all false
set_option maxRecDepth 100000
namespace TU
open PySem PySem.Spec PyProof.Rows L2
section
variable {K : PySem.W.Frag} {H H' : Hp} {N : Addr → Prop}
theorem lk_snoc {β : Type} {h : List (Str × β)} {k : Str} {t : β} (nk : k ∉ nms h) : lk (h ++ [(k, t)]) k = some t := by
  induction h with
  | nil => simp [lk_cons]
  | cons p r ih =>
    rw [nms_cons, List.mem_cons, not_or] at nk
    rw [List.cons_append, lk_cons, if_neg (fun z => nk.1 z.symm)]
    exact ih nk.2
theorem put_snoc {β : Type} {h : List (Str × β)} {k : Str} {t t' : β} (nk : k ∉ nms h) : put (h ++ [(k, t)]) k t' = h ++ [(k, t')] := by
  induction h with
  | nil => simp [put]
  | cons p r ih =>
    rw [nms_cons, List.mem_cons, not_or] at nk
    rw [List.cons_append, put, if_neg (fun z => nk.1 z.symm), ih nk.2]
    rfl
theorem nms_append {β : Type} (h g : List (Str × β)) : nms (h ++ g) = nms h ++ nms g := List.map_append
theorem put_fresh {β : Type} {h : List (Str × β)} {k : Str} {t : β} (nk : k ∉ nms h) : put h k t = h ++ [(k, t)] := by
  induction h with
  | nil => rfl
  | cons p r ih =>
    rw [nms_cons, List.mem_cons, not_or] at nk
    rw [put, if_neg (fun z => nk.1 z.symm), ih nk.2]
    rfl
/-- a list object that is no dict stands when a dict is changed -/
theorem sqL_dk {q p : Addr} {xs : List V} {es : List (Key × V)} {o : HO} (e : H q = some (.dK es)) (h : H p = some (.lst xs)) : (upd H q o) p = some (.lst xs) := by
  rw [upd_ne (ne_of h e (fun z => nomatch z))]
  exact h
theorem hlist_at {ss : List Str} {i : Nat} {x : V} (h : (ss.map V.str)[i]? = some x) : ∃ n, ss[i]? = some n ∧ x = .str n := srt_at h
/-- behind a lock of a: what H knew stands, a is locked -/
structure Lk1 (H : Hp) (a : Addr) (kvs : List (Key × V)) (od : Obj) (H1 : Hp) : Prop where
  keep : ∀ b o, H b = some o → b ≠ a → H1 b = some o
  at_ : H1 a = some (.frz od (.dK kvs))
section
variable {a : Addr} {kvs : List (Key × V)} {od : Obj} {H1 H2 Hl : Hp} {un : Hp → Hp}
theorem Lkd.l1 (l : Lkd H Hl a kvs od un) : Lk1 H a kvs od Hl := ⟨fun b o e n => by rw [l.el b n]; exact e, l.at_⟩
theorem Lk1.same (l : Lk1 H a kvs od H1) (s : Same H1 H2) : Lk1 H a kvs od H2 := ⟨fun b o e n => s _ _ (l.keep b o e n), s _ _ l.at_⟩
theorem Lk1.ne (l : Lk1 H a kvs od H1) (rd : Rd H a (.dK kvs)) {b : Addr} (e : H b = none) : b ≠ a := fun z => by
  rw [z] at e
  rcases rd with q | ⟨o, q⟩ <;> (rw [q] at e; cases e)
theorem Lk1.fresh (l : Lk1 H a kvs od H1) {b : Addr} (e : H1 b = none) : H b = none := by
  cases z : H b with
  | none => rfl
  | some o =>
    by_cases hb : b = a
    · rw [hb, l.at_] at e
      cases e
    · rw [l.keep b o z hb] at e
      cases e
theorem Lk1.upd (l : Lk1 H a kvs od H1) (rd : Rd H a (.dK kvs)) {q : Addr} {o : HO} (e : H q = none) : Lk1 H a kvs od (L2.upd H1 q o) := ⟨fun b u eb n => by
  rw [upd_ne (ne_of_none eb e)]
  exact l.keep b u eb n, by rw [upd_ne (l.ne rd e).symm]; exact l.at_⟩
theorem Lk1.rs (l : Lk1 H a kvs od H1) (rd : Rd H a (.dK kvs)) : RS H H1 := fun b u n h => by
  by_cases e : b = a
  · subst e
    rcases rd with z | ⟨o, z⟩
    · rcases h with h | ⟨o', h⟩
      · rw [z] at h
        cases h
        exact .inr ⟨od, l.at_⟩
      · rw [z] at h
        cases h
    · rcases h with h | ⟨o', h⟩
      · rw [z] at h
        cases h
        exact absurd rfl (n _ _)
      · rw [z] at h
        cases h
        exact .inr ⟨od, l.at_⟩
  · rcases h with h | ⟨o', h⟩
    · exact .inl (l.keep _ _ h e)
    · exact .inr ⟨o', l.keep _ _ h e⟩
theorem Lk1.out {Hz : Hp} (l : Lk1 H a kvs od H1) (k : Lkd Hz Hl a kvs od un) (s : Same H Hz) : Same H (un H1) := fun b o e => by
  by_cases h : b = a
  · subst h
    rw [k.back _ l.at_]
    exact s _ _ e
  · rw [k.un _ _ h]
    exact l.keep b o e h
end
end
section
variable {K : PySem.W.Frag} {σ : L2.St} {H : Hp} {D : Ends}
theorem for_keysS {d : Addr} {o : Obj} {kvs : List (Key × V)} {tb : TS} {j : Nat} (Pv : Nat → L2.St → Hp → Prop) (h0 : Pv 0 σ H) (hx : ∀ i σ H, i ≤ kvs.length → Pv i σ H → H d = some (.frz o (.dK kvs)))
    (hs : ∀ i k v σ H, kvs[i]? = some (k, v) → Pv i σ H → tb { D with nx := Pv (i + 1), ct := Pv (i + 1), bk := D.nx } (σ.set j (some (kV k))) H) (hd : ∀ σ H, Pv kvs.length σ H → D.nx σ H) : forB (Itk d o kvs) (gName j) tb D σ H :=
  for_any walk_keys Pv h0 hx (fun i x σ H H' _ p y => by
    obtain ⟨e, k, v, y, z⟩ := y
    subst e
    rw [z]
    exact hs i k v σ _ y p) hd
end
end TU

set_option Elab.async false
set_option linter.all false
set_option maxRecDepth 100000
namespace TU
open PySem PySem.Spec PyProof.Rows L2
section
variable {K : PySem.W.Frag} {H H' : Hp} {N P : Addr → Prop} {Q : VK} {a : Addr}
theorem q_dpop1 {td ty : TE} {σ : L2.St} (h : td σ H fun x H1 => ∃ a, x = .ref a ∧ IsD H1 a ∧ ty σ H1 fun y H2 => ∃ kvs k v, H2 a = some (.dK kvs) ∧ y = kV k ∧ valV kvs k = some v ∧ Q v (upd H2 a (.dK (dropK kvs k)))) : tDPop1 td ty σ H Q := h
theorem q_isiD {kvs : List (Key × V)} (h : Rd H a (.dK kvs)) (q : Q (.bl true) H) : rIsi K [.ref a, .ty "dict"] H Q := by
  refine ⟨.ref a, .ty "dict", .type "dict", .type "dict", true, rfl, .ty _, ?_, kit_ty (by decide +kernel), q⟩
  rcases h with e | ⟨o, e⟩
  · exact .base (.dK e)
  · exact .fDict e
theorem q_isiT {xs : List V} (h : SqT K H a xs) (q : Q (.bl true) H) : rIsi K [.ref a, .ty "tuple"] H Q := by
  refine ⟨.ref a, .ty "tuple", .type "tuple", .type "tuple", true, rfl, .ty _, ?_, kit_ty (by decide +kernel), q⟩
  rcases h with (e | ⟨o, e⟩) | ⟨o, its, n, e, c, _⟩
  · exact .base (.tup e)
  · exact .fTuple e
  · exact .kTuple e c
theorem q_isiL {xs : List V} (h : SqL K H a xs) (q : Q (.bl true) H) : rIsi K [.ref a, .ty "list"] H Q := by
  refine ⟨.ref a, .ty "list", .type "list", .type "list", true, rfl, .ty _, ?_, kit_ty (by decide +kernel), q⟩
  rcases h with (e | ⟨o, e⟩) | ⟨o, its, n, e, c, _⟩
  · exact .base (.lst e)
  · exact .base (.frz e)
  · exact .kList e c
theorem Ts.strs : ∀ (ss : List Str), Ts K H P (ss.map V.str) (ss.map Tr.str)
  | [] => .nil
  | s :: ss => .cons (.str s) (Ts.strs ss)
theorem nods_strs : ∀ (ss : List Str), nods (ss.map Tr.str) = true
  | [] => rfl
  | s :: ss => by
    rw [List.map_cons, nods, nods_strs ss]
    rfl
theorem deps_strs : ∀ (ss : List Str), deps (ss.map Tr.str) = 0
  | [] => rfl
  | s :: ss => by
    rw [List.map_cons, deps, deps_strs ss]
    rfl
theorem keysV {kvs : List (Key × V)} {ss : List Str} (e : kvs.map (·.1) = ss.map Sum.inr) : kvs.map (fun kv => kV kv.1) = ss.map V.str := by
  have : kvs.map (fun kv => kV kv.1) = (kvs.map (·.1)).map kV := by rw [List.map_map] <;> rfl
  rw [this, e, List.map_map]
  rfl
theorem q_neStrs {p q : Addr} {ss : List Str} (hp : SqL K H p (ss.map V.str)) (hq : SqL K H q (ss.map V.str)) (k : Q (.bl false) H) : rNeU K (.ref p) (.ref q) H Q := by
  have hn : nod (.lst (ss.map Tr.str)) = true := by
    rw [nod]
    exact nods_strs ss
  refine q_neT (P := fun _ => True) (.lst trivial hp (.strs ss)) (.lst trivial hq (.strs ss)) hn hn (by rw [dep, deps_strs]; decide) ?_
  rw [eqb_refl hn]
  exact k
theorem getD_mem : ∀ {ks : List (Key × Tr)} {p : Key × Tr}, (ks.map (·.1)).Nodup → p ∈ ks → getD ks p.1 = some p.2
  | [], _, _, h => nomatch h
  | x :: ks, p, nd, h => by
    have nd' := List.nodup_cons.mp nd
    rw [getD_cons]
    rcases List.mem_cons.mp h with e | h
    · rw [e, if_pos rfl]
    · have : ¬ x.1 = p.1 := fun z => nd'.1 (List.mem_map.mpr ⟨p, h, z.symm⟩)
      rw [if_neg this]
      exact getD_mem nd'.2 h
theorem eqk_refl {ks : List (Key × Tr)} (nd : (ks.map (·.1)).Nodup) (h : ∀ p ∈ ks, nod p.2 = true) : eqk ks ks = true := by
  unfold eqk
  rw [Bool.and_eq_true]
  refine ⟨by simp, List.all_eq_true.mpr fun p hp => ?_⟩
  rw [getD_mem nd hp]
  exact eqb_refl (h p hp)
theorem nd_tK {t : Tab} (nd : (nms t).Nodup) : ((tK t).map (·.1)).Nodup := by
  rw [keys_tK]
  exact List.Pairwise.map Sum.inr (fun a b h e => h (Sum.inr.inj e)) nd
theorem mem_tK {t : Tab} {p : Key × Tr} (h : p ∈ tK t) : ∃ q ∈ t, p.2 = q.2 := by
  obtain ⟨q, hq, e⟩ := List.mem_map.mp h
  exact ⟨q, hq, by rw [← e]⟩
theorem q_neTab {p q : Addr} {es fs : List (Key × V)} {t : Tab} {N1 N2 : Addr → Prop} (hp : Rd H p (.dK es)) (hq : Rd H q (.dK fs)) (t1 : Tk K H N1 es (tK t)) (t2 : Tk K H N2 fs (tK t)) (nd : (nms t).Nodup) (he : ∀ x ∈ t, nod x.2 = true ∧ dep x.2 ≤ 60) (k : Q (.bl false) H) : rNeU K (.ref p) (.ref q) H Q := by
  have h1 : ∀ x ∈ tK t, nod x.2 = true ∧ dep x.2 ≤ 60 := fun x hx => by
    obtain ⟨y, hy, e⟩ := mem_tK hx
    rw [e]
    exact he y hy
  refine q_neK (P := fun _ => True) hp hq (t1.imp fun _ _ => trivial) (t2.imp fun _ _ => trivial) h1 (fun x hx => (h1 x hx).1) ?_
  rw [eqk_refl (nd_tK nd) fun x hx => (h1 x hx).1]
  exact k
end
/-! ### entries that may be compared and shown; houses of such -/
def Sml (h : Hs) : Prop := ∀ p ∈ h, ∀ x ∈ p.2, dep x.2 ≤ 60
theorem Wf.ent {h : Hs} (w : Wf h) (s : Sml h) {p : Str × Tab} (hp : p ∈ h) : ∀ x ∈ p.2, nod x.2 = true ∧ dep x.2 ≤ 60 := fun x hx => ⟨nod_of_imm ((w.tab p hp).2 x hx), s p hp x hx⟩
def AscH (h : Hs) : Prop := ∀ p ∈ h, Asc (nms p.2)
theorem AscH.cp (h : Hs) : AscH (cpH h) := fun p hp => by
  obtain ⟨q, hq, rfl⟩ := List.mem_map.mp hp
  show Asc (nms (ord q.2))
  rw [nms_ord]
  exact srt_asc _
theorem cp_cp {h : Hs} (w : Wf h) : cpH (cpH h) = cpH h := by
  unfold cpH
  rw [List.map_map]
  refine List.map_congr_left fun p hp => ?_
  show (p.1, ord (ord p.2)) = (p.1, ord p.2)
  rw [ord_ord (w.tab p hp).1]
theorem ord_of_asc {t : Tab} (nd : (nms t).Nodup) (h : Asc (nms t)) : ord t = t := ext_lk (nd_ord nd) (by rw [nms_ord, srt_of_asc h]) fun x => lk_ord t x
end TU

set_option Elab.async false
set_option linter.all false
set_option maxRecDepth 100000
namespace TU
open PySem PySem.Spec PyProof.Rows L2
section
variable {K : PySem.W.Frag} {H H' : Hp} {N P : Addr → Prop} {Q : VK} {a : Addr}
theorem sq_ne {p q : Addr} {xs : List V} {o o' : HO} (h : H p = some (.lst xs)) (e : H q = some o) (n : o ≠ .lst xs) : (upd H q o') p = some (.lst xs) := by
  rw [upd_ne (ne_of h e (Ne.symm n))]
  exact h
theorem cutV_take {ss : List Str} {n : Nat} (h : n ≤ ss.length) : cutV (ss.map V.str) none (some (n : Int)) = (ss.take n).map V.str := by
  unfold cutV
  have e1 : HT.sIx (ss.map V.str).length 0 none = 0 := rfl
  have e2 : HT.sIx (ss.map V.str).length (ss.map V.str).length (some (n : Int)) = n := by
    unfold HT.sIx
    rw [List.length_map]
    have hn : ¬ (n : Int) < 0 := by omega
    simp [hn]
    omega
  rw [e1, e2, List.drop_zero, Nat.sub_zero, List.map_take]
/-- a place below 3, 5: which -/
theorem three {v : Int} (h0 : 0 ≤ v) (h1 : v < 3) : v = 0 ∨ v = 1 ∨ v = 2 := by omega
theorem atS {ss : List Str} {v : Int} (h0 : 0 ≤ v) (h1 : v < ss.length) : ∃ n ∈ ss, atI (ss.map V.str) v = some (.str n) := by
  obtain ⟨k, rfl⟩ : ∃ k : Nat, v = k := ⟨v.toNat, by omega⟩
  have hk : k < ss.length := by omega
  exact ⟨ss[k], List.getElem_mem hk, atI_nat (by rw [List.getElem?_map, List.getElem?_eq_getElem hk]; rfl)⟩
theorem Own.key {r : Addr} {h : Hs} (o : Own K N H r h) : ∃ kvs, H r = some (.dK kvs) ∧ kvs.map (·.1) = (nms h).map Sum.inr := by
  obtain ⟨qs, kvs, h1, h2, h3, h4⟩ := o.ex
  exact ⟨kvs, h1, h2.keys⟩
theorem Own.nr {r : Addr} {h : Hs} (o : Own K N H r h) : N r := by
  obtain ⟨qs, kvs, h1, h2, h3, h4⟩ := o.ex
  exact h4 r List.mem_cons_self
end
theorem Rnd.ja {H : Hp} {j a r : Addr} {p : Int} (R : Rnd H j a p) (e : H r = none) : r ≠ j ∧ r ≠ a := by
  obtain ⟨ns, h1, _⟩ := R.ex
  exact ⟨(ne_of_none h1 e).symm, (ne_of_none R.at_ e).symm⟩
theorem Kp.fresh {H H' : Hp} {a r : Addr} {o : HO} (k : Kp a H H') (ea : H' a = some o) (e : H' r = none) : H r = none := by
  cases z : H r with
  | none => rfl
  | some u =>
    by_cases h : r = a
    · rw [h, ea] at e
      cases e
    · rw [k r u h z] at e
      cases e
end TU

set_option Elab.async false
set_option linter.all false
set_option maxRecDepth 100000
namespace TU
open PySem PySem.Spec PyProof.Rows L2
theorem atI_last {xs : List V} {u : V} : atI (xs ++ [u]) (((xs ++ [u]).length : Int) - 1) = some u := by
  have e : (((xs ++ [u]).length : Int) - 1) = (xs.length : Nat) := by
    rw [List.length_append]
    show ((xs.length + 1 : Nat) : Int) - 1 = _
    omega
  rw [e]
  exact atI_nat (List.getElem?_concat_length ..)
/-- a test of two halves, its end written once -/
theorem q_two {σ : L2.St} {H : Hp} {p : Prop} [Decidable p] {c : TT} {R : Bool → Hp → Prop} {PP : Bool → Prop} (hR : ∀ b, PP b → R b H) (h1 : p → ∃ b, PP b ∧ (R b H → c σ H R)) (h2 : ¬ p → PP false) : if decide p = true then c σ H R else R false H := by
  by_cases h : p
  · obtain ⟨b, x, y⟩ := h1 h
    rw [decide_eq_true h]
    exact q_t (y (hR b x))
  · rw [decide_eq_false h]
    exact q_f (hR false (h2 h))
theorem lk_cp : ∀ (h : Hs) (x : Str), lk (cpH h) x = (lk h x).map ord
  | [], x => rfl
  | p :: r, x => by
    show lk ((p.1, ord p.2) :: cpH r) x = _
    rw [lk_cons, lk_cons, lk_cp r x]
    by_cases e : p.1 = x
    · rw [if_pos e, if_pos e]
      rfl
    · rw [if_neg e, if_neg e]
theorem cp_eq {g g' : Hs} (nd : (nms g).Nodup) (hn : nms g = nms g') (he : ∀ x, (lk g x).map ord = (lk g' x).map ord) : cpH g = cpH g' :=
  ext_lk (by rw [nms_cp]; exact nd) (by rw [nms_cp, nms_cp]; exact hn) fun x => by rw [lk_cp, lk_cp]; exact he x
theorem cp_lk {g g' : Hs} (h : cpH g = cpH g') {k : Str} {t : Tab} (e : lk g k = some t) : ∃ t', lk g' k = some t' ∧ ord t = ord t' := by
  have := lk_cp g' k
  rw [← h, lk_cp g k, e] at this
  cases q : lk g' k with
  | none =>
    rw [q] at this
    cases this
  | some t' =>
    rw [q] at this
    exact ⟨t', rfl, Option.some.inj this⟩
theorem cp_no {g g' : Hs} (h : cpH g = cpH g') {k : Str} (e : lk g k = none) : lk g' k = none := by
  cases q : lk g' k with
  | none => rfl
  | some t' =>
    obtain ⟨t, e2, _⟩ := cp_lk h.symm q
    rw [e] at e2
    cases e2
theorem cp_nms {g g' : Hs} (h : cpH g = cpH g') : nms g = nms g' := by rw [← nms_cp g, h, nms_cp]
theorem ord_lk {t t' : Tab} (h : ord t = ord t') (x : Str) : lk t x = lk t' x := by rw [← lk_ord t, h, lk_ord]
theorem lk_mem_nms {β : Type} {l : List (Str × β)} {n : Str} (h : n ∈ nms l) : ∃ d, lk l n = some d := by
  cases e : lk l n with
  | none => exact absurd h (lk_none.mp e)
  | some d => exact ⟨d, rfl⟩
theorem mem_of_ord {t t' : Tab} (h : ord t = ord t') {n : Str} (m : n ∈ nms t) : n ∈ nms t' := by
  obtain ⟨d, e⟩ := lk_mem_nms m
  rw [ord_lk h] at e
  exact mem_nms (lk_mem e)
theorem cp_put {g g' : Hs} (w : Wf g) (h : cpH g = cpH g') {k : Str} {t t' u u' : Tab} (e : lk g k = some t) (e' : lk g' k = some t') (hu : ord u = ord u') : cpH (put g k u) = cpH (put g' k u') := by
  have m : k ∈ nms g := mem_nms (lk_mem e)
  have m' : k ∈ nms g' := mem_nms (lk_mem e')
  refine cp_eq (by rw [nms_put_of m]; exact w.nd) (by rw [nms_put_of m, nms_put_of m', cp_nms h]) fun x => ?_
  rw [lk_put, lk_put]
  by_cases c : x = k
  · rw [if_pos c, if_pos c]
    exact congrArg some hu
  · rw [if_neg c, if_neg c, ← lk_cp, ← lk_cp, h]
theorem app1_cp {g g' h : Hs} {e : Ed} (w : Wf g) (w' : Wf g') (hc : cpH g = cpH g') (ha : app1 g e = .ok h) : ∃ h', app1 g' e = .ok h' ∧ cpH h = cpH h' := by
  cases q : lk g e.key with
  | none =>
    simp only [app1, q] at ha
    cases ha
  | some t =>
    obtain ⟨t', q', ho⟩ := cp_lk hc q
    have wt := w.tab _ (lk_mem q)
    have wt' := w'.tab _ (lk_mem q')
    cases e with
    | put k n x =>
      simp only [app1, q] at ha
      cases ha
      refine ⟨put g' k (put t' n x), by simp only [app1, q'], cp_put w hc q q' (ord_perm (nd_put wt.1 _ _) (nd_put wt'.1 _ _) fun y => ?_)⟩
      rw [lk_put, lk_put, ord_lk ho]
    | drop k n =>
      by_cases hn : n ∈ nms t
      · simp only [app1, q, if_pos hn] at ha
        cases ha
        refine ⟨put g' k (del t' n), by simp only [app1, q', if_pos (mem_of_ord ho hn)], cp_put w hc q q' (ord_perm (nd_del wt.1 _) (nd_del wt'.1 _) fun y => ?_)⟩
        rw [lk_del wt.1, lk_del wt'.1, ord_lk ho]
      · simp only [app1, q, if_neg hn] at ha
        cases ha
theorem app1_err {g : Hs} {e : Ed} {x : Str × Str} (w : Wf g) (ha : app1 g e = .error x) : app1 (cpH g) e = .error x := by
  cases q : app1 (cpH g) e with
  | ok h =>
    obtain ⟨h', q2, _⟩ := app1_cp w.cp w (cp_cp w) q
    rw [ha] at q2
    cases q2
  | error y =>
    cases e1 : lk g e.key with
    | none =>
      simp only [app1, lk_cp, e1, Option.map] at ha q
      rw [← ha, ← q]
    | some t =>
      cases e with
      | put k n d =>
        simp only [app1, e1] at ha
        cases ha
      | drop k n =>
        simp only [app1, e1] at ha
        simp only [app1, lk_cp, e1, Option.map] at q
        split at ha
        · cases ha
        · split at q
          · cases q
          · rw [← ha, ← q]
theorem inv1_cp {g g' : Hs} {e : Ed} (hc : cpH g = cpH g') : inv1 g e = inv1 g' e := by
  cases q : lk g e.key with
  | none => simp only [inv1, q, cp_no hc q]
  | some t =>
    obtain ⟨t', q', ho⟩ := cp_lk hc q
    simp only [inv1, q, q', ord_lk ho]
theorem app1_wf {h h' : Hs} {e : Ed} (w : Wf h) (im : e.Imm) (ha : app1 h e = .ok h') : Wf h' ∧ nms h' = nms h := by
  have f : ∃ n, Fits n h := by
    clear w im ha h' e
    induction h with
    | nil => exact ⟨0, fun p hp => nomatch hp⟩
    | cons p r ih =>
      obtain ⟨n, f⟩ := ih
      refine ⟨max n p.2.length, fun q hq => ?_⟩
      rcases List.mem_cons.mp hq with e | m
      · rw [e]
        exact Nat.le_max_right _ _
      · exact Nat.le_trans (f q m) (Nat.le_max_left _ _)
  obtain ⟨n, f⟩ := f
  obtain ⟨a, _, b⟩ := app1_ok w im f ha
  exact ⟨a, b⟩
/-- one edit and what leads back from it -/
theorem undo1 {g h : Hs} {e : Ed} (w : Wf g) (ha : app1 g e = .ok h) : ∃ r, app1 h (inv1 g e) = .ok r ∧ cpH r = cpH g := by
  cases q : lk g e.key with
  | none =>
    simp only [app1, q] at ha
    cases ha
  | some t =>
    have wt := w.tab _ (lk_mem q)
    have m : e.key ∈ nms g := mem_nms (lk_mem q)
    obtain ⟨t1, rfl, nd1, ht1⟩ : ∃ t1, h = put g e.key t1 ∧ (nms t1).Nodup ∧ ∀ x, x ≠ e.name → lk t1 x = lk t x := by
      cases e with
      | put k n x =>
        simp only [app1, q] at ha
        cases ha
        exact ⟨_, rfl, nd_put wt.1 _ _, fun y hy => by rw [lk_put]; exact if_neg hy⟩
      | drop k n =>
        by_cases hn : n ∈ nms t
        · simp only [app1, q, if_pos hn] at ha
          cases ha
          exact ⟨_, rfl, nd_del wt.1 _, fun y hy => by rw [lk_del wt.1]; exact if_neg hy⟩
        · simp only [app1, q, if_neg hn] at ha
          cases ha
    have lh : lk (put g e.key t1) e.key = some t1 := by rw [lk_put, if_pos rfl]
    have key : ∀ u, ord u = ord t → cpH (put (put g e.key t1) e.key u) = cpH g := fun u hu => by
      have m2 : e.key ∈ nms (put g e.key t1) := mem_nms (lk_mem lh)
      refine cp_eq (by rw [nms_put_of m2, nms_put_of m]; exact w.nd) (by rw [nms_put_of m2, nms_put_of m]) fun x => ?_
      rw [lk_put, lk_put]
      by_cases c : x = e.key
      · rw [if_pos c, c, q]
        exact congrArg some hu
      · rw [if_neg c, if_neg c]
    cases q2 : lk t e.name with
    | some d =>
      have hi : inv1 g e = .put e.key e.name d := by simp only [inv1, q, q2]
      refine ⟨_, ?_, key (put t1 e.name d) (ord_perm (nd_put nd1 _ _) wt.1 fun x => ?_)⟩
      · rw [hi]
        unfold app1
        rw [show (Ed.put e.key e.name d).key = e.key from rfl, lh]
      · rw [lk_put]
        by_cases c : x = e.name
        · rw [if_pos c, c, q2]
        · rw [if_neg c, ht1 x c]
    | none =>
      have hi : inv1 g e = .drop e.key e.name := by simp only [inv1, q, q2]
      have hin : e.name ∈ nms t1 := by
        cases e with
        | put k n x =>
          simp only [app1, q] at ha
          have e1 : put g k (put t n x) = put g k t1 := Except.ok.inj ha
          have e2 : lk (put g k (put t n x)) k = lk (put g k t1) k := by rw [e1]
          rw [lk_put, lk_put, if_pos rfl, if_pos rfl] at e2
          rw [← Option.some.inj e2]
          exact mem_nms (lk_mem (v := x) (by rw [lk_put]; exact if_pos rfl))
        | drop k n =>
          have hn : n ∉ nms t := lk_none.mp q2
          simp only [app1, q, if_neg hn] at ha
          cases ha
      refine ⟨_, ?_, key (del t1 e.name) (ord_perm (nd_del nd1 _) wt.1 fun x => ?_)⟩
      · rw [hi]
        unfold app1
        rw [show (Ed.drop e.key e.name).key = e.key from rfl, lh]
        exact if_pos hin
      · rw [lk_del nd1]
        by_cases c : x = e.name
        · rw [if_pos c, c, q2]
        · rw [if_neg c, ht1 x c]
theorem appAll_cp : ∀ {es : List Ed} {g g' h : Hs}, (∀ e ∈ es, e.Imm) → Wf g → Wf g' → cpH g = cpH g' → appAll g es = .ok h → ∃ h', appAll g' es = .ok h' ∧ cpH h = cpH h'
  | [], g, g', h, im, w, w', hc, ha => by
    cases ha
    exact ⟨g', rfl, hc⟩
  | e :: es, g, g', h, im, w, w', hc, ha => by
    rw [appAll_cons] at ha
    cases q : app1 g e with
    | error x =>
      rw [q] at ha
      cases ha
    | ok g1 =>
      rw [q] at ha
      obtain ⟨g2, q2, hc2⟩ := app1_cp w w' hc q
      have im1 := im e List.mem_cons_self
      obtain ⟨h', a, b⟩ := appAll_cp (fun x hx => im x (List.mem_cons_of_mem _ hx)) (app1_wf w im1 q).1 (app1_wf w' im1 q2).1 hc2 ha
      exact ⟨h', by rw [appAll_cons, q2]; exact a, b⟩
theorem appAll_wf : ∀ {es : List Ed} {g h : Hs}, (∀ e ∈ es, e.Imm) → Wf g → appAll g es = .ok h → Wf h ∧ nms h = nms g
  | [], g, h, im, w, ha => by
    cases ha
    exact ⟨w, rfl⟩
  | e :: es, g, h, im, w, ha => by
    rw [appAll_cons] at ha
    cases q : app1 g e with
    | error x =>
      rw [q] at ha
      cases ha
    | ok g1 =>
      rw [q] at ha
      obtain ⟨w1, n1⟩ := app1_wf w (im e List.mem_cons_self) q
      obtain ⟨w2, n2⟩ := appAll_wf (fun x hx => im x (List.mem_cons_of_mem _ hx)) w1 ha
      exact ⟨w2, n2.trans n1⟩
theorem invs_imm : ∀ {es : List Ed} {g : Hs}, (∀ e ∈ es, e.Imm) → Wf g → ∀ e ∈ invs g es, e.Imm
  | [], g, im, w, e, he => nomatch he
  | e :: es, g, im, w, x, hx => by
    unfold invs at hx
    rcases List.mem_cons.mp hx with rfl | hx
    · exact inv1_imm w e
    · cases q : app1 g e with
      | error z =>
        rw [q] at hx
        cases hx
      | ok g1 =>
        rw [q] at hx
        exact invs_imm (fun x hx => im x (List.mem_cons_of_mem _ hx)) (app1_wf w (im e List.mem_cons_self) q).1 x hx
theorem invs_cp : ∀ {es : List Ed} {g g' h : Hs}, (∀ e ∈ es, e.Imm) → Wf g → Wf g' → cpH g = cpH g' → appAll g es = .ok h → invs g es = invs g' es
  | [], g, g', h, im, w, w', hc, ha => rfl
  | e :: es, g, g', h, im, w, w', hc, ha => by
    rw [appAll_cons] at ha
    cases q : app1 g e with
    | error x =>
      rw [q] at ha
      cases ha
    | ok g1 =>
      rw [q] at ha
      obtain ⟨g2, q2, hc2⟩ := app1_cp w w' hc q
      have im1 := im e List.mem_cons_self
      have := invs_cp (fun x hx => im x (List.mem_cons_of_mem _ hx)) (app1_wf w im1 q).1 (app1_wf w' im1 q2).1 hc2 ha
      unfold invs
      rw [q, q2, inv1_cp hc]
      exact congrArg _ this
/-- all the edits, and all that lead back -/
theorem undoAll : ∀ {es : List Ed} {g h : Hs}, (∀ e ∈ es, e.Imm) → Wf g → appAll g es = .ok h → ∃ r, appAll h (invs g es).reverse = .ok r ∧ cpH r = cpH g
  | [], g, h, im, w, ha => by
    cases ha
    exact ⟨g, rfl, rfl⟩
  | e :: es, g, h, im, w, ha => by
    rw [appAll_cons] at ha
    cases q : app1 g e with
    | error x =>
      rw [q] at ha
      cases ha
    | ok g1 =>
      rw [q] at ha
      have im1 := im e List.mem_cons_self
      have ims : ∀ x ∈ es, x.Imm := fun x hx => im x (List.mem_cons_of_mem _ hx)
      have w1 := (app1_wf w im1 q).1
      obtain ⟨r1, a1, b1⟩ := undoAll ims w1 ha
      obtain ⟨r2, a2, b2⟩ := undo1 w q
      have wh := (appAll_wf ims w1 ha).1
      have wr1 : Wf r1 := (appAll_wf (fun x hx => invs_imm ims w1 x (List.mem_reverse.mp hx)) wh a1).1
      obtain ⟨r3, a3, b3⟩ := app1_cp w1 wr1 b1.symm a2
      refine ⟨r3, ?_, b3.symm.trans b2⟩
      have hi : invs g (e :: es) = inv1 g e :: invs g1 es := by
        conv => lhs; unfold invs
        rw [q]
      rw [hi, List.reverse_cons, appAll_append, a1]
      exact (appAll_one r1 _).trans a3
end TU

set_option Elab.async false
set_option linter.all false
set_option maxRecDepth 100000
namespace TU
open PySem PySem.Spec PyProof.Rows L2
/-- except Unknown as error: return (error.what, error.name) -/
theorem catchU {K : PySem.W.Frag} {C : Addr} {w n : Str} {i : Nat} {Wout : WX} {D : Ends} {σ : L2.St} {H1 : Hp} (te : PySem.W.exmOne K (.ref C) (.ref C) = some true) (hi : i < σ.length) (h : ∀ p H', Same H1 H' → H' p = some (.tup [.str w, .str n]) → D.rt (.ref p) H') :
    XUnk C w n H1 (WE (wAs K (.ref C) i (fun a cls d => tRet (tTup (tCons (tXf a cls d C "what" (tVar i)) (tCons (tXf a cls d C "name" (tVar i)) tNil)))) Wout D) σ) := by
  intro d H' s e
  refine ⟨true, te, fun _ a ha => ?_, fun z => by cases z⟩
  have hv : (σ.set i (some (V.ref a)))[i]? = some (some (V.ref a)) := by
    rw [List.getElem?_set_self hi]
  refine q_ret (q_tup (q_cons ?_))
  refine ⟨_, hv, rfl, rfl, d, _, .str w, rfl, e, rfl, ?_⟩
  refine q_cons ⟨_, hv, rfl, rfl, d, _, .str n, rfl, e, rfl, ?_⟩
  refine q_nil (q_size (show 2 ≤ 1000 by decide) fun p hp => ?_)
  exact h p _ (s.trans (same_new hp)) upd_same
theorem last_of {K : PySem.W.Frag} {H : Hp} {N : Addr → Prop} {xs : List V} {es : List Ed} (t : Ts K H N xs (es.map Ed.tr)) (h : 1 ≤ es.length) : ∃ u e, atI xs ((xs.length : Int) - 1) = some u ∧ es.getLast? = some e ∧ T K H N u e.tr := by
  have hl : xs.length = es.length := by rw [t.length, List.length_map]
  have hk : xs.length - 1 < xs.length := by omega
  have hu := List.getElem?_eq_getElem hk
  obtain ⟨d, g1, g2⟩ := t.gets hu
  obtain ⟨e, he, rfl⟩ := map_at g1
  refine ⟨_, e, ?_, ?_, g2⟩
  · have e1 : ((xs.length : Int) - 1) = (xs.length - 1 : Nat) := by omega
    rw [e1]
    exact atI_nat hu
  · rw [List.getLast?_eq_getElem?, ← hl]
    exact he
/-- the error that one call raises, as a pair; ("", "") where none -/
def refOf (h : Hs) (es : List Ed) (how : Int) : Str × Str :=
  if how = 0 ∨ how = 1 then (match appAll (cpH h) es with | .ok _ => ("", "") | .error x => x)
  else if how = 2 ∨ how = 3 then (match es.getLast? with | none => ("", "") | some e => (match app1 (cpH h) e with | .ok _ => ("", "") | .error x => x))
  else (if (lk h "x9").isSome = true then ("", "") else ("table", "x9"))

theorem q_neP {K : PySem.W.Frag} {H : Hp} {Q : VK} {p q : Addr} {a b : Str} (hp : SqT K H p [.str a, .str b]) (hq : SqT K H q [.str a, .str b]) (k : Q (.bl false) H) : rNeU K (.ref p) (.ref q) H Q := by
  refine q_neT (P := ff) (d := .tup [.str a, .str b]) (e := .tup [.str a, .str b]) (.tup hp (.cons (.str _) (.cons (.str _) .nil))) (.tup hq (.cons (.str _) (.cons (.str _) .nil))) rfl rfl (show (1 : Nat) ≤ 60 by decide) ?_
  rw [eqb_refl rfl]
  exact k
theorem q_eqP {K : PySem.W.Frag} {H : Hp} {Q : VK} {p q : Addr} {a b : Str} (hp : SqT K H p [.str a, .str b]) (hq : SqT K H q [.str a, .str b]) (k : Q (.bl true) H) : rEqU K (.ref p) (.ref q) H Q := by
  refine q_eqT (P := ff) (d := .tup [.str a, .str b]) (e := .tup [.str a, .str b]) (.tup hp (.cons (.str _) (.cons (.str _) .nil))) (.tup hq (.cons (.str _) (.cons (.str _) .nil))) rfl rfl (show (1 : Nat) ≤ 60 by decide) ?_
  rw [eqb_refl rfl]
  exact k
/-- all names are of a list -/
def Nam (L : List Str) (h : Hs) : Prop := ∀ q ∈ h, ∀ x ∈ q.2, x.1 ∈ L
theorem Nam.cp {L : List Str} {h : Hs} (n : Nam L h) : Nam L (cpH h) := fun q hq x hx => by
  obtain ⟨p, hp, rfl⟩ := List.mem_map.mp hq
  have m : x.1 ∈ nms (ord p.2) := mem_nms hx
  rw [nms_ord] at m
  obtain ⟨y, hy, e⟩ := List.mem_map.mp ((srt_perm _).mem_iff.mp m)
  rw [← e]
  exact n p hp y hy
theorem app1_nam {L : List Str} {h h' : Hs} {e : Ed} (n : Nam L h) (hn : e.name ∈ L) (ha : app1 h e = .ok h') : Nam L h' := by
  cases q : lk h e.key with
  | none =>
    simp only [app1, q] at ha
    cases ha
  | some t =>
    have hm := lk_mem q
    cases e with
    | put k m d =>
      simp only [app1, q] at ha
      cases ha
      intro p hp x hx
      rcases mem_put hp with c | c
      · exact n p c x hx
      · rw [c] at hx
        rcases mem_put hx with c2 | c2
        · exact n _ hm x c2
        · rw [c2]
          exact hn
    | drop k m =>
      by_cases hin : m ∈ nms t
      · simp only [app1, q, if_pos hin] at ha
        cases ha
        intro p hp x hx
        rcases mem_put hp with c | c
        · exact n p c x hx
        · rw [c] at hx
          exact n _ hm x (mem_del hx)
      · simp only [app1, q, if_neg hin] at ha
        cases ha
theorem appAll_nam {L : List Str} : ∀ {es : List Ed} {h h' : Hs}, Nam L h → (∀ e ∈ es, e.name ∈ L) → appAll h es = .ok h' → Nam L h'
  | [], h, h', n, hn, ha => by
    cases ha
    exact n
  | e :: es, h, h', n, hn, ha => by
    rw [appAll_cons] at ha
    cases q : app1 h e with
    | error x =>
      rw [q] at ha
      cases ha
    | ok h1 =>
      rw [q] at ha
      exact appAll_nam (app1_nam n (hn e List.mem_cons_self) q) (fun x hx => hn x (List.mem_cons_of_mem _ hx)) ha
theorem app1_tab {h : Hs} {e : Ed} (m : e.key ∉ nms h) : app1 h e = .error ("table", e.key) := by
  have q := lk_none.mpr m
  simp only [app1, q]
theorem app1_drop {L : List Str} {h : Hs} {k n : Str} (m : k ∈ nms h) (nm : Nam L h) (hn : n ∉ L) : app1 h (.drop k n) = .error (k, n) := by
  obtain ⟨t, q⟩ := lk_mem_nms m
  have c : n ∉ nms t := fun z => by
    obtain ⟨x, hx, e⟩ := List.mem_map.mp z
    rw [← e] at hn
    exact hn (nm _ (lk_mem q) x hx)
  unfold app1
  rw [show (Ed.drop k n).key = k from rfl, q]
  exact if_neg c
theorem ref_how {h f : Hs} {es : List Ed} {e : Ed} {x : Str × Str} {how : Nat} (ha : appAll (cpH h) es = .ok f) (hf : app1 f e = .error x) (hh : app1 (cpH h) e = .error x) (hw : how < 4) : refOf h (es ++ [e]) (0 + how) = x := by
  unfold refOf
  by_cases c : ((0 : Int) + how = 0 ∨ (0 : Int) + how = 1)
  · rw [if_pos c, appAll_append, ha]
    show (match appAll f [e] with | .ok _ => ("", "") | .error x => x) = x
    rw [appAll_one, hf]
  · rw [if_neg c, if_pos (by omega), List.getLast?_concat]
    simp only [hh]
end TU

set_option Elab.async false
set_option linter.all false
set_option maxRecDepth 100000
namespace TU
open PySem PySem.Spec PyProof.Rows L2
/-! ### the outermost call: there no repr runs, so that its guards are known -/
def TopOk (P : Program) (w : World) (K : PySem.W.Frag) (mg : Str → Option Value) (base : Heap) (fa : Addr) (sp : Sp) : Prop := ∀ (z : Shared) (G : Hp) (a : Addr) (Q : VK) (E : XK), Env0 P w K mg base callerA [] z G → sp [.ref a] G Q E →
  codeAny (model P w) callerA (.call (.ref fa) ⟨[.ref a], []⟩) (CR (L2.CX P w) [] P w G z Q E) z
theorem top_ok {P : Program} {w : World} {K : PySem.W.Frag} {mg : Str → Option Value} {base : Heap} {x y : Str} {st : Stmt} {N : List Str} {k : Nat} {sp : Sp} (F : TopF K mg x st [y]) (S : FnScope N [y] (defScope st)) (hr : Room (k + 1) callerA)
    (hbody : ∀ (f : Addr) (cdv : Value) (A : Around) (s : Shared) (H : Hp) (vs : List V) (Q : VK) (E : XK), A.guards = some [] → Room k (A.deeper (envOfC x (defScope st) s.heap.objs.size f cdv)) → sp vs H Q E →
      ∃ t, PSs (cxOf (L2.CX P w) P w K mg base N x (defScope st) f cdv A [] s H E) (defBody st) t ∧ t { nx := fun _ H' => Q .non H', rt := Q } (L2.start N vs) H) : ∃ fa, mg x = some (.ref fa) ∧ TopOk P w K mg base fa sp := by
  obtain ⟨f, fd, F0, hm, hb⟩ := F.ex
  obtain ⟨oc, od, kV, doc, pm, an, cdv, ct, osl, rfl, lk, hcd⟩ := F0.ex
  refine ⟨f, hm, fun z G a Q E e0 h => ?_⟩
  have old := fun b o e => (e0.bs b o e).1
  have kin := e0.mod.kin.keeps old
  have fit : ∀ p ∈ [y].zip [Value.ref a], (defScope st).names.lookup p.1 = some .local ∨ ((defScope st).names.lookup p.1 = some .cell ∧ ((cellsFrom (z.heap.objs.size + 1) (defScope st).names []).lookup p.1).isSome = true) := by
    rintro ⟨n, v⟩ m
    exact (S.par n (List.of_mem_zip m).1).imp id fun q => ⟨q, PySem.W.cellsFrom_some _ _ _ (.inl q)⟩
  refine codeAny_call_function hr.depth (kin _ _ lk) rfl S.co S.gen rfl (PySem.W.codeRec_of kin hcd) ?_
  refine hb z [.ref a] kin rfl _ _ _ _ ?_
  refine wpAny_newFunctionEnv_cells S.kind fit fun env he z1 x1 => ?_
  subst he
  refine ⟨(e0.mod.nolimit.keeps old).keeps x1.toInCall.keep, codeAny_func ?_⟩
  obtain ⟨t, ht, hq⟩ := hbody f cdv callerA z G [.ref a] Q E rfl (hr.deeper _) h
  refine wpAny_mono (ht.run [] z1 (L2.start N [.ref a]) G _ (inv_start S hr.hd e0 rfl (.cons rfl .nil) x1) hq) (fun fl z2 hs => ?_) fun _ _ hs => hs
  cases fl with
  | ret u =>
    obtain ⟨v, _, G2, J, rv, q⟩ := hs
    exact ⟨v, G2, J.os, J.bare, J.base, J.hok, rv, q⟩
  | next =>
    obtain ⟨_, G2, J, q⟩ := hs
    exact ⟨.non, G2, J.os, J.bare, J.base, J.hok, rfl, q⟩
  | brk => exact hs.elim fun _ r => r.elim fun _ r => r.2.elim
  | cont => exact hs.elim fun _ r => r.elim fun _ r => r.2.elim
/-- a law's promise: True of a list of up to 63 numbers -/
def spLaw (K : PySem.W.Frag) : Sp := fun vs H Q _ => ∃ (a : Addr) (ns : List Int), vs = [.ref a] ∧ SqL K H a (ns.map V.int) ∧ ns.length ≤ 63 ∧ ∀ H', Q (.bl true) H'
theorem top_walk {l : PySem.W.OpenLaw} {q : Program} {loose : List Str} {XP : (Str → Option Value) → Heap → Prop} {YP : World → Heap → Prop} {d : DefRec} {K : Params → PySem.W.Frag} (hn : l.most = some 63) (hdf : d.params.defaults = [])
    (hY : ∀ (w : World) (h : Heap), YP w h → (K w.params).In h)
    (F : ∀ (w : World) (mg : Str → Option Value) (fa : Addr) (h : Heap), (K w.params).In h → h.Ns mainGlobals mg → mg d.name = some (.ref fa) →
      ∀ base : Heap, (K w.params).In base → base.Ns mainGlobals mg → TopOk l.prog w (K w.params) mg base fa (spLaw (K w.params))) :
    PySem.W.WalkO q loose XP YP l.row.toRowW d [] (fun f vs => PySem.call f vs) := by
  refine Att.attach_call hn hdf fun w z0 z mg mb fa o pm cd doc a vs ns G Y ho hd hcd hmg hobj hints hlen hg => ?_
  have kin := hY w _ Y
  have size : ns.length ≤ sizeLine := Nat.le_trans hlen (by decide)
  have rel := vals_ints hints
  have obj : ObjOk l.prog w (fun b => if b = a then some (HO.frz { cls := .type "list", data := .seq vs.toArray } (.lst (ns.map V.int))) else none) z.heap a (.frz { cls := .type "list", data := .seq vs.toArray } (.lst (ns.map V.int))) := ⟨hobj, by rw [List.length_map]; exact size, vs, _, rel, hobj⟩
  -- the tracked heap: the script alone, or nothing where the module knows it
  obtain ⟨T, t1, t2, t3, t4⟩ : ∃ T : Hp, SqL (K w.params) T a (ns.map V.int) ∧ HOk l.prog w T z.heap ∧ (∀ b u, T b = some u → b = a ∧ ∃ o xs, u = .frz o (.lst xs)) ∧ (T a ≠ none → (K w.params).lookup a = none) := by
    cases lk : (K w.params).lookup a with
    | none =>
      refine ⟨fun b => if b = a then some (HO.frz { cls := .type "list", data := .seq vs.toArray } (.lst (ns.map V.int))) else none, .inl (.inr ⟨{ cls := .type "list", data := .seq vs.toArray }, if_pos rfl⟩), fun b u e => ?_, fun b u e => ?_, fun _ => rfl⟩
      all_goals
        by_cases c : b = a
        · have e2 := (if_pos c).symm.trans e
          cases e2
          subst c
          first | exact obj | exact ⟨rfl, _, _, rfl⟩
        · have e2 := (if_neg c).symm.trans e
          cases e2
    | some u =>
      have e := kin a u lk
      rw [hobj] at e
      cases e
      exact ⟨fun _ => none, .inr ⟨_, vs.toArray, _, lk, rfl, rfl, rfl, by rw [List.size_toArray, hints.length]; exact size, by simpa using rel⟩, (fun _ _ e => nomatch e), (fun _ _ e => nomatch e), fun c => absurd rfl c⟩
  have dic : ∀ {b : Addr} {ob : Obj} {es : Array DictEntry} {n : Nat}, z.heap.get? b = some ob → ob.data = .dict es n → T b = none := fun {b ob es n} e1 e2 => by
    cases c : T b with
    | none => rfl
    | some u =>
      have e3 := (t3 b u c).1
      subst e3
      rw [hobj] at e1
      cases e1
      exact nomatch e2
  have ns1 : ∀ {b : Addr} {m : Str → Option Value}, z.heap.Ns b m → (hidT z.heap T).Ns b m := fun ⟨ob, es, n, e1, e2, r⟩ => ⟨ob, es, n, hidT_get e1 (dic e1 e2), e2, r⟩
  have kin1 : (K w.params).In (hidT z.heap T) := fun b ob e => hidT_get (kin b ob e) (by
    cases c : T b with
    | none => rfl
    | some u =>
      have e3 := (t3 b u c).1
      subst e3
      rw [t4 (by rw [c]; exact fun z => nomatch z)] at e
      cases e)
  have env : Env0 l.prog w (K w.params) mg (hidT z.heap T) callerA [] z T := by
    refine ⟨rfl, ⟨kin1, ns1 G.T.g, ⟨mb, ns1 G.T.b, G.T.builtins⟩, ?_⟩, fun b ob e => of_hidT e, Nat.le_of_eq (hidT_size _ _), trivial, (fun b m => nomatch (show b ∈ ([] : List Addr) from m)), t2, .of_eq hg⟩
    obtain ⟨mc, h1, h2⟩ := G.T.nolimit
    exact ⟨mc, ns1 h1, h2⟩
  refine codeAny_mono (F w mg fa _ kin G.T.g hmg _ kin1 (ns1 G.T.g) z T a (fun v _ => v = .bl true) (fun _ _ _ => False) env ⟨a, ns, rfl, t1, hlen, fun _ => rfl⟩) fun r z2 hr => ?_
  match r, hr with
  | .error e, hr => exact False.elim (by
      obtain ⟨_, _, _, _, _, _, _, _, _, _, _, _, x⟩ := hr
      exact x)
  | .ok .next, hr => exact hr.elim
  | .ok .brk, hr => exact hr.elim
  | .ok .cont, hr => exact hr.elim
  | .ok (.ret u), ⟨v, T2, os, bare, un, ok2, rv, hv⟩ =>
    have hv2 : v = .bl true := hv
    subst hv2
    have e : u = Value.bool true := rv
    subst e
    refine ⟨rfl, OldK.of_keep fun b ob e => ?_, os, bare⟩
    cases c : T b with
    | none => exact un.keep b ob e c (fun m => nomatch (show b ∈ ([] : List Addr) from m)) (fun m => nomatch (show b ∈ ([] : List Addr) from m))
    | some u =>
      obtain ⟨_, o2, xs, rfl⟩ := t3 b u c
      obtain ⟨g1, _⟩ := t2 b _ c
      obtain ⟨g2, _⟩ := ok2 b _ (un.frzs b o2 _ c)
      rw [e] at g1
      cases g1
      exact g2
end TU

set_option Elab.async false
set_option linter.all false
set_option maxRecDepth 100000
namespace TU
open PySem PySem.Spec PyProof.Rows L2
/-! ### what repr shows, and how long that may be -/
/-- of size n, depth m; j: no list within -/
structure Vw (n m : Nat) (j : Bool) (d : Tr) : Prop where
  sh : (py d).showable = true
  sl : (py d).leavesShort 13 = true
  bk : (py d).bulk ≤ n
  dp : dep d ≤ m
  nl : j = true → nol d = true
theorem Vw.le {n m n' m' : Nat} {j : Bool} {d : Tr} (v : Vw n m j d) (h : n ≤ n') (h' : m ≤ m') : Vw n' m' j d := ⟨v.sh, v.sl, Nat.le_trans v.bk h, Nat.le_trans v.dp h', v.nl⟩
structure Vws (n m : Nat) (j : Bool) (ds : List Tr) : Prop where
  sh : PyData.showableAll (pys ds) = true
  sl : PyData.leavesShortAll 13 (pys ds) = true
  bk : PyData.bulkAll (pys ds) ≤ n
  dp : deps ds ≤ m
  nl : j = true → nols ds = true
theorem Vws.nil {m : Nat} {j : Bool} : Vws 0 m j [] := ⟨rfl, rfl, Nat.le_refl _, Nat.zero_le _, fun _ => rfl⟩
theorem Vws.cons {a b m : Nat} {j : Bool} {d : Tr} {ds : List Tr} (v : Vw a m j d) (vs : Vws b m j ds) : Vws (a + 1 + b) m j (d :: ds) := by
  refine ⟨?_, ?_, ?_, Nat.max_le.mpr ⟨v.dp, vs.dp⟩, fun h => ?_⟩
  · simp only [pys, PyData.showableAll, v.sh, vs.sh, Bool.and_self]
  · simp only [pys, PyData.leavesShortAll, v.sl, vs.sl, Bool.and_self]
  · have := v.bk
    have := vs.bk
    simp only [pys, PyData.bulkAll]
    omega
  · simp only [nols, v.nl h, vs.nl h, Bool.and_self]
theorem Vws.all {a m : Nat} {j : Bool} : ∀ {ds : List Tr}, (∀ d ∈ ds, Vw a m j d) → Vws ((a + 1) * ds.length) m j ds
  | [], _ => .nil
  | d :: ds, h => by
    have v := Vws.cons (h d List.mem_cons_self) (Vws.all fun x hx => h x (List.mem_cons_of_mem _ hx))
    rw [List.length_cons, Nat.mul_add, Nat.mul_one, Nat.add_comm]
    exact v
theorem Vw.tup {n m : Nat} {j : Bool} {ds : List Tr} (v : Vws n m j ds) : Vw n (m + 1) j (.tup ds) := ⟨by simp only [py, PyData.showable]; exact v.sh, by simp only [py, PyData.leavesShort]; exact v.sl, by simp only [py, PyData.bulk]; exact v.bk, Nat.succ_le_succ v.dp, fun h => by simp only [nol]; exact v.nl h⟩
theorem Vw.lst {n m : Nat} {j : Bool} {ds : List Tr} (v : Vws n m j ds) : Vw n (m + 1) false (.lst ds) := ⟨by simp only [py, PyData.showable]; exact v.sh, by simp only [py, PyData.leavesShort]; exact v.sl, by simp only [py, PyData.bulk]; exact v.bk, Nat.succ_le_succ v.dp, fun h => nomatch h⟩
theorem Vw.bl {b j : Bool} : Vw 0 0 j (.bl b) := ⟨rfl, rfl, Nat.le_refl _, Nat.le_refl _, fun _ => rfl⟩
theorem Vw.non {j : Bool} : Vw 0 0 j .non := ⟨rfl, rfl, Nat.le_refl _, Nat.le_refl _, fun _ => rfl⟩
/-- a text: each sign a sign -/
def Pla (n : Nat) (s : Str) : Prop := (s.cps.toList.all fun c => decide (c < 16 ^ 8)) = true ∧ s.cps.size ≤ n
instance (n : Nat) (s : Str) : Decidable (Pla n s) := inferInstanceAs (Decidable (_ ∧ _))
theorem Vw.str {n : Nat} {j : Bool} {s : Str} (h : Pla n s) : Vw n 0 j (.str s) := ⟨rfl, h.1, h.2, Nat.le_refl _, fun _ => rfl⟩
def Sho (i : Int) : Prop := i.natAbs.log2 < 1920 ∧ (PyData.shown (.int i)).length ≤ 13
instance (i : Int) : Decidable (Sho i) := inferInstanceAs (Decidable (_ ∧ _))
theorem Vw.int {j : Bool} {i : Int} (h : Sho i) : Vw 0 0 j (.int i) := ⟨decide_eq_true h.1, decide_eq_true h.2, Nat.le_refl _, Nat.le_refl _, fun _ => rfl⟩
theorem small_sho : ∀ k : Fin 1000, Sho (k.val : Int) := by decide +kernel
theorem sho_of {i : Int} (h0 : 0 ≤ i) (h1 : i < 1000) : Sho i := by
  have := small_sho ⟨i.toNat, by omega⟩
  rw [show (i : Int) = ((⟨i.toNat, by omega⟩ : Fin 1000).val : Int) from by show i = (i.toNat : Int); omega]
  exact this
/-- a dict whose keys are texts -/
structure Vwk (n m : Nat) (j : Bool) (ks : List (Key × Tr)) : Prop where
  sh : PyData.showableKv (pyk ks) = true
  sl : PyData.leavesShortKv 13 (pyk ks) = true
  bk : PyData.bulkKv (pyk ks) ≤ n
  dp : depk ks ≤ m
  nl : j = true → nolk ks = true
theorem Vwk.all {c a m : Nat} {j : Bool} : ∀ {ks : List (Key × Tr)}, (∀ p ∈ ks, (∃ s, p.1 = .inr s ∧ Pla c s) ∧ Vw a m j p.2) → Vwk ((c + a + 2) * ks.length) m j ks
  | [], _ => ⟨rfl, rfl, Nat.le_refl _, Nat.zero_le _, fun _ => rfl⟩
  | (k, d) :: ks, h => by
    obtain ⟨⟨s, e, ps⟩, v⟩ := h _ List.mem_cons_self
    have e' : k = .inr s := e
    subst e'
    have vs := Vwk.all fun p hp => h p (List.mem_cons_of_mem _ hp)
    refine ⟨?_, ?_, ?_, Nat.max_le.mpr ⟨v.dp, vs.dp⟩, fun q => ?_⟩
    · simp only [pyk, PyData.showableKv, PyData.showable, v.sh, vs.sh, Bool.and_self]
    · have e : (PyData.str s).leavesShort 13 = true := ps.1
      simp only [pyk, PyData.leavesShortKv, e, v.sl, vs.sl, Bool.and_self]
    · have b1 := v.bk
      have b2 := vs.bk
      have b3 := ps.2
      rw [List.length_cons, Nat.mul_add, Nat.mul_one]
      simp only [pyk, PyData.bulkKv, PyData.bulk]
      simp only at b1
      omega
    · simp only [nolk, v.nl q, vs.nl q, Bool.and_self]
theorem Vw.dic {n m : Nat} {j : Bool} {ks : List (Key × Tr)} (v : Vwk n m j ks) : Vw n (m + 1) j (.dic ks) := ⟨by simp only [py, PyData.showable]; exact v.sh, by simp only [py, PyData.leavesShort]; exact v.sl, by simp only [py, PyData.bulk]; exact v.bk, Nat.succ_le_succ v.dp, fun h => by simp only [nol]; exact v.nl h⟩
theorem Vw.len {n m : Nat} {j : Bool} {d : Tr} (v : Vw n m j d) : (py d).shown.length ≤ 15 * n + 13 := by
  have h := PyData.shown_le_bulk 13 (by decide) (py d) v.sl
  have : (13 + 2) * (py d).bulk ≤ 15 * n := Nat.mul_le_mul (by decide) v.bk
  omega
section
variable {K : PySem.W.Frag} {H : Hp} {Q : VK} {N : Addr → Prop} {a : Addr}
/-- repr of a tree without dicts, or without lists -/
theorem q_reprN {n m : Nat} {d : Tr} (t : T K H N (.ref a) d) (v : Vw n m true d) (hn : n ≤ 100000) (hm : m ≤ 60) (q : Q (.str (py d).shown) H) : rReprT K [.ref a] H Q :=
  ⟨N, a, d, rfl, t, v.sh, fun _ => v.nl rfl, Nat.le_trans v.dp hm, Nat.le_trans v.len (Nat.le_trans (show 15 * n + 13 ≤ 15 * 100000 + 13 by omega) (by decide)), q⟩
theorem q_reprL {n m : Nat} {j : Bool} {d : Tr} (t : T K H N (.ref a) d) (v : Vw n m j d) (nd : (py d).hasDict = false) (hn : n ≤ 100000) (hm : m ≤ 60) (q : Q (.str (py d).shown) H) : rReprT K [.ref a] H Q :=
  ⟨N, a, d, rfl, t, v.sh, (fun z => absurd (nd.symm.trans z) (by decide)), Nat.le_trans v.dp hm, Nat.le_trans v.len (Nat.le_trans (show 15 * n + 13 ≤ 15 * 100000 + 13 by omega) (by decide)), q⟩
mutual
theorem hasDict_py : ∀ d : Tr, nod d = true → (py d).hasDict = false
  | .non, _ => rfl
  | .bl _, _ => rfl
  | .int _, _ => rfl
  | .str _, _ => rfl
  | .lst xs, h => by
    simp only [py, PyData.hasDict]
    exact hasDict_pys xs (by simpa [nod] using h)
  | .tup xs, h => by
    simp only [py, PyData.hasDict]
    exact hasDict_pys xs (by simpa [nod] using h)
  | .dic _, h => by simp [nod] at h
theorem hasDict_pys : ∀ ds : List Tr, nods ds = true → PyData.hasDictAll (pys ds) = false
  | [], _ => rfl
  | x :: xs, h => by
    have h' : nod x = true ∧ nods xs = true := by simpa [nods] using h
    simp only [pys, PyData.hasDictAll, hasDict_py x h'.1, hasDict_pys xs h'.2, Bool.or_self]
end
end
end TU

set_option Elab.async false
set_option linter.all false
set_option maxRecDepth 100000
namespace TU
open PySem PySem.Spec PyProof.Rows L2
/-- all entries are such -/
def All (P : Tr → Prop) (h : Hs) : Prop := ∀ q ∈ h, ∀ x ∈ q.2, P x.2
def EdP (P : Tr → Prop) (e : Ed) : Prop := ∀ k n d, e = .put k n d → P d
section
variable {P : Tr → Prop}
theorem All.lk {h : Hs} (a : All P h) {k n : Str} {t : Tab} {d : Tr} (e : lk h k = some t) (e2 : lk t n = some d) : P d := a _ (lk_mem e) _ (lk_mem e2)
theorem All.cp {h : Hs} (a : All P h) : All P (cpH h) := fun q hq x hx => by
  obtain ⟨p, hp, rfl⟩ := List.mem_map.mp hq
  obtain ⟨n, hn, e⟩ := List.mem_map.mp (show x ∈ (srt (nms p.2)).map fun n => (n, (TU.lk p.2 n).getD default) from hx)
  have m : n ∈ nms p.2 := (srt_perm _).mem_iff.mp hn
  obtain ⟨d, hd⟩ := lk_mem_nms m
  rw [← e]
  show P ((TU.lk p.2 n).getD default)
  rw [hd]
  exact a p hp _ (lk_mem hd)
theorem app1_all {h h' : Hs} {e : Ed} (a : All P h) (b : EdP P e) (ha : app1 h e = .ok h') : All P h' := by
  cases q : TU.lk h e.key with
  | none =>
    simp only [app1, q] at ha
    cases ha
  | some t =>
    have hm := lk_mem q
    cases e with
    | put k m d =>
      simp only [app1, q] at ha
      cases ha
      intro p hp x hx
      rcases mem_put hp with c | c
      · exact a p c x hx
      · rw [c] at hx
        rcases mem_put hx with c2 | c2
        · exact a _ hm x c2
        · rw [c2]
          exact b _ _ _ rfl
    | drop k m =>
      by_cases hin : m ∈ nms t
      · simp only [app1, q, if_pos hin] at ha
        cases ha
        intro p hp x hx
        rcases mem_put hp with c | c
        · exact a p c x hx
        · rw [c] at hx
          exact a _ hm x (mem_del hx)
      · simp only [app1, q, if_neg hin] at ha
        cases ha
theorem appAll_all : ∀ {es : List Ed} {h h' : Hs}, All P h → (∀ e ∈ es, EdP P e) → appAll h es = .ok h' → All P h'
  | [], h, h', n, hn, ha => by
    cases ha
    exact n
  | e :: es, h, h', n, hn, ha => by
    rw [appAll_cons] at ha
    cases q : app1 h e with
    | error x =>
      rw [q] at ha
      cases ha
    | ok h1 =>
      rw [q] at ha
      exact appAll_all (app1_all n (hn e List.mem_cons_self) q) (fun x hx => hn x (List.mem_cons_of_mem _ hx)) ha
theorem inv1_all {h : Hs} {e : Ed} (a : All P h) : EdP P (inv1 h e) := fun k n d z => by
  unfold inv1 at z
  cases q : TU.lk h e.key with
  | none =>
    rw [q] at z
    cases z
  | some t =>
    rw [q] at z
    cases q2 : TU.lk t e.name with
    | none =>
      simp only [q2] at z
      cases z
    | some d2 =>
      simp only [q2] at z
      cases z
      exact a.lk q q2
end
theorem nods_all : ∀ {ds : List Tr}, (∀ d ∈ ds, TU.nod d = true) → nods ds = true
  | [], _ => rfl
  | d :: ds, h => by
    have h1 := h d List.mem_cons_self
    have h2 := nods_all fun x hx => h x (List.mem_cons_of_mem _ hx)
    simp only [nods, h1, h2, Bool.and_self]
theorem Ed.nod {e : Ed} (i : e.Imm) : TU.nod e.tr = true := by
  cases e with
  | put k n d =>
    have := nod_of_imm (show imm d = true from i)
    simp only [Ed.tr, TU.nod, nods, this, Bool.and_self]
  | drop k n => rfl
theorem deps_all {n : Nat} : ∀ {ds : List Tr}, (∀ d ∈ ds, TU.dep d ≤ n) → deps ds ≤ n
  | [], _ => Nat.zero_le _
  | d :: ds, h => Nat.max_le.mpr ⟨h d List.mem_cons_self, deps_all fun x hx => h x (List.mem_cons_of_mem _ hx)⟩
theorem invs_all {P : Tr → Prop} : ∀ {es : List Ed} {h : Hs}, All P h → (∀ e ∈ es, EdP P e) → ∀ e ∈ invs h es, EdP P e
  | [], h, a, b, e, m => nomatch m
  | e :: es, h, a, b, x, m => by
    unfold invs at m
    rcases List.mem_cons.mp m with rfl | m
    · exact inv1_all a
    · cases q : app1 h e with
      | error z =>
        rw [q] at m
        cases m
      | ok h1 =>
        rw [q] at m
        exact invs_all (app1_all a (b e List.mem_cons_self) q) (fun y hy => b y (List.mem_cons_of_mem _ hy)) x m
theorem Ed.dep {e : Ed} (i : EdP (fun d => TU.dep d ≤ 50) e) : TU.dep e.tr ≤ 51 := by
  cases e with
  | put k n d =>
    have := i _ _ _ rfl
    simp only [Ed.tr, TU.dep, deps]
    omega
  | drop k n => exact (by decide : 1 ≤ 51)
section
variable {K : PySem.W.Frag} {H : Hp} {Q : VK}
theorem q_neR {x y : V} {d : Tr} (hx : T K H ff x d) (hy : T K H ff y d) (n : nod d = true) (m : dep d ≤ 60) (k : Q (.bl false) H) : rNeU K x y H Q := by
  refine q_neT hx hy n n m ?_
  rw [eqb_refl n]
  exact k
theorem q_eqR {x y : V} {d : Tr} (hx : T K H ff x d) (hy : T K H ff y d) (n : nod d = true) (m : dep d ≤ 60) (k : Q (.bl true) H) : rEqU K x y H Q := by
  refine q_eqT hx hy n n m ?_
  rw [eqb_refl n]
  exact k
theorem q_eqSS {s : Str} (k : Q (.bl true) H) : rEqU K (.str s) (.str s) H Q := q_eqS (by rw [decide_eq_true rfl]; exact k)
theorem q_neSS {s : Str} (k : Q (.bl false) H) : rNeU K (.str s) (.str s) H Q := q_neS (by rw [decide_eq_true rfl]; exact k)
end
/-- one edit, in all the forms that the laws ask for -/
structure Step (s : Hs) (e : Ed) (g u : Hs) : Prop where
  a1 : app1 s e = .ok g
  a2 : app1 (cpH s) e = .ok g
  b : app1 (cpH (cpH g)) (inv1 s e) = .ok u
  c : cpH u = s
theorem step_of {f f' : Hs} {e : Ed} (w : Wf f) (im : e.Imm) (h : app1 f e = .ok f') : ∃ g u, Step (cpH f) e g u ∧ cpH f' = cpH g ∧ Wf g ∧ Wf u ∧ nms g = nms f ∧ nms u = nms f := by
  obtain ⟨g, hg, hc⟩ := app1_cp w w.cp (cp_cp w).symm h
  obtain ⟨wg, ng⟩ := app1_wf w.cp im hg
  obtain ⟨u, hu, hcu⟩ := undo1 w.cp hg
  obtain ⟨v, hv, hcv⟩ := app1_cp wg wg.cp (cp_cp wg).symm hu
  obtain ⟨wv, nv⟩ := app1_wf wg.cp (inv1_imm w.cp e) hv
  rw [nms_cp] at ng nv
  refine ⟨g, v, ⟨hg, by rw [cp_cp w]; exact hg, by rw [cp_cp wg]; exact hv, ?_⟩, hc, wg, wv, ng, nv.trans ng⟩
  rw [← hcv, hcu, cp_cp w]
theorem appAll_next {h f hz : Hs} {es : List Ed} {i : Nat} {e : Ed} (he : es[i]? = some e) (ha : appAll h (es.take i) = .ok f) (hz : appAll h es = .ok hz) : ∃ f', app1 f e = .ok f' := by
  cases q : app1 f e with
  | ok f' => exact ⟨f', rfl⟩
  | error x =>
    rw [appAll_stop he ha q] at hz
    cases hz
theorem nt_rd {H : Hp} {a : Addr} {kvs : List (Key × V)} {xs : List V} (h : Rd H a (.dK kvs)) (h' : Rd H a (.tup xs)) : False := by
  rcases h with e | ⟨o, e⟩ <;> rcases h' with e' | ⟨o', e'⟩ <;> (rw [e] at e'; cases e')
end TU

set_option Elab.async false
set_option linter.all false
set_option maxRecDepth 100000
namespace TU
open PySem PySem.Spec PyProof.Rows L2
/-! ### what the top has written -/
theorem top_mk {K : PySem.W.Frag} {h : Heap} {mg : Str → Option Value} {x : Str} {st : Stmt} {ps : List Str} {f : Addr} {oc : Value} {od an : Option Addr} {osl : Array (Option Value)} {kV doc pm cdv ct : Value} (X : K.In h) (G : h.Ns mainGlobals mg)
    (ha : PySem.W.nsIn K mainGlobals x = some (some (.ref f))) (hl : K.lookup f = some ⟨oc, od, .func (PySem.W.fnOf x x (defArgs st) (defBody st) (defScope st) .none kV doc pm an cdv ct), osl⟩) (hc : PySem.W.codeIn K cdv x = true) (hk : PySem.W.keepIn K (.ref f) = true)
    (hb : ∀ (kV doc pm : Value) (an : Option Addr) (cdv ct : Value) (us : List Value), us.length = ps.length → bindArgs (PySem.W.fnOf x x (defArgs st) (defBody st) (defScope st) .none kV doc pm an cdv ct) ⟨us, []⟩ = pure (ps.zip us)) : TopF K mg x st ps :=
  ⟨f, _, fun_mk hl hc hk, PySem.W.mg_of X G ha, (fun_mk hl hc hk).binds hb⟩
/-- an error of its own class is caught by it -/
theorem exm_me {K : PySem.W.Frag} {C : Addr} (h1 : PySem.W.subIn K (.ref C) (.type "BaseException") = some true) (h2 : PySem.W.isClsIn K C = true) (h3 : PySem.W.typeIn K (.ref C) = some (.type "type")) (h4 : PySem.W.subIn K (.ref C) (.ref C) = some true) :
    PySem.W.exmOne K (.ref C) (.ref C) = some true := by
  have c1 : (PySem.W.clsIn K C).isSome = true := h2
  have c2 : ((PySem.W.clsIn K C).isSome && PySem.W.typeIn K (.ref C) == some (.type "type")) = true := by
    rw [c1, h3]
    rfl
  have c3 : (PySem.W.subIn K (.ref C) (.type "BaseException") == some true) = true := by
    rw [h1]
    rfl
  unfold PySem.W.exmOne
  simp only [c3, if_true]
  unfold PySem.W.kitCls
  simp only [c2, if_true]
  exact h4
theorem xc_mk2 {P : Program} {w : World} {K : PySem.W.Frag} {h : Heap} {mg : Str → Option Value} {base : Heap} {x qual f1 f2 : Str} {st : Stmt} {C f : Addr} (X : K.In h) (G : h.Ns mainGlobals mg)
    {nm q : Str} {N : Addr} {bs bm : List Value} {sn : List Str} {sub : List Value} {ab : Bool} {col : Option Bool} {dd : Option Addr} {m0 m1 m2 m3 m5 : Option Value}
    {od an : Option Addr} {sl : Array (Option Value)} {oc kV dc pm cd ct : Value} {p1 p2 p3 p4 q1 q2 q3 q4 : Pos}
    (aC : PySem.W.nsIn K mainGlobals x = some (some (.ref C))) (xL : K.lookup C = some (excClassObj nm q C N bs bm true sn sub ab col dd m0 m1 m2 m3 m5 "ValueError.__new__")) (xb : PySem.HandSPX.refsVE bm = true)
    (sa : PySem.W.findIn K (.ref C) "__setattr__" = some (some (.builtin "object.__setattr__"))) (ga : PySem.W.findIn K (.ref C) "__getattribute__" = some (some (.builtin "BaseException.__getattribute__"))) (gg : PySem.W.findIn K (.ref C) "__getattr__" = some none)
    (n1 : PySem.W.findIn K (.ref C) f1 = some none) (n2 : PySem.W.findIn K (.ref C) f2 = some none)
    (a1 : PySem.W.findIn K (.ref C) "__init__" = some (some (.ref f))) (t1 : PySem.W.typeIn K (.ref f) = some (.type "function"))
    (l1 : K.lookup f = some ⟨oc, od, .func (PySem.W.fnOf "__init__" qual (defArgs st) (defBody st) (defScope st) .none kV dc pm an cd ct), sl⟩) (c1 : PySem.W.codeIn K cd qual = true) (k1 : PySem.W.keepIn K (.ref f) = true)
    (kC : PySem.W.keepIn K (.ref C) = true) (eC : PySem.W.subIn K (.ref C) (.type "BaseException") = some true) (tC : PySem.W.typeIn K (.ref C) = some (.type "type")) (hC : PySem.W.hasDictIn K C = true) (iC : PySem.W.isClsIn K C = true) (sC : PySem.W.subIn K (.ref C) (.ref C) = some true)
    (S : FnScope ["self", f1, f2] ["self", f1, f2] (defScope st)) (hb : defBody st = [.Assign [.Attribute (.Name "self" p1) f1 p2] (.Name f1 p3) p4, .Assign [.Attribute (.Name "self" q1) f2 q2] (.Name f2 q3) q4])
    (d1 : (f1 == ("__debug__" : Str)) = false) (d2 : (f1 == ("__classdict__" : Str)) = false) (e1 : (f2 == ("__debug__" : Str)) = false) (e2 : (f2 == ("__classdict__" : Str)) = false)
    (v0 : Vis (defScope st) "self") (v1 : Vis (defScope st) f1) (v2 : Vis (defScope st) f2)
    (bi : ∀ (kV doc pm : Value) (an : Option Addr) (cdv ct : Value) (us : List Value), us.length = 3 → bindArgs (PySem.W.fnOf "__init__" qual (defArgs st) (defBody st) (defScope st) .none kV doc pm an cdv ct) ⟨us, []⟩ = pure ((["self", f1, f2] : List Str).zip us)) :
    Xc P w K mg base x [f1, f2] C := by
  have T : OexC K C := ⟨⟨nm, q, N, bs, bm, sn, sub, ab, col, dd, m0, m1, m2, m3, m5, xL, xb⟩, sa, eC, tC, kC⟩
  have F := fun_mk (st := st) l1 c1 k1
  refine ⟨T, ⟨ga, gg, eC, hC⟩, PySem.W.mg_of X G aC, fun y hy => ?_, exm_me eC iC tC sC, f, _, a1, t1, ok_init2 F S hb T n1 n2 d1 d2 e1 e2 v0 v1 v2, F.binds bi⟩
  rcases List.mem_cons.mp hy with rfl | hy
  · exact n1
  · rw [List.mem_singleton.mp hy]
    exact n2
end TU

set_option Elab.async false
set_option linter.all false
set_option maxRecDepth 100000
namespace TU
open PySem PySem.Spec PyProof.Rows L2
/-! ### sorted lists of pairs of texts -/
abbrev SP := Str × Str
def lexS (p q : SP) : Bool := if p.1 = q.1 then ltS p.2 q.2 else ltS p.1 q.1
theorem lexS_eq {p q : SP} (h : p.1 = q.1) : lexS p q = ltS p.2 q.2 := if_pos h
theorem lexS_ne {p q : SP} (h : ¬ p.1 = q.1) : lexS p q = ltS p.1 q.1 := if_neg h
theorem lexS_asymm {p q : SP} (h : lexS p q = true) : lexS q p = false := by
  by_cases e : p.1 = q.1
  · rw [lexS_eq e] at h
    rw [lexS_eq e.symm]
    exact ltS_asymm h
  · rw [lexS_ne e] at h
    rw [lexS_ne (Ne.symm e)]
    exact ltS_asymm h
theorem lexS_tri {p q : SP} (h1 : lexS p q = false) (h2 : lexS q p = false) : p = q := by
  by_cases e : p.1 = q.1
  · rw [lexS_eq e] at h1
    rw [lexS_eq e.symm] at h2
    exact Prod.ext e (ltS_tri h1 h2)
  · rw [lexS_ne e] at h1
    rw [lexS_ne (Ne.symm e)] at h2
    exact absurd (ltS_tri h1 h2) e
theorem lexS_trans {p q r : SP} (h1 : lexS p q = true) (h2 : lexS q r = true) : lexS p r = true := by
  by_cases e : p.1 = q.1
  · rw [lexS_eq e] at h1
    by_cases e2 : q.1 = r.1
    · rw [lexS_eq e2] at h2
      rw [lexS_eq (e.trans e2)]
      exact ltS_trans h1 h2
    · rw [lexS_ne e2] at h2
      rw [lexS_ne (by rw [e]; exact e2), e]
      exact h2
  · rw [lexS_ne e] at h1
    by_cases e2 : q.1 = r.1
    · rw [lexS_ne (by rw [← e2]; exact e), ← e2]
      exact h1
    · rw [lexS_ne e2] at h2
      have h3 := ltS_trans h1 h2
      rw [lexS_ne fun z => ?_]
      · exact h3
      · rw [z, ltS_irr] at h3
        cases h3
theorem swo_lexS {α : Type} (k : α → SP) : SrtO.Swo fun v u => lexS (k v) (k u) := by
  refine ⟨fun x y h => lexS_asymm h, fun x y z h1 h2 => ?_⟩
  cases q : lexS (k z) (k x) with
  | false => rfl
  | true =>
    cases q2 : lexS (k x) (k y) with
    | true =>
      have := lexS_trans q q2
      rw [show lexS (k z) (k y) = false from h2] at this
      cases this
    | false =>
      have e := lexS_tri q2 h1
      rw [e] at q
      rw [show lexS (k z) (k y) = false from h2] at q
      cases q
def insP (x : SP) : List SP → List SP
  | [] => [x]
  | y :: r => if lexS y x = true then y :: insP x r else x :: y :: r
def srtP : List SP → List SP
  | [] => []
  | x :: r => insP x (srtP r)
theorem insP_perm (x : SP) : ∀ l : List SP, (insP x l).Perm (x :: l)
  | [] => List.Perm.refl _
  | y :: r => by
    unfold insP
    by_cases h : lexS y x = true
    · rw [if_pos h]
      exact ((insP_perm x r).cons y).trans (List.Perm.swap x y r)
    · rw [if_neg h]
theorem srtP_perm : ∀ l : List SP, (srtP l).Perm l
  | [] => List.Perm.refl _
  | x :: r => (insP_perm x (srtP r)).trans ((srtP_perm r).cons x)
/-- no later one is below an earlier one -/
def AscP (l : List SP) : Prop := l.Pairwise fun x y => lexS y x = false
theorem insP_asc (x : SP) : ∀ {l : List SP}, AscP l → AscP (insP x l)
  | [], _ => List.pairwise_singleton _ _
  | y :: r, h => by
    have hc := List.pairwise_cons.mp h
    unfold insP
    by_cases c : lexS y x = true
    · rw [if_pos c]
      refine List.pairwise_cons.mpr ⟨fun z hz => ?_, insP_asc x hc.2⟩
      rcases List.mem_cons.mp ((insP_perm x r).mem_iff.mp hz) with e | hz
      · rw [e]
        exact lexS_asymm c
      · exact hc.1 z hz
    · rw [if_neg c]
      have c' : lexS y x = false := by cases q : lexS y x with
        | true => exact absurd q c
        | false => rfl
      refine List.pairwise_cons.mpr ⟨fun z hz => ?_, h⟩
      rcases List.mem_cons.mp hz with e | hz
      · rw [e]
        exact c'
      · exact (swo_lexS (fun x : SP => x)).tr _ _ _ c' (hc.1 z hz)
theorem srtP_asc : ∀ l : List SP, AscP (srtP l)
  | [] => List.Pairwise.nil
  | x :: r => insP_asc x (srtP_asc r)
theorem ascP_uniq : ∀ {l m : List SP}, AscP l → AscP m → l.Perm m → l = m
  | [], m, _, _, p => (List.nil_perm.mp p).symm
  | x :: l, [], _, _, p => absurd (List.perm_nil.mp p) (by simp)
  | x :: l, y :: m, hl, hm, p => by
    have h1 := List.pairwise_cons.mp hl
    have h2 := List.pairwise_cons.mp hm
    have e : x = y := by
      rcases List.mem_cons.mp (p.mem_iff.mp List.mem_cons_self) with e | mx
      · exact e
      · rcases List.mem_cons.mp (p.mem_iff.mpr (List.mem_cons_self (a := y) (l := m))) with e | my
        · exact e.symm
        · exact lexS_tri (h2.1 x mx) (h1.1 y my)
    subst e
    rw [ascP_uniq h1.2 h2.2 p.cons_inv]
theorem srtP_is {l m : List SP} (p : m.Perm l) (h : AscP m) : m = srtP l := ascP_uniq h (srtP_asc l) (p.trans (srtP_perm l).symm)
theorem srtP_of {l m : List SP} (p : l.Perm m) : srtP l = srtP m := ascP_uniq (srtP_asc l) (srtP_asc m) (((srtP_perm l).trans p).trans (srtP_perm m).symm)
/-! the values -/
def IsPS (h : Heap) (v : Value) (p : SP) : Prop := ∃ a o t u n, v = .ref a ∧ h.get? a = some o ∧ o.cls = .type "tuple" ∧ o.data = .seq #[.str p.1 t, .str p.2 u] n
theorem IsPS.keeps {h h' : Heap} {v : Value} {p : SP} (x : IsPS h v p) (k : ∀ b o, h.get? b = some o → o.cls = .type "tuple" → h'.get? b = some o) : IsPS h' v p := by
  obtain ⟨a, o, t, u, n, e, ho, hc, hd⟩ := x
  exact ⟨a, o, t, u, n, e, k _ _ ho hc, hc, hd⟩
theorem IsPS.uniq {h : Heap} {v : Value} {p q : SP} (x : IsPS h v p) (y : IsPS h v q) : p = q := by
  obtain ⟨a, o, t, u, n, e, ho, hc, hd⟩ := x
  obtain ⟨a', o', t', u', n', e', ho', hc', hd'⟩ := y
  subst e
  cases e'
  rw [ho] at ho'
  cases ho'
  rw [hd] at hd'
  have e2 := (Data.seq.inj hd').1
  have e3 : [Value.str p.1 t, .str p.2 u] = [Value.str q.1 t', .str q.2 u'] := congrArg Array.toList e2
  have e4 := List.cons.inj e3
  have e5 := (List.cons.inj e4.2).1
  exact Prod.ext (Value.str.inj e4.1).1 (Value.str.inj e5).1
theorem firstsS {h : Heap} {k : Value → SP} : ∀ {vs : List Value}, (∀ v ∈ vs, IsPS h v (k v)) → ∃ fs : List Value, PySem.W.KatTups h vs fs ∧ fs.length = vs.length ∧ ∀ f ∈ fs, ∃ x t, f = Value.str x t
  | [], _ => ⟨[], PySem.W.KatTups.nil, rfl, fun _ m => nomatch m⟩
  | v :: vs, hp => by
    obtain ⟨fs, h1, h2, h3⟩ := firstsS (vs := vs) fun y m => hp y (List.mem_cons_of_mem _ m)
    obtain ⟨a, o, t, u, n, e, ho, hc, hd⟩ := hp v List.mem_cons_self
    refine ⟨.str (k v).1 t :: fs, ?_, congrArg Nat.succ h2, fun f m => ?_⟩
    · have z : PySem.W.KatTups h (.ref a :: vs) (.str (k v).1 t :: fs) := .cons ho hc hd rfl h1
      rw [← e] at z
      exact z
    · rcases List.mem_cons.mp m with c | c
      · exact ⟨_, _, c⟩
      · exact h3 f c
section
variable {prog : Program} {w : World} {A : Around} {E : Value → Shared → Prop} {s : Shared}
theorem pairS_cmp {vs : List Value} {k : Value → SP} (hp : ∀ v ∈ vs, IsPS s.heap v (k v)) : SrtO.Cmp prog w A s (tuples' true) (fun p => p.1 ∈ vs) (SrtO.lt2 fun v u => lexS (k v) (k u)) := by
  intro p q m1 m2
  have h1 := hp _ m1
  have h2 := hp _ m2
  show wpAny (model prog w) A (keyLt' (tuples' true) p.1 q.1) (fun r z => z = s ∧ r = lexS (k p.1) (k q.1)) (fun _ _ => False) s
  generalize k p.1 = x at h1 ⊢
  generalize k q.1 = y at h2 ⊢
  obtain ⟨a, o, t, u, n, e, ho, hc, hd⟩ := h1
  obtain ⟨b, o2, t2, u2, n2, e2, ho2, hc2, hd2⟩ := h2
  rw [e, e2]
  refine PySem.W.kat_lt ho hd ho2 hd2 ?_
  show PySem.W.KatLex prog w A true (decide (2 < 2)) _ [(.str x.1 t, .str y.1 t2), (.str x.2 u, .str y.2 u2)] 0 s
  refine PySem.W.kat_cons (SeqAt.EqAt.str_str x.1 t y.1 t2 prog w _ _ ?_)
  refine PySem.W.kat_go (fun c => ?_) (fun c => ?_)
  · have c1 : x.1 = y.1 := by simpa using c
    refine PySem.W.kat_yes (PySem.W.kat_cons (SeqAt.EqAt.str_str x.2 u y.2 u2 prog w _ _ ?_))
    refine PySem.W.kat_go (fun d => ?_) (fun d => ?_)
    · have c2 : x.2 = y.2 := by simpa using d
      refine PySem.W.kat_yes (PySem.W.kat_nil ⟨rfl, ?_⟩)
      rw [lexS_eq c1, c2, ltS_irr]
      rfl
    · refine PySem.W.kat_no (oneLt_any_str ⟨rfl, ?_⟩)
      rw [lexS_eq c1]
      exact (Bool.eq_iff_iff.mpr (by rw [decide_eq_true_eq, ltS_iff]))
  · have c1 : ¬ x.1 = y.1 := by simpa using c
    refine PySem.W.kat_no (oneLt_any_str ⟨rfl, ?_⟩)
    rw [lexS_ne c1]
    exact (Bool.eq_iff_iff.mpr (by rw [decide_eq_true_eq, ltS_iff]))
theorem pairS_sortable {a : Addr} {vs : List Value} {k : Value → SP} (h0 : 0 < vs.length) (hp : ∀ v ∈ vs, IsPS s.heap v (k v)) (ha : ∀ o, s.heap.get? a = some o → o.cls ≠ .type "tuple") : SrtO.SortableO prog w A s a vs fun v u => lexS (k v) (k u) := by
  intro h1 keep
  have hq : ∀ v ∈ vs, IsPS h1 v (k v) := fun v m => (hp v m).keeps fun b o e c => keep b o (fun z => by subst z; exact ha o e c) e
  obtain ⟨fs, f1, f2, f3⟩ := firstsS hq
  refine ⟨tuples' true, fun Q E hh => ?_, pairS_cmp hq⟩
  refine PySem.W.kat_kind (T := .type "str") f1 (by omega) (fun f m => ?_) (by rfl) ?_
  · obtain ⟨x, t, rfl⟩ := f3 f m
    exact PySem.W.Looks.now
  · rw [show (Value.type "str" != Value.type "tuple") = true by first | rfl | decide +kernel]
    exact hh
end
def pr (p : SP) : Tr := .tup [.str p.1, .str p.2]
/-- sorted(c), c a list of pairs of texts -/
def rSortP (K : PySem.W.Frag) : List V → Hp → VK → Prop := fun vs H Q => ∃ (a : Addr) (xs : List V) (ps : List SP), vs = [.ref a] ∧ SqL K H a xs ∧ Ts K H ff xs (ps.map pr) ∧
  ∀ ys p, Ts K H ff ys ((srtP ps).map pr) → H p = none → Q (.ref p) (upd H p (.lst ys))
theorem T.pair {X : Cx} {pins : List (Addr × Obj)} {σ : L2.St} {H : Hp} {s : Shared} (I : Inv X pins σ H s) {x : V} {v : Value} {p : SP} (t : T X.K H ff x (pr p)) (r : RelV x v) : (∃ b, x = .ref b) ∧ IsPS s.heap v p := by
  obtain ⟨p1, p2⟩ := p
  cases t with
  | @tup b ws _ hq ts =>
    refine ⟨⟨b, rfl⟩, ?_⟩
    have e : v = .ref b := r
    subst e
    obtain ⟨its, rv, ht, hz⟩ := I.tuple hq
    cases ts with
    | cons t1 ts =>
      cases ts with
      | cons t2 ts =>
        cases ts
        cases t1
        cases t2
        obtain ⟨u1, u2, rfl, ri, rj⟩ := vals2 rv
        obtain ⟨k1, rfl⟩ := ri
        obtain ⟨k2, rfl⟩ := rj
        obtain ⟨o, ho, hc, n, hd⟩ := ht
        exact ⟨b, o, k1, k2, n, rfl, ho, hc, hd⟩
theorem call_sortP {X : Cx} : CallR X (.builtin "sorted") (rSortP X.K) := by
  intro pins s σ H vs us Q I r h
  obtain ⟨a, xs, ps, rfl, hs, ht, q⟩ := h
  obtain ⟨its, rv, hl, hz⟩ := I.list hs
  obtain ⟨u, rfl, ru⟩ := vals1 r
  obtain rfl : u = Value.ref a := ru
  haveI dec : ∀ v, Decidable (∃ p, IsPS s.heap v p) := fun v => Classical.propDecidable _
  let k : Value → SP := fun v => if c : ∃ p, IsPS s.heap v p then Classical.choose c else ("", "")
  have kis : ∀ {v p}, IsPS s.heap v p → k v = p := fun {v p} x => by
    have c : ∃ p, IsPS s.heap v p := ⟨p, x⟩
    show (if c : ∃ p, IsPS s.heap v p then Classical.choose c else ("", "")) = p
    rw [dif_pos c]
    exact (Classical.choose_spec c).uniq x
  have all : ∀ {xs : List V} {its : List Value} {ps : List SP}, Vals xs its → Ts X.K H ff xs (ps.map pr) → its.map k = ps ∧ (∀ v ∈ its, IsPS s.heap v (k v)) ∧ ∀ v ∈ its, T X.K H ff (backV v) (pr (k v)) := by
    intro xs its ps rv
    induction rv generalizing ps with
    | nil =>
      intro h
      cases ps with
      | nil => exact ⟨rfl, (fun v m => nomatch m), fun v m => nomatch m⟩
      | cons p ps => cases h
    | @cons x u xs its r1 r2 ih =>
      intro h
      cases ps with
      | nil => cases h
      | cons p ps =>
        cases h with
        | cons t1 t2 =>
          obtain ⟨⟨b, eb⟩, ip⟩ := T.pair I t1 r1
          obtain ⟨i1, i2, i3⟩ := ih t2
          subst eb
          have eu : u = .ref b := r1
          subst eu
          have ek := kis ip
          refine ⟨?_, fun v m => ?_, fun v m => ?_⟩
          · rw [List.map_cons, ek, i1]
          · rcases List.mem_cons.mp m with c | c
            · rw [c, ek]
              exact ip
            · exact i2 v c
          · rcases List.mem_cons.mp m with c | c
            · rw [c, ek]
              exact t1
            · exact i3 v c
  obtain ⟨a1, a2, a3⟩ := all rv ht
  have refs : ∀ v ∈ its, ∃ b, v = Value.ref b := fun v m => by
    obtain ⟨b, _, _, _, _, e, _⟩ := a2 v m
    exact ⟨b, e⟩
  refine SrtO.sorted_ord (swo_lexS k) hl.isList (by rw [← rv.length]; exact hz) (fun h2 h1 d hd kk => ?_) fun out o1 o2 => ?_
  · refine pairS_sortable (s := { s with heap := h1 }) (by omega) (fun v m => (a2 v m).keeps fun b o e _ => (kk b o e).2) fun o e c => ?_
    have e2 : some o = some (seqObj "list" its.toArray 0) := e.symm.trans hd
    cases e2
    exact absurd (Value.type.inj c) (by decide)
  · have mem : ∀ v ∈ out, v ∈ its := fun v m => o2.perm.mem_iff.mp m
    have ok : out.map k = srtP ps := by
      refine srtP_is ?_ (List.pairwise_map.mpr o1)
      rw [← a1]
      exact o2.perm.map k
    have build : ∀ {l : List Value}, (∀ v ∈ l, v ∈ its) → Ts X.K H ff (l.map backV) ((l.map k).map pr) := by
      intro l
      induction l with
      | nil => exact fun _ => .nil
      | cons v l ih => exact fun m => .cons (a3 v (m v List.mem_cons_self)) (ih fun y hy => m y (List.mem_cons_of_mem _ hy))
    have tb := build mem
    rw [ok] at tb
    have hd : s.heap.objs.size ≤ s.heap.objs.size + 1 := Nat.le_succ _
    obtain ⟨n, hn⟩ := sortedAll_at s.heap its out.toArray
    refine ⟨.ref (s.heap.objs.size + 1), upd H (s.heap.objs.size + 1) (.lst (out.map backV)), I.laid (t' := s.toks) (fun b o e => sortedAll_old e) hd ⟨?_, out, n, vals_back fun v m => refs v (mem v m), hn⟩, rfl, q _ _ tb (I.hok.fresh hd)⟩
    rw [List.length_map, o2.perm.length_eq, ← rv.length]
    exact hz
theorem k_sortP {X : Cx} {K : PySem.W.Frag} (h : X.K = K) : CallR X (.builtin "sorted") (rSortP K) := h ▸ call_sortP
theorem q_sortP {K : PySem.W.Frag} {H : Hp} {Q : VK} {a : Addr} {xs : List V} {ps : List SP} (h : SqL K H a xs) (t : Ts K H ff xs (ps.map pr)) (q : ∀ ys p, Ts K H ff ys ((srtP ps).map pr) → H p = none → Q (.ref p) (upd H p (.lst ys))) : rSortP K [.ref a] H Q := ⟨a, xs, ps, rfl, h, t, q⟩
end TU

set_option Elab.async false
set_option linter.all false
set_option maxRecDepth 100000
namespace TU
open PySem PySem.Spec PyProof.Rows L2
open PySem.SeqAt PySem.MeetsSeq PySem.MeetsSeq2 PySem.MeetsSeq3 PySem.SeqRoads2
open PySem.AutoSeq1 (wpAny_loadPart')
/-! ### houses told to be equal, in a pair with a list -/
theorem ne_tupIn {prog : Program} {w : World} (l b : Addr) (xs ys : Array Value) (n m : Nat) (dx dy : Option Addr) (sx sy : Array (Option Value)) : MeetsIn prog w (Builtin.«tuple.__ne__» ⟨[.ref l, .ref b], []⟩)
    (fun A R s => s.heap.get? l = some { cls := .type "tuple", dict := dx, data := .seq xs n, slots := sx } ∧ s.heap.get? b = some { cls := .type "tuple", dict := dy, data := .seq ys m, slots := sy } ∧ xs.size = ys.size ∧
      (∀ j (h1 : j < xs.size) (h2 : j < ys.size), EqIn prog w A.in1 s xs[j] ys[j] true) ∧ R (.ok (.ret (.bool false))) s) :=
  .of_wp fun A R s h => by
    obtain ⟨hp, g, d, tk, os⟩ := s
    obtain ⟨hl, hb, hsz, he, h⟩ := h
    have f2 := AutoSeq1.sub_tuple_tuple
    have hZ : (xs.toList.zip ys.toList).length = xs.size := by simp [hsz]
    wp_walk using wpAny_loadPart' hl, wpAny_loadPart' hb, wpAny_forIn_list _ (fun rest c z => c.1 = none ∧ z = ⟨hp, g, d, tk, os⟩ ∧ ∃ i, rest = (xs.toList.zip ys.toList).drop i) _
    case turn =>
      rintro ⟨y, x⟩ rest c z ⟨hc, rfl, i, hz⟩
      have hi : i < (xs.toList.zip ys.toList).length := by
        rcases Nat.lt_or_ge i (xs.toList.zip ys.toList).length with q | q
        · exact q
        · rw [List.drop_of_length_le q] at hz
          cases hz
      have h1 : i < xs.size := hZ ▸ hi
      have h2 : i < ys.size := hsz ▸ h1
      rw [List.drop_eq_getElem_cons hi] at hz
      injection hz with hyx hrest
      have e1 : y = xs[i] := by simpa using congrArg Prod.fst hyx
      have e2 : x = ys[i] := by simpa using congrArg Prod.snd hyx
      subst e1 e2
      refine wpAny_bind (he i h1 h2 _ _ ?_)
      wp_walk
      exact ⟨rfl, rfl, i + 1, hrest⟩
    case fin =>
      rintro ⟨c1, c2⟩ z ⟨hc, rfl, i, hz⟩
      simp only at hc
      subst hc
      wp_walk
      exact ⟨_, rfl, by simpa [Builtin.Tuple.tupleCompareSizes, hsz] using h⟩
    case h => exact ⟨rfl, rfl, 0, rfl⟩
theorem ne_tupsT {prog : Program} {w : World} {A : Around} {E : Value → Shared → Prop} {s : Shared} {l b : Addr} {xs ys : Array Value} {n : Nat} {Q : Value → Shared → Prop} (hl : s.heap.IsTuple l xs) (hb : s.heap.IsTuple b ys) (hsz : xs.size = ys.size)
    (t : ∀ j (h1 : j < xs.size) (h2 : j < ys.size), PySem.W.EqTree prog w s n xs[j] ys[j] true) (hu : A.units + (n + 1) < cLine) (h : Q (.bool false) s) : wpAny (model prog w) A (compareOp .NotEq (.ref l) (.ref b)) Q E s := by
  obtain ⟨⟨cls, dd, data, sl⟩, ho, hc, k, hd⟩ := id hl
  obtain ⟨⟨cls2, dd2, data2, sl2⟩, ho2, hc2, k2, hd2⟩ := id hb
  simp only at hc hd hc2 hd2
  subst hc hd hc2 hd2
  exact wpAny_richCompare_same_room (T := "tuple") (op := .NotEq) ⟨_, ho, rfl⟩ ⟨_, ho2, rfl⟩ F.slot_tuple_ne (call_meetsIn F.slot_tuple_ne ⟨_, ho, rfl⟩ F.entry_tuple_ne (F.args_tuple_ne_2 _ _) (ne_tupIn l b xs ys k k2 dd dd2 sl sl2)
    ⟨ho, ho2, hsz, fun j h1 h2 => (t j h1 h2).at A.in1 (by show A.units + 1 + _ < cLine; omega), show Value.bool false ≠ Value.notImplemented ∧ Q (.bool false) s from ⟨(fun z => nomatch z), h⟩⟩) (by omega)
theorem kv_mem {vk : List (Key × V)} {va : List (Key × Value)} (r : KV vk va) : ∀ {k : Key} {v : Value}, (k, v) ∈ va → ∃ x, (k, x) ∈ vk ∧ RelV x v := by
  unfold KV at r
  induction r with
  | nil => exact fun m => nomatch m
  | @cons p q ps qs h t ih =>
    intro k v m
    obtain ⟨e1, e2⟩ := h
    rcases List.mem_cons.mp m with c | c
    · rw [← c] at e1 e2
      obtain ⟨k2, x⟩ := p
      have e3 : k2 = k := e1
      subst e3
      exact ⟨x, List.mem_cons_self, e2⟩
    · obtain ⟨x, m2, rx⟩ := ih c
      exact ⟨x, List.mem_cons_of_mem _ m2, rx⟩
theorem Tk.mem {K : PySem.W.Frag} {H : Hp} {P : Addr → Prop} : ∀ {vk : List (Key × V)} {ks : List (Key × Tr)} {k : Key} {x : V}, Tk K H P vk ks → (k, x) ∈ vk → ∃ d, (k, d) ∈ ks ∧ T K H P x d
  | _, _, _, _, .nil, m => nomatch m
  | _, _, k, x, .cons h t, m => by
    rcases List.mem_cons.mp m with c | c
    · cases c
      exact ⟨_, List.mem_cons_self, h⟩
    · obtain ⟨d, m2, td⟩ := Tk.mem t c
      exact ⟨d, List.mem_cons_of_mem _ m2, td⟩
section
variable {X : Cx} {pins : List (Addr × Obj)} {σ : L2.St} {H : Hp} {s : Shared} {P P' : Addr → Prop}
theorem tree_leaf (I : Inv X pins σ H s) {x y : V} {v u : Value} {d : Tr} (hx : T X.K H P x d) (hy : T X.K H P' y d) (n : nod d = true) (m : dep d ≤ 60) (rx : RelV x v) (ry : RelV y u) : PySem.W.EqTree X.prog X.w s 60 v u true := by
  obtain ⟨as, q1, _⟩ := T.reads I d x v hx rx
  obtain ⟨bs, q2, _⟩ := T.reads I d y u hy ry
  refine .leaf fun A hu => ?_
  have z := SeqAt.eqAt_plain _ _ A s v u _ _ q1 q2 (plain_py d n) (plain_py d n) (by
    rw [depth_py, Nat.min_self]
    omega)
  rw [show PyData.eqv (py d) (py d) = true from eqb_refl n] at z
  exact z
theorem tree_dict (I : Inv X pins σ H s) {a b : Addr} {vk vl : List (Key × V)} {ks ls : List (Key × Tr)} {n : Nat} (ha : Rd H a (.dK vk)) (hb : Rd H b (.dK vl)) (ta : Tk X.K H P vk ks) (tb : Tk X.K H P' vl ls) (hl : ks.length = ls.length) (ne : a ≠ b)
    (hs : ∀ k d x v, (k, d) ∈ ks → T X.K H P x d → RelV x v → ∃ e, getD ls k = some e ∧ ∀ y u, T X.K H P' y e → RelV y u → PySem.W.EqTree X.prog X.w s n v u true) : PySem.W.EqTree X.prog X.w s (n + 1) (.ref a) (.ref b) true := by
  obtain ⟨_, ya, va, ra, da⟩ := dk_rd I.hok ha
  obtain ⟨_, yb, vb, rb, db⟩ := dk_rd I.hok hb
  have get : ∀ k v, (k, v) ∈ va → ∃ y u, valueAt vb k = some u ∧ RelV y u ∧ PySem.W.EqTree X.prog X.w s n v u true := fun k v m => by
    obtain ⟨x, m2, rx⟩ := kv_mem ra m
    obtain ⟨d, m3, td⟩ := Tk.mem ta m2
    obtain ⟨e, g, f⟩ := hs k d x v m3 td rx
    obtain ⟨y, z1, z2⟩ := tb.gets g
    have rr := rb.val k
    rw [z1] at rr
    obtain ⟨u, hu, ru⟩ := rr.some_of
    exact ⟨y, u, hu, ru, f y u z2 ru⟩
  have tr : PySem.W.EqTree X.prog X.w s (n + 1) (.ref a) (.ref b) (va.length == vb.length && va.all fun p => (valueAt vb p.1).isSome && true) :=
    .dicts (e := fun _ => true) ne ya yb da db fun k v y m hv => by
      obtain ⟨_, u, hu, _, t⟩ := get k v m
      rw [hv] at hu
      cases hu
      exact t
  have e1 : va.length = vb.length := by rw [← ra.length, ta.length, hl, ← tb.length, rb.length]
  have e2 : (va.all fun p => (valueAt vb p.1).isSome && true) = true := by
    rw [List.all_eq_true]
    intro p m
    obtain ⟨_, u, hu, _⟩ := get p.1 p.2 m
    rw [hu]
    rfl
  rw [e1, e2] at tr
  simpa using tr
/-- two houses, equal up to the order of names -/
theorem tree_house (I : Inv X pins σ H s) {a b : Addr} {h g : Hs} (ta : T X.K H P (.ref a) (.dic (hK h))) (tb : T X.K H P' (.ref b) (.dic (hK g))) (dis : ∀ x, P x → ¬ P' x) (wh : Wf h) (wg : Wf g) (sm : Sml h) (e : cpH h = cpH g) : PySem.W.EqTree X.prog X.w s 62 (.ref a) (.ref b) true := by
  obtain ⟨a', vk, ea, pa, ra, ka⟩ := ta.dicAt
  cases ea
  obtain ⟨b', vl, eb, pb, rb, kb⟩ := tb.dicAt
  cases eb
  refine tree_dict (n := 61) I ra rb ka kb ?_ (fun z => dis a pa (by rw [z]; exact pb)) fun k d x v m tx rx => ?_
  · unfold hK
    rw [List.length_map, List.length_map, ← len_cp h, e, len_cp]
  · obtain ⟨p, hp, ep⟩ := List.mem_map.mp m
    cases ep
    have l1 : lk h p.1 = some p.2 := lk_of_mem wh.nd hp
    obtain ⟨t2, l2, ho⟩ := cp_lk e l1
    refine ⟨.dic (tK t2), by rw [get_hK, l2]; rfl, fun y u ty ry => ?_⟩
    obtain ⟨q, es, ex, pq, rq, kq⟩ := tx.dicAt
    subst ex
    obtain ⟨q2, es2, ey, pq2, rq2, kq2⟩ := ty.dicAt
    subst ey
    have ev : v = .ref q := rx
    have eu : u = .ref q2 := ry
    subst ev eu
    have wt := wh.tab p hp
    refine tree_dict (n := 60) I rq rq2 kq kq2 ?_ (fun z => dis q pq (by rw [z]; exact pq2)) fun k d x v m tx rx => ?_
    · unfold tK
      rw [List.length_map, List.length_map, ← len_ord p.2, ho, len_ord]
    · obtain ⟨r, hr, er⟩ := List.mem_map.mp m
      cases er
      have l3 : lk p.2 r.1 = some r.2 := lk_of_mem wt.1 hr
      rw [ord_lk ho] at l3
      exact ⟨r.2, by rw [get_tK, l3], fun y u ty ry => tree_leaf I tx ty (nod_of_imm (wt.2 r hr)) (sm p hp r hr) rx ry⟩
end
/-- (house, list) != (house, list), both equal -/
def rNeH (K : PySem.W.Frag) : R2 := fun x y H Q => ∃ (p q a b : Addr) (v u : V) (h g : Hs) (d : Tr) (N1 N2 M1 M2 : Addr → Prop), x = .ref p ∧ y = .ref q ∧ SqT K H p [.ref a, v] ∧ SqT K H q [.ref b, u] ∧ T K H N1 (.ref a) (.dic (hK h)) ∧ T K H N2 (.ref b) (.dic (hK g)) ∧
  (∀ z, N1 z → ¬ N2 z) ∧ Wf h ∧ Wf g ∧ Sml h ∧ cpH h = cpH g ∧ T K H M1 v d ∧ T K H M2 u d ∧ nod d = true ∧ dep d ≤ 60 ∧ Q (.bl false) H
theorem op_neH {X : Cx} (hu : X.A.units + 64 < cLine) : OpR X (compareOp .NotEq) (rNeH X.K) := by
  intro pins s σ H x y v u Q I rx ry h
  obtain ⟨p, q, a, b, v1, u1, h, g, d, N1, N2, M1, M2, rfl, rfl, sp, sq, ta, tb, dis, wh, wg, sm, e, td, te, nd, dd, k⟩ := h
  cases (show v = Value.ref p from rx)
  cases (show u = Value.ref q from ry)
  obtain ⟨its, r1, t1, _⟩ := I.tuple sp
  obtain ⟨jts, r2, t2, _⟩ := I.tuple sq
  obtain ⟨i1, i2, rfl, ri1, ri2⟩ := vals2 r1
  obtain ⟨j1, j2, rfl, rj1, rj2⟩ := vals2 r2
  have ei : i1 = Value.ref a := ri1
  have ej : j1 = Value.ref b := rj1
  subst ei ej
  have tr := tree_house I ta tb dis wh wg sm e
  have tl := tree_leaf I td te nd dd ri2 rj2
  refine ne_tupsT (n := 62) (xs := #[Value.ref a, i2]) (ys := #[Value.ref b, j2]) t1 t2 rfl (fun j h1 h2 => ?_) (by omega) ⟨.bl _, H, I, rfl, k⟩
  have t62 : PySem.W.EqTree X.prog X.w s 62 i2 j2 true := by
    refine .leaf fun A hu => ?_
    obtain ⟨as, q1, _⟩ := T.reads I d v1 i2 td ri2
    obtain ⟨bs, q2, _⟩ := T.reads I d u1 j2 te rj2
    have z := SeqAt.eqAt_plain _ _ A s i2 j2 _ _ q1 q2 (plain_py d nd) (plain_py d nd) (by
      rw [depth_py, Nat.min_self]
      omega)
    rw [show PyData.eqv (py d) (py d) = true from eqb_refl nd] at z
    exact z
  match j, h1, h2 with
  | 0, _, _ => exact tr
  | 1, _, _ => exact t62
/-- != of anything, of such pairs too -/
def rNeV (K : PySem.W.Frag) : R2 := fun x y H Q => rNeU K x y H Q ∨ rNeH K x y H Q
theorem k_neV {X : Cx} {K : PySem.W.Frag} (h : X.K = K) (hu : X.A.units + 64 < cLine) : OpR X (compareOp .NotEq) (rNeV K) := h ▸ (op_neU hu).or (op_neH hu)
end TU

set_option Elab.async false
set_option linter.all false
set_option maxRecDepth 100000
namespace TU
open PySem PySem.Spec PyProof.Rows L2
/-! ### merges -/
section
variable {K : PySem.W.Frag} {H : Hp} {Q : VK}
theorem q_isB {a b : Bool} (q : Q (.bl (decide (a = b))) H) : rIsB (.bl a) (.bl b) H Q := ⟨a, b, rfl, rfl, q⟩
theorem q_notB {a b : Bool} (q : Q (.bl (!decide (a = b))) H) : rNotB (.bl a) (.bl b) H Q := ⟨a, b, rfl, rfl, q⟩
theorem q_gtup {σ : L2.St} {n : Nat} {t : TGs} {a : Addr} {xs : List V} {R : L2.St → Hp → Prop} (hs : SqT K H a xs) (hn : xs.length = n) (h : t xs σ H R) : gTup K n t (.ref a) σ H R := ⟨a, xs, rfl, hs, hn, h⟩
theorem q_isiBl {b : Bool} (q : Q (.bl true) H) : rIsi K [.bl b, .ty "bool"] H Q := ⟨.bl b, .ty "bool", .type "bool", .type "bool", true, rfl, .ty _, .base (.bl b), kit_ty (by decide +kernel), q⟩
theorem q_gcons {σ : L2.St} {t : TG} {u : TGs} {v : V} {r : List V} {R : L2.St → Hp → Prop} (h : t v σ H fun σ' H' => u r σ' H' R) : gCons t u (v :: r) σ H R := ⟨v, r, rfl, h⟩
theorem q_gnil {σ : L2.St} {R : L2.St → Hp → Prop} (h : R σ H) : gNil [] σ H R := ⟨rfl, h⟩
end
theorem eqb_strs : ∀ (xs ys : List Str), eqb (.lst (xs.map Tr.str)) (.lst (ys.map Tr.str)) = decide (xs = ys) := by
  have key : ∀ xs ys : List Str, PyData.eqvAll (pys (xs.map Tr.str)) (pys (ys.map Tr.str)) = decide (xs = ys) := by
    intro xs
    induction xs with
    | nil =>
      intro ys
      cases ys <;> simp [pys, PyData.eqvAll]
    | cons x xs ih =>
      intro ys
      cases ys with
      | nil => simp [pys, PyData.eqvAll]
      | cons y ys =>
        simp only [List.map_cons, pys, py, PyData.eqvAll, PyData.eqv, ih ys]
        by_cases h : x = y <;> by_cases h' : xs = ys <;> simp [h, h']
  intro xs ys
  unfold eqb
  simp only [py, PyData.eqv]
  exact key xs ys
theorem q_eqSs {K : PySem.W.Frag} {H : Hp} {Q : VK} {p q : Addr} {ss ts : List Str} (hp : SqL K H p (ss.map V.str)) (hq : SqL K H q (ts.map V.str)) (k : Q (.bl (decide (ss = ts))) H) : rEqU K (.ref p) (.ref q) H Q := by
  refine q_eqT (P := fun _ => True) (d := .lst (ss.map Tr.str)) (e := .lst (ts.map Tr.str)) (.lst trivial hp (Ts.strs ss)) (.lst trivial hq (Ts.strs ts)) (by simp only [TU.nod]; exact nods_strs ss) (by simp only [TU.nod]; exact nods_strs ts) (by simp only [TU.dep]; rw [deps_strs]; decide) ?_
  rw [eqb_strs]
  exact k
/-- a name is met -/
def addN (l : List Str) (n : Str) : List Str := if n ∈ l then l else l ++ [n]
def uni (ts : List Tab) : List Str := ts.foldl (fun acc t => (nms t).foldl addN acc) []
theorem addN_mem {l : List Str} {n x : Str} : x ∈ addN l n ↔ x ∈ l ∨ x = n := by
  unfold addN
  by_cases h : n ∈ l
  · rw [if_pos h]
    exact ⟨.inl, fun z => z.elim id fun e => by rw [e]; exact h⟩
  · rw [if_neg h, List.mem_append, List.mem_singleton]
theorem addN_nd {l : List Str} {n : Str} (h : l.Nodup) : (addN l n).Nodup := by
  unfold addN
  by_cases c : n ∈ l
  · rw [if_pos c]
    exact h
  · rw [if_neg c]
    exact List.nodup_append.mpr ⟨h, by simp, fun a ha b hb e => c (by rw [List.mem_singleton] at hb; rw [← hb, ← e]; exact ha)⟩
theorem foldN_mem : ∀ {ns l : List Str} {x : Str}, x ∈ ns.foldl addN l ↔ x ∈ l ∨ x ∈ ns
  | [], l, x => by simp
  | n :: ns, l, x => by
    rw [List.foldl_cons, foldN_mem, addN_mem, List.mem_cons, or_assoc]
theorem foldN_nd : ∀ {ns l : List Str}, l.Nodup → (ns.foldl addN l).Nodup
  | [], l, h => h
  | n :: ns, l, h => foldN_nd (ns := ns) (addN_nd h)
theorem foldT_mem : ∀ {ts : List Tab} {l : List Str} {x : Str}, x ∈ ts.foldl (fun acc t => (nms t).foldl addN acc) l ↔ x ∈ l ∨ ∃ t ∈ ts, x ∈ nms t
  | [], l, x => by simp
  | t :: ts, l, x => by
    rw [List.foldl_cons, foldT_mem, foldN_mem, or_assoc]
    refine or_congr Iff.rfl ⟨fun z => ?_, fun z => ?_⟩
    · rcases z with h | ⟨u, hu, hx⟩
      · exact ⟨t, List.mem_cons_self, h⟩
      · exact ⟨u, List.mem_cons_of_mem _ hu, hx⟩
    · obtain ⟨u, hu, hx⟩ := z
      rcases List.mem_cons.mp hu with e | hu
      · rw [e] at hx
        exact .inl hx
      · exact .inr ⟨u, hu, hx⟩
theorem foldT_nd : ∀ {ts : List Tab} {l : List Str}, l.Nodup → (ts.foldl (fun acc t => (nms t).foldl addN acc) l).Nodup
  | [], l, h => h
  | t :: ts, l, h => foldT_nd (ts := ts) (foldN_nd h)
theorem uni_mem {ts : List Tab} {x : Str} : x ∈ uni ts ↔ ∃ t ∈ ts, x ∈ nms t := by
  unfold uni
  rw [foldT_mem]
  simp
theorem uni_nd (ts : List Tab) : (uni ts).Nodup := foldT_nd List.nodup_nil
theorem addN_len (l : List Str) (n : Str) : (addN l n).length ≤ l.length + 1 := by
  unfold addN
  by_cases h : n ∈ l
  · rw [if_pos h]
    omega
  · rw [if_neg h, List.length_append]
    exact Nat.le_refl _
theorem foldN_len : ∀ (ns l : List Str), (ns.foldl addN l).length ≤ l.length + ns.length
  | [], l => Nat.le_refl _
  | n :: ns, l => by
    have h1 := foldN_len ns (addN l n)
    have h2 := addN_len l n
    rw [List.foldl_cons, List.length_cons]
    omega
theorem keys_putN {kvs : List (Key × V)} {l : List Str} {n : Str} {v : V} (h : kvs.map (·.1) = l.map Sum.inr) : (putK kvs (.inr n) v).map (·.1) = (addN l n).map Sum.inr := by
  by_cases c : n ∈ l
  · have hm : (Sum.inr n : Key) ∈ kvs.map (·.1) := by rw [h]; exact inr_mem.mpr c
    unfold putK addN
    rw [if_pos c, if_pos, ← h]
    · rw [List.map_map]
      refine List.map_congr_left fun p hp => ?_
      show (if _ then _ else _ : Key × V).1 = p.1
      split
      · rename_i e
        simpa using Eq.symm (by simpa using e)
      · rfl
    · rw [List.any_eq_true]
      obtain ⟨p, hp, e⟩ := List.mem_map.mp hm
      exact ⟨p, hp, by simpa using e⟩
  · have hm : (Sum.inr n : Key) ∉ kvs.map (·.1) := by rw [h]; exact fun z => c (inr_mem.mp z)
    rw [putK_fresh hm]
    unfold addN
    rw [if_neg c, List.map_append, List.map_append, h]
    rfl
/-- a table is put, its dict known already -/
theorem Own.push2 {K : PySem.W.Frag} {H : Hp} {N N' : Addr → Prop} {r q : Addr} {h : Hs} {k : Str} {t : Tab} {es : List (Key × V)} (o : Own K N' H r h) (nk : k ∉ nms h) (hq' : ¬ N' q) (sub : ∀ b, N' b → N b) (hq : N q) (e : H q = some (.dK es)) (tk : Tk K H ff es (tK t)) :
    ∃ kvs, H r = some (.dK kvs) ∧ kvs.length = h.length ∧ Own K N (upd H r (.dK (putK kvs (.inr k) (.ref q)))) r (h ++ [(k, t)]) := by
  obtain ⟨qs, kvs, h1, h2, h3, h4⟩ := o.ex
  have nd := List.nodup_cons.mp h3
  have hr : r ≠ q := fun z => hq' (by rw [← z]; exact h4 r List.mem_cons_self)
  have nq' : q ∉ qs := fun m => hq' (h4 q (List.mem_cons_of_mem _ m))
  refine ⟨kvs, h1, h2.len, qs ++ [q], _, upd_same, ?_, ?_, fun a m => ?_⟩
  · rw [putK_fresh (by rw [h2.keys]; exact fun z => nk (inr_mem.mp z))]
    refine (h2.snoc (k := k) e tk).keep keeps_upd (no_tup h1) fun a m z => ?_
    rw [z] at m
    rcases List.mem_append.mp m with m | m
    · exact nd.1 m
    · exact hr (List.mem_singleton.mp m)
  · refine List.nodup_cons.mpr ⟨fun m => ?_, List.nodup_append.mpr ⟨nd.2, by simp, fun a ha b hb e => nq' (by
      rw [List.mem_singleton] at hb
      rw [← hb, ← e]
      exact ha)⟩⟩
    rcases List.mem_append.mp m with m | m
    · exact nd.1 m
    · exact hr (List.mem_singleton.mp m)
  · rcases List.mem_cons.mp m with e | m
    · rw [e]
      exact sub _ (h4 r List.mem_cons_self)
    · rcases List.mem_append.mp m with m | m
      · exact sub _ (h4 a (List.mem_cons_of_mem _ m))
      · rw [List.mem_singleton.mp m]
        exact hq
/-- == of two houses, table by table -/
def eqTb (g : Hs) (p : Str × Tab) : Bool := match lk g p.1 with
  | some t => eqk (tK p.2) (tK t)
  | none => false
def eqHs (h g : Hs) : Bool := decide (srt (nms h) = srt (nms g)) && h.all (eqTb g)
/-- an entry, or none -/
abbrev En := Option Tr
def enc : En → Tr
  | some d => .tup [.bl true, d]
  | none => .tup [.bl false, .non]
def eqO (a b : En) : Bool := eqb (enc a) (enc b)
def set1 (b o t : En) : Bool × En := if eqO o t = true ∨ eqO t b = true then (false, o) else if eqO o b = true then (false, t) else (true, b)
def ent (h : Hs) (k n : Str) : En := (lk h k).bind fun t => lk t n
def tabs (k : Str) (gs : List Hs) : List Tab := gs.map fun g => (lk g k).getD []
def mN (b o t : Hs) (k : Str) : List Str := srt (uni (tabs k [b, o, t]))
def mS (b o t : Hs) (k n : Str) : Bool × En := set1 (ent b k n) (ent o k n) (ent t k n)
def mTab (b o t : Hs) (k : Str) : Tab := (mN b o t k).filterMap fun n => (mS b o t k n).2.map fun d => (n, d)
def mCon (b o t : Hs) (k : Str) : List SP := (mN b o t k).filterMap fun n => if (mS b o t k n).1 = true then some (k, n) else none
def mHs (b o t : Hs) : Hs := (nms b).map fun k => (k, mTab b o t k)
def mCs (b o t : Hs) : List SP := (nms b).flatMap fun k => mCon b o t k
theorem fm_one {α β : Type} (f : α → Option β) (x : α) : [x].filterMap f = (f x).toList := by
  cases e : f x <;> simp [e]
/-- a test, what follows it written once -/
theorem q_then {c : TT} {t u : TS} {D : Ends} {σ : L2.St} {H : Hp} (P : L2.St → Hp → Prop) (h3 : ∀ σ' H', P σ' H' → D.nx σ' H') (h1 : (∀ σ' H', P σ' H' → D.nx σ' H') → tIfS c t u D σ H) : tIfS c t u D σ H := h1 h3
/-- a statement under a test, what follows written once -/
theorem q_opt {c : Bool} {te : TE} {D : Ends} {σ : L2.St} {H : Hp} (P : Hp → Prop) (h3 : ∀ H', P H' → D.nx σ H') (h1 : (∀ H', P H' → D.nx σ H') → c = true → te σ H fun _ H' => D.nx σ H') (h2 : c = false → P H) : if c = true then tDrop te D σ H else tNext D σ H := by
  cases e : c with
  | true => exact q_t (h1 h3 e)
  | false => exact q_f (h3 H (h2 e))
theorem nms_fm (g : Str → En) : ∀ ns : List Str, (nms (ns.filterMap fun x => (g x).map fun d => (x, d))).Sublist ns
  | [] => List.Sublist.refl _
  | n :: ns => by
    rw [List.filterMap_cons]
    cases e : g n with
    | none => exact (nms_fm g ns).cons n
    | some d => exact (nms_fm g ns).cons_cons n
theorem mN_nd (b o t : Hs) (k : Str) : (mN b o t k).Nodup := (srt_perm _).nodup_iff.mpr (uni_nd _)
theorem uni_len : ∀ (ts : List Tab) (l : List Str), (ts.foldl (fun acc t => (nms t).foldl addN acc) l).length ≤ l.length + (ts.map List.length).sum
  | [], l => Nat.le_refl _
  | t :: ts, l => by
    have h1 := uni_len ts ((nms t).foldl addN l)
    have h2 := foldN_len (nms t) l
    rw [nms_len] at h2
    rw [List.foldl_cons, List.map_cons, List.sum_cons]
    omega
theorem nms_mHs (b o t : Hs) : nms (mHs b o t) = nms b := by
  unfold mHs nms
  rw [List.map_map]
  exact List.map_id' _
end TU

set_option Elab.async false
set_option linter.all false
set_option maxRecDepth 100000
set_option maxHeartbeats 1000000

namespace K80
open PySem PySem.Spec PyProof.Rows L2 TU
local macro_rules | `(tactic| walk_at "g1") => `(tactic| first
  | with_reducible refine q_seq ?_
  | with_reducible refine q_asg ?_
  | with_reducible refine q_drop ?_
  | with_reducible refine q_ret ?_
  | with_reducible refine q_if ?_
  | with_reducible refine q_gname ?_
  | with_reducible refine q_gsub ?_
  | ((with_reducible refine' q_var ?hv ?_); (case hv => rfl))
  | with_reducible refine q_c ?_
  | with_reducible refine q_op ?_
  | with_reducible refine q_test ?_
  | with_reducible refine q_tr ?_
  | with_reducible refine q_trB ?_
  | with_reducible refine q_bl ?_
  | with_reducible refine q_not ?_
  | with_reducible refine q_and ?_
  | with_reducible refine q_or ?_
  | with_reducible refine q_cons ?_
  | with_reducible refine q_nil ?_
  | with_reducible refine q_I0 ?_
  | with_reducible refine q_addI ?_
  | with_reducible refine q_eqS ?_
  | with_reducible refine q_eqI ?_
  | with_reducible refine q_neS ?_
  | with_reducible refine q_neI ?_
  | with_reducible refine q_eqB ?_
  | with_reducible refine q_t ?_
  | with_reducible refine q_f ?_
  | with_reducible refine q_nf ?_
  | with_reducible refine q_nt ?_
  | with_reducible refine q_is ?_
  | with_reducible refine q_isn ?_
  | with_reducible refine q_nis ?_
  | with_reducible refine q_nisn ?_
  | with_reducible refine q_callS ?_
  | with_reducible refine q_cb ?_
  | with_reducible refine q_tup ?_
  | with_reducible refine q_lst ?_
  | with_reducible refine q_bm ?_
  | with_reducible refine q_rz ?_
  | with_reducible refine q_next ?_
  | with_reducible refine q_retN ?_
  | with_reducible refine q_ifE ?_
  | with_reducible refine q_un ?_
  | with_reducible refine q_U ?_
  | with_reducible refine q_for ?_
  | with_reducible refine q_sl ?_
  | with_reducible refine q_part ?_
  | with_reducible refine q_nopart ?_
  | with_reducible refine q_int ?_
  | with_reducible refine q_andV ?_
  | with_reducible refine q_orV ?_
  | with_reducible refine q_notV ?_
  | with_reducible refine q_dc ?_
  | with_reducible refine q_lc ?_
  | with_reducible refine q_yes ?_
  | with_reducible refine q_dnew ?_
  | ((with_reducible refine q_size ?hz ?_); (case hz => (simp only [List.length_cons, List.length_nil]; decide))))
local macro_rules | `(tactic| walk_at "g") => `(tactic| repeat walk_at "g1")

local macro_rules | `(tactic| walk_at "sm") => `(tactic| first | assumption | exact same_new (by assumption) | exact Same.refl')
local macro_rules | `(tactic| walk_at "lf") => `(tactic| first
  | assumption
  | exact upd_same
  | exact sq_new
  | exact st_new
  | ((refine Sm.sqT ?hs ?hr); (case hs => (first | assumption | exact same_new (by assumption))); (case hr => walk_at "lf"))
  | ((refine Sm.sqL ?hs ?hr); (case hs => (first | assumption | exact same_new (by assumption))); (case hr => walk_at "lf"))
  | ((refine Sm.rd ?hs ?hr); (case hs => (first | assumption | exact same_new (by assumption))); (case hr => walk_at "lf"))
  | ((refine T.mono ?hs ?hr); (case hs => (first | assumption | exact same_new (by assumption))); (case hr => walk_at "lf"))
  | ((refine Ts.mono ?hs ?hr); (case hs => (first | assumption | exact same_new (by assumption))); (case hr => walk_at "lf"))
  | ((refine Tk.mono ?hs ?hr); (case hs => (first | assumption | exact same_new (by assumption))); (case hr => walk_at "lf"))
  | ((refine Own.mono ?hr ?hs); (case hs => (first | assumption | exact same_new (by assumption))); (case hr => walk_at "lf"))
  | ((refine Sm.at ?hs ?hr); (case hs => (first | assumption | exact same_new (by assumption))); (case hr => walk_at "lf")))
local macro_rules | `(tactic| walk_at "ix") => `(tactic| ((with_reducible refine' q_ixT ?h1 ?h2 ?_); (case h1 => walk_at "lf"); (case h2 => rfl)))

def topS (i : Nat) : Stmt := PySem.Challenge.pw_trundleyard_k80_three_way_merges.main.body.getD i (.Pass ⟨0, 0, 0, 0⟩)
abbrev s_Unknown___init : Stmt := inClass (topS 3) 0
abbrev s_Misfit___init : Stmt := inClass (topS 4) 0
abbrev s_check_key : Stmt := topS 6
abbrev s_entry_in : Stmt := topS 7
abbrev s_same_keys : Stmt := topS 8
abbrev s_same_house : Stmt := topS 9
abbrev s_check_keys : Stmt := topS 11
abbrev s_names_of : Stmt := topS 12
abbrev s_settled : Stmt := topS 13
abbrev s_merge : Stmt := topS 14
abbrev s_conflicts : Stmt := topS 15
abbrev s_is_merge : Stmt := topS 16
abbrev s_law_jar : Stmt := topS 18
abbrev s_law_says : Stmt := topS 19
abbrev s_law_draw : Stmt := topS 20
abbrev s_law_entry : Stmt := topS 21
abbrev s_law_house : Stmt := topS 22
abbrev s_law_edits : Stmt := topS 23
abbrev s_law_copy : Stmt := topS 24
abbrev s_law_after : Stmt := topS 25
abbrev s_law_same : Stmt := topS 26
abbrev s_law_grown : Stmt := topS 27
abbrev s_law_entry_at : Stmt := topS 28
abbrev s_law_merge : Stmt := topS 29
abbrev s_law_refusal : Stmt := topS 30
abbrev s_law : Stmt := topS 31
section
variable {P : Program} {w : World} {K : PySem.W.Frag} {mg : Str → Option Value} {base : Heap} {C_Unknown C_Misfit : Addr}
/-- check_key(house, key) -/
def spCK (C : Addr) : Sp := fun vs H Q E => ∃ (a : Addr) (kvs : List (Key × V)) (k : Str), vs = [.ref a, .str k] ∧ Rd H a (.dK kvs) ∧
  ((valV kvs (.inr k)).isSome = true → Q .non H) ∧ ((valV kvs (.inr k)).isSome = false → XUnk C "table" k H E)
theorem sc_check_key : FnScope ["house", "key"] ["house", "key"] (defScope s_check_key) := ⟨rfl, rfl, rfl, by decide +kernel, rfl, by decide +kernel, by decide +kernel⟩
theorem d_check_key (B : Bt mg) (F : TopF K mg "check_key" s_check_key ["house", "key"]) (X_Unknown : Xc P w K mg base "Unknown" ["what", "name"] C_Unknown) : Df P w K mg base "check_key" ["house", "key"] 3 (spCK C_Unknown) := by
  refine F.df sc_check_key (fun vs H Q E h => ?len) (fun f cdv A outer s H vs Q E hr h => ?body)
  case body =>
   have hu := hr.units
   refine ⟨_, (pss_one (ps_if (pt_cmpR (k_nin (K := K) rfl hu) (pv 1) (pv 0) (by rfl))
      (pss_one (ps_rz rfl X_Unknown (hr.mono (by decide)) (takes_of rfl rfl rfl rfl) (pa_cons pe_str (pa_cons (pv 1) pa_nil))))
      pss_nil)), ?_⟩
   obtain ⟨a, kvs, k, rfl, hd, h1, h2⟩ := h
   walk_at "g"
   refine q_ninD (.inr k) hd ?_
   walk_at "g"
   cases e : (valV kvs (Sum.inr k)).isSome with
   | true =>
     refine q_f ?_
     walk_at "g"
     exact h1 e
   | false =>
     refine q_t ?_
     walk_at "g"
     exact q_mk rfl fun d H' s _ hd => h2 e d H' s hd
  case len =>
   obtain ⟨a, kvs, k, rfl, _⟩ := h
   rfl
/-- check_edit(house, edit) -/
def spCE (K : PySem.W.Frag) (C : Addr) : Sp := fun vs H Q E => ∃ (N : Addr → Prop) (a : Addr) (v : V) (h : Hs) (e : Ed), vs = [.ref a, v] ∧ T K H N (.ref a) (.dic (hK h)) ∧ T K H ff v e.tr ∧
  match app1 h e with
  | .ok _ => Q .non H
  | .error (w, n) => XUnk C w n H E
/-- copy_house(house) -/
def spCH (K : PySem.W.Frag) : Sp := fun vs H Q _ => ∃ (N : Addr → Prop) (a : Addr) (h : Hs), vs = [.ref a] ∧ T K H N (.ref a) (.dic (hK h)) ∧ Wf h ∧ Fits 60 h ∧ h.length ≤ 900 ∧
  ∀ r H', Same H H' → Own K (fun b => H b = none) H' r (cpH h) → Q (.ref r) H'
/-- change_tables(tables, edit) -/
def spCT (K : PySem.W.Frag) (C : Addr) : Sp := fun vs H Q E => ∃ (N : Addr → Prop) (a : Addr) (v : V) (h : Hs) (e : Ed), vs = [.ref a, v] ∧ Own K N H a h ∧ T K H ff v e.tr ∧ Wf h ∧ Fits 900 h ∧
  match app1 h e with
  | .ok h' => ∀ q es es', N q → H q = some (.dK es) → Own K N (upd H q (.dK es')) a h' → Q .non (upd H q (.dK es'))
  | .error (w, n) => XUnk C w n H E
/-- apply_edits(house, edits) -/
def spAE (K : PySem.W.Frag) (C : Addr) : Sp := fun vs H Q E => ∃ (N : Addr → Prop) (a b : Addr) (h : Hs) (xs : List V) (es : List Ed), vs = [.ref a, .ref b] ∧ T K H N (.ref a) (.dic (hK h)) ∧ SqL K H b xs ∧ Ts K H ff xs (es.map Ed.tr) ∧
  Wf h ∧ (∀ e ∈ es, e.Imm) ∧ (∃ n, Fits n h ∧ n + es.length ≤ 60) ∧ h.length ≤ 900 ∧
  match appAll (cpH h) es with
  | .ok h' => ∀ r H', Same H H' → Own K (fun b => H b = none) H' r (cpH h') → Q (.ref r) H'
  | .error (w, n) => XUnk C w n H E
/-- apply_edit(house, edit) -/
def spA1 (K : PySem.W.Frag) (C : Addr) : Sp := fun vs H Q E => ∃ (N : Addr → Prop) (a : Addr) (v : V) (h : Hs) (e : Ed), vs = [.ref a, v] ∧ T K H N (.ref a) (.dic (hK h)) ∧ T K H ff v e.tr ∧
  Wf h ∧ e.Imm ∧ Fits 59 h ∧ h.length ≤ 900 ∧
  match app1 (cpH h) e with
  | .ok h' => ∀ r H', Same H H' → Own K (fun b => H b = none) H' r (cpH h') → Q (.ref r) H'
  | .error (w, n) => XUnk C w n H E
/-- inverse(house, edit) -/
def spIV (K : PySem.W.Frag) (C : Addr) : Sp := fun vs H Q E => ∃ (N : Addr → Prop) (a : Addr) (v : V) (h : Hs) (e : Ed), vs = [.ref a, v] ∧ T K H N (.ref a) (.dic (hK h)) ∧ T K H ff v e.tr ∧ Wf h ∧
  match app1 h e with
  | .ok _ => ∀ u H', Same H H' → T K H' ff u (inv1 h e).tr → Q u H'
  | .error (w, n) => XUnk C w n H E
/-- inverse_of(house, edits) -/
def spIO (K : PySem.W.Frag) (C : Addr) : Sp := fun vs H Q E => ∃ (N : Addr → Prop) (a b : Addr) (h : Hs) (xs : List V) (es : List Ed), vs = [.ref a, .ref b] ∧ T K H N (.ref a) (.dic (hK h)) ∧ SqL K H b xs ∧ Ts K H ff xs (es.map Ed.tr) ∧
  Wf h ∧ (∀ e ∈ es, e.Imm) ∧ (∃ n, Fits n h ∧ n + es.length ≤ 60) ∧ h.length ≤ 900 ∧
  match appAll (cpH h) es with
  | .ok _ => ∀ r H' ys, Same H H' → H r = none → H' r = some (.lst ys) → Ts K H' ff ys ((invs (cpH h) es).reverse.map Ed.tr) → Q (.ref r) H'
  | .error (w, n) => XUnk C w n H E
/-- entry_in(house, key, name) -/
def spEI (K : PySem.W.Frag) (C : Addr) : Sp := fun vs H Q E => ∃ (N : Addr → Prop) (a : Addr) (k n : Str) (h : Hs), vs = [.ref a, .str k, .str n] ∧ T K H N (.ref a) (.dic (hK h)) ∧ Wf h ∧
  match lk h k with
  | some t => ∀ u H', Same H H' → T K H' ff u (match lk t n with | some d => .tup [.bl true, d] | none => .tup [.bl false, .non]) → Q u H'
  | none => XUnk C "table" k H E
theorem sc_entry_in : FnScope ["house", "key", "name"] ["house", "key", "name"] (defScope s_entry_in) := ⟨rfl, rfl, rfl, by decide +kernel, rfl, by decide +kernel, by decide +kernel⟩
theorem d_entry_in (B : Bt mg) (F : TopF K mg "entry_in" s_entry_in ["house", "key", "name"]) (D_check_key : Df P w K mg base "check_key" ["house", "key"] 3 (spCK C_Unknown)) : Df P w K mg base "entry_in" ["house", "key", "name"] 4 (spEI K C_Unknown) := by
  refine F.df sc_entry_in (fun vs H Q E h => ?len) (fun f cdv A outer s H vs Q E hr h => ?body)
  case body =>
   have hu := hr.units
   refine ⟨_, (pss_cons (ps_expr (pe_df D_check_key (hr.mono (by decide)) (fun σ => passAt (takes_of rfl rfl rfl rfl) σ) (pa_cons (pv 0) (pa_cons (pv 1) pa_nil))))
      (pss_cons (ps_if (pt_cmpR (k_in (K := K) rfl hu) (pv 2) (pe_ix (k_ix (K := K) rfl hu) (pv 0) (pv 1) (fun _ _ => rfl)) (by rfl))
      (pss_one (ps_ret (pe_tup (pa_cons pe_bl (pa_cons (pe_ix (k_ix (K := K) rfl hu) (pe_ix (k_ix (K := K) rfl hu) (pv 0) (pv 1) (fun _ _ => rfl)) (pv 2) (fun _ _ => rfl)) pa_nil)))))
      pss_nil)
      (pss_one (ps_ret (pe_tup (pa_cons pe_bl (pa_cons pe_non pa_nil))))))), ?_⟩
   obtain ⟨N, a, k, n, h, rfl, ha, wf, hq⟩ := h
   obtain ⟨a', kvs, ea, _, hr2, tk⟩ := ha.dicAt
   cases ea
   walk_at "g"
   refine ⟨a, kvs, k, rfl, hr2, fun hk => ?_, fun hk => ?_⟩
   · cases e1 : lk h k with
     | none =>
       rw [T.ntab tk e1] at hk
       cases hk
     | some t =>
       rw [e1] at hq
       obtain ⟨q', es', h1, _, h2, h3⟩ := T.tab tk e1
       walk_at "g"
       refine q_ixK (.inr k) hr2 h1 ?_
       refine q_inD (.inr n) h2 ?_
       walk_at "g"
       cases e2 : lk t n with
       | some d =>
         obtain ⟨vd, g1, g2⟩ := h3.ent e2
         have tq : T K H ff vd d := g2.imm (immT_lk (wf.tab _ (lk_mem e1)).2 e2)
         rw [g1]
         walk_at "g"
         refine q_ixK (.inr k) hr2 h1 ?_
         walk_at "g"
         refine q_ixK (.inr n) h2 g1 ?_
         walk_at "g"
         intro p hp
         have s1 := same_new (o := .tup [.bl true, vd]) hp
         refine hq _ _ s1 ?_
         rw [e2]
         exact .tup st_new (.cons (.bl _) (.cons (tq.mono s1) .nil))
       | none =>
         have g1 := h3.nent e2
         rw [g1]
         walk_at "g"
         intro p hp
         have s1 := same_new (o := .tup [.bl false, .non]) hp
         refine hq _ _ s1 ?_
         rw [e2]
         exact .tup st_new (.cons (.bl _) (.cons .non .nil))
   · cases e1 : lk h k with
     | none =>
       rw [e1] at hq
       exact hq
     | some t =>
       obtain ⟨q, es, h1, _⟩ := T.tab tk e1
       rw [h1] at hk
       cases hk
  case len =>
   obtain ⟨N, a, k, n, h, rfl, _⟩ := h
   rfl

/-- same_keys(house, other) -/
def spSK (K : PySem.W.Frag) : Sp := fun vs H Q _ => ∃ (N1 N2 : Addr → Prop) (a b : Addr) (h g : Hs), vs = [.ref a, .ref b] ∧ T K H N1 (.ref a) (.dic (hK h)) ∧ T K H N2 (.ref b) (.dic (hK g)) ∧ h.length ≤ 40 ∧ g.length ≤ 40 ∧
  ∀ H', Same H H' → Q (.bl (decide (srt (nms h) = srt (nms g)))) H'
theorem sc_same_keys : FnScope ["house", "other"] ["house", "other"] (defScope s_same_keys) := ⟨rfl, rfl, rfl, by decide +kernel, rfl, by decide +kernel, by decide +kernel⟩
theorem d_same_keys (B : Bt mg) (F : TopF K mg "same_keys" s_same_keys ["house", "other"]) : Df P w K mg base "same_keys" ["house", "other"] 1 (spSK K) := by
  refine F.df sc_same_keys (fun vs H Q E h => ?len) (fun f cdv A outer s H vs Q E hr h => ?body)
  case body =>
   have hu := hr.units
   refine ⟨_, (pss_one (ps_ret (pe_cmpR (k_eq (K := K) rfl hu) (pe_callB (k_sort (K := K) rfl rfl) (by rfl) B.b_sorted (by decide +kernel) (pa_cons (pv 0) pa_nil)) (pe_callB (k_sort (K := K) rfl rfl) (by rfl) B.b_sorted (by decide +kernel) (pa_cons (pv 1) pa_nil)) (nomark _)))), ?_⟩
   obtain ⟨N1, N2, a, b, h, g, rfl, ha, hb, hl, gl, hq⟩ := h
   obtain ⟨a', ka, ea, _, hra, tka⟩ := ha.dicAt
   cases ea
   obtain ⟨b', kb, eb, _, hrb, tkb⟩ := hb.dicAt
   cases eb
   walk_at "g"
   refine q_sortD (ks := nms h) hra (tka.keys.trans (keys_hK h)) (by rw [nms_len]; omega) fun p hp => ?_
   have s1 := same_new (o := .lst ((srt (nms h)).map V.str)) hp
   walk_at "g"
   refine q_sortD (ks := nms g) (Sm.rd s1 hrb) (tkb.keys.trans (keys_hK g)) (by rw [nms_len]; omega) fun q hq1 => ?_
   have s2 := same_new (o := .lst ((srt (nms g)).map V.str)) hq1
   refine q_eqSs (Sm.sqL s2 sq_new) sq_new ?_
   exact hq _ (s1.trans s2)
  case len =>
   obtain ⟨N1, N2, a, b, h, g, rfl, _⟩ := h
   rfl
/-- check_keys(base, houses) -/
def spCKs (K : PySem.W.Frag) (C : Addr) : Sp := fun vs H Q E => ∃ (N : Addr → Prop) (a l : Addr) (h : Hs) (xs : List V) (gs : List Hs), vs = [.ref a, .ref l] ∧ T K H N (.ref a) (.dic (hK h)) ∧ SqL K H l xs ∧ Ts K H N xs (gs.map fun g => Tr.dic (hK g)) ∧ h.length ≤ 40 ∧ (∀ g ∈ gs, g.length ≤ 40) ∧
  ((∀ g ∈ gs, srt (nms h) = srt (nms g)) → ∀ H', Same H H' → Q .non H') ∧ ((∃ g ∈ gs, srt (nms h) ≠ srt (nms g)) → XUnk C "house" "tables" H E)
theorem sc_check_keys : FnScope ["base", "houses", "house"] ["base", "houses"] (defScope s_check_keys) := ⟨rfl, rfl, rfl, by decide +kernel, rfl, by decide +kernel, by decide +kernel⟩
theorem d_check_keys (B : Bt mg) (F : TopF K mg "check_keys" s_check_keys ["base", "houses"]) (X_Misfit : Xc P w K mg base "Misfit" ["what", "name"] C_Misfit) (D_same_keys : Df P w K mg base "same_keys" ["house", "other"] 1 (spSK K)) : Df P w K mg base "check_keys" ["base", "houses"] 3 (spCKs K C_Misfit) := by
  refine F.df sc_check_keys (fun vs H Q E h => ?len) (fun f cdv A outer s H vs Q E hr h => ?body)
  case body =>
   have hu := hr.units
   refine ⟨_, (pss_one (ps_lockU (ps_for (passes_of rfl) rfl (k_walk (K := K) rfl (pv 1)) (pg_name (i := 2) sc_check_keys.nd rfl (Or.inl rfl))
      (pss_one (ps_if (pt_not (k_tr (K := K) rfl (pe_df D_same_keys (hr.mono (by decide)) (fun σ => passAt (takes_of rfl rfl rfl rfl) σ) (pa_cons (pv 0) (pa_cons (pv 2) pa_nil)))))
      (pss_one (ps_rz rfl X_Misfit (hr.mono (by decide)) (takes_of rfl rfl rfl rfl) (pa_cons pe_str (pa_cons pe_str pa_nil))))
      pss_nil))))), ?_⟩
   obtain ⟨N, a, l, h, xs, gs, rfl, ha, hl, hxs, l1, l2, hq, hx⟩ := h
   walk_at "g"
   refine .inl ?_
   walk_at "g"
   refine q_items ?_
   walk_at "g"
   refine q_itemsE (xs := xs) hl ?_
   have hlen : xs.length = gs.length := by rw [hxs.length, List.length_map]
   refine for_items (xs := xs) (fun i σ Hi => ∃ (v2 : Option V), σ = [some (.ref a), some (.ref l), v2] ∧ Same H Hi ∧ ∀ g ∈ gs.take i, srt (nms h) = srt (nms g)) ?_ ?_ ?_ ?_
   · exact ⟨none, rfl, Same.refl', fun g m => nomatch (show g ∈ [] from m)⟩
   · rintro i σ Hi _ ⟨v2, rfl, si, _⟩
     exact Sm.sqL si hl
   · rintro i x σ Hi hx2 ⟨v2, rfl, si, ai⟩
     obtain ⟨d, g1, g2⟩ := hxs.gets hx2
     obtain ⟨g, hg, rfl⟩ := map_at g1
     obtain ⟨b, kvs, rfl, _⟩ := (g2.mono si).dicAt
     walk_at "g"
     refine ⟨N, N, a, b, h, g, rfl, ha.mono si, g2.mono si, l1, l2 g (mem_at hg), fun H2 s2 => ?_⟩
     walk_at "g"
     refine q_ndec (fun c => ?_) (fun c => ?_)
     · walk_at "g"
       exact q_mk rfl fun d H' s _ hd => hx ⟨g, mem_at hg, c⟩ d H' ((si.trans s2).trans s) hd
     · walk_at "g"
       refine ⟨_, rfl, si.trans s2, fun y m => ?_⟩
       rw [take_more hg] at m
       rcases List.mem_append.mp m with m | m
       · exact ai y m
       · rw [List.mem_singleton.mp m]
         exact c
   · rintro σ Hi ⟨v2, rfl, si, ai⟩
     rw [hlen, List.take_length] at ai
     walk_at "g"
     exact hq ai _ si
  case len =>
   obtain ⟨N, a, l, h, xs, gs, rfl, _⟩ := h
   rfl
/-- names_of(houses, key) -/
def spNO (K : PySem.W.Frag) : Sp := fun vs H Q _ => ∃ (N : Addr → Prop) (l : Addr) (key : Str) (xs : List V) (gs : List Hs), vs = [.ref l, .str key] ∧ SqL K H l xs ∧ Ts K H N xs (gs.map fun g => Tr.dic (hK g)) ∧ gs.length ≤ 3 ∧
  (∀ g ∈ gs, ∃ t, lk g key = some t ∧ t.length ≤ 20) ∧ ∀ p H', Same H H' → H p = none → H' p = some (.lst ((srt (uni (tabs key gs))).map V.str)) → Q (.ref p) H'
theorem sc_names_of : FnScope ["houses", "key", "met", "house", "name"] ["houses", "key"] (defScope s_names_of) := ⟨rfl, rfl, rfl, by decide +kernel, rfl, by decide +kernel, by decide +kernel⟩
theorem d_names_of (B : Bt mg) (F : TopF K mg "names_of" s_names_of ["houses", "key"]) : Df P w K mg base "names_of" ["houses", "key"] 1 (spNO K) := by
  refine F.df sc_names_of (fun vs H Q E h => ?len) (fun f cdv A outer s H vs Q E hr h => ?body)
  case body =>
   have hu := hr.units
   refine ⟨_, (pss_cons (ps_set (i := 2) sc_names_of.nd rfl (Or.inl rfl) pe_dnewK)
      (pss_cons (ps_lockU (ps_for (passes_of rfl) rfl (k_walk (K := K) rfl (pv 0)) (pg_name (i := 3) sc_names_of.nd rfl (Or.inl rfl))
      (pss_one (ps_lockU (ps_for (passes_of rfl) rfl (k_walk (K := K) rfl (pe_ix (k_ix (K := K) rfl hu) (pv 3) (pv 1) (fun _ _ => rfl))) (pg_name (i := 4) sc_names_of.nd rfl (Or.inl rfl))
      (pss_one (ps_asg pe_bl (pg_sub (pv 2) (pv 4) (set_any hu)))))))))
      (pss_one (ps_ret (pe_callB (k_sort (K := K) rfl rfl) (by rfl) B.b_sorted (by decide +kernel) (pa_cons (pv 2) pa_nil)))))), ?_⟩
   obtain ⟨N, l, key, xs, gs, rfl, hl, hxs, gl, hk, hq⟩ := h
   walk_at "g"
   intro m hm
   have s0 : Same H (upd H m (.dK [])) := same_new hm
   walk_at "g"
   refine .inl ?_
   walk_at "g"
   refine q_items ?_
   walk_at "g"
   refine q_itemsE (xs := xs) (Sm.sqL s0 hl) ?_
   have hlen : xs.length = gs.length := by rw [hxs.length, List.length_map]
   refine for_items (xs := xs) (fun i σ Hi => ∃ (v3 v4 : Option V) (kvs : List (Key × V)), σ = [some (.ref l), some (.str key), some (.ref m), v3, v4] ∧ Same H Hi ∧ Hi m = some (.dK kvs) ∧ kvs.map (·.1) = (uni (tabs key (gs.take i))).map Sum.inr ∧ kvs.length ≤ 20 * i) ?_ ?_ ?_ ?_
   · exact ⟨none, none, [], rfl, s0, upd_same, rfl, Nat.le_refl _⟩
   · rintro i σ Hi _ ⟨v3, v4, kvs, rfl, si, _⟩
     exact Sm.sqL si hl
   · rintro i x σ Hi hx ⟨v3, v4, kvs, rfl, si, em, ek, el⟩
     obtain ⟨d, g1, g2⟩ := hxs.gets hx
     obtain ⟨g, hg, rfl⟩ := map_at g1
     obtain ⟨t, ht, tl⟩ := hk g (mem_at hg)
     have hi3 : i < 3 := by
       have := (List.getElem?_eq_some_iff.mp hg).1
       omega
     obtain ⟨b, kb, rfl, _, hrb, tkb⟩ := g2.dicAt
     obtain ⟨q, es, z1, _, z2, z3⟩ := T.tab tkb ht
     walk_at "g"
     refine q_lockS (Sm.rd si z2) fun Hl od un D' lkd hD' => ?_
     walk_at "g"
     refine q_keys ?_
     walk_at "g"
     have L0 : Lk1 H q es od Hl := ⟨fun b o e n => lkd.l1.keep b o (si b o e) n, lkd.at_⟩
     have hmq : m ≠ q := L0.ne z2 hm
     refine q_ixK (.inr key) (lkd.rs _ _ (fun _ _ z => nomatch z) (Sm.rd si hrb)) z1 ?_
     refine q_keysE lkd.at_ ?_
     have hel : es.length = t.length := by rw [z3.length]; unfold tK; rw [List.length_map]
     refine for_keysS (kvs := es) (fun j σ Hj => ∃ (v4 : Option V) (kvs : List (Key × V)), σ = [some (.ref l), some (.str key), some (.ref m), some (.ref b), v4] ∧ Lk1 H q es od Hj ∧ Hj m = some (.dK kvs) ∧ kvs.map (·.1) = (((nms t).take j).foldl addN (uni (tabs key (gs.take i)))).map Sum.inr ∧ kvs.length ≤ 20 * i + j) ?_ ?_ ?_ ?_
     · exact ⟨v4, kvs, rfl, L0, by rw [lkd.el m hmq]; exact em, ek, by omega⟩
     · rintro j σ Hj _ ⟨v4, kvs, rfl, l1, _⟩
       exact l1.at_
     · rintro j k v σ Hj hkv ⟨v4, kvs, rfl, l1, em, ek, el⟩
       obtain ⟨d0, y1, y2⟩ := Tk.at z3 hkv
       obtain ⟨p, hp, ep⟩ := map_at y1
       cases ep
       have hj : j < t.length := (List.getElem?_eq_some_iff.mp hp).1
       have hnt : (nms t)[j]? = some p.1 := nms_at (n := p.1) (d := p.2) hp
       walk_at "g"
       refine q_setD (.inr p.1) em (len_small (by omega)) ?_
       have kk := keys_putN (n := p.1) (v := .bl true) ek
       refine ⟨_, _, rfl, l1.upd z2 hm, upd_same, ?_, ?_⟩
       · rw [kk, take_more hnt, List.foldl_append]
         rfl
       · have e1 : (putK kvs (.inr p.1) (.bl true)).length = (addN (((nms t).take j).foldl addN (uni (tabs key (gs.take i)))) p.1).length := by
           have := congrArg List.length kk
           rw [List.length_map, List.length_map] at this
           exact this
         have e2 : kvs.length = (((nms t).take j).foldl addN (uni (tabs key (gs.take i)))).length := by
           have := congrArg List.length ek
           rw [List.length_map, List.length_map] at this
           exact this
         have := addN_len (((nms t).take j).foldl addN (uni (tabs key (gs.take i)))) p.1
         omega
     · rintro σ Hj ⟨v4, kvs, rfl, l1, em, ek, el⟩
       refine hD'.nx _ _ l1.at_ ?_
       rw [hel, ← nms_len t, List.take_length] at ek
       refine ⟨_, _, kvs, rfl, l1.out lkd si, by rw [lkd.un _ _ hmq]; exact em, ?_, by omega⟩
       rw [ek]
       refine congrArg _ ?_
       unfold uni tabs
       rw [take_more hg, List.map_append, List.foldl_append]
       show _ = (nms ((lk g key).getD [])).foldl addN _
       rw [ht]
       rfl
   · rintro σ Hi ⟨v3, v4, kvs, rfl, si, em, ek, el⟩
     rw [hlen, List.take_length] at ek
     have hkl : (uni (tabs key gs)).length = kvs.length := by
       have := congrArg List.length ek
       rw [List.length_map, List.length_map] at this
       exact this.symm
     walk_at "g"
     refine q_sortD (ks := uni (tabs key gs)) (.inl em) ek (by omega) fun p hp => ?_
     exact hq p _ (si.trans (same_new hp)) (si.free hp) upd_same
  case len =>
   obtain ⟨N, l, key, xs, gs, rfl, _⟩ := h
   rfl
/-- settled(base, one, two) -/
def spSe (K : PySem.W.Frag) : Sp := fun vs H Q _ => ∃ (x y z : V) (b o t : En), vs = [x, y, z] ∧ T K H ff x (enc b) ∧ T K H ff y (enc o) ∧ T K H ff z (enc t) ∧ (∀ e ∈ [b, o, t], ∀ d, e = some d → imm d = true ∧ dep d ≤ 50) ∧
  ∀ p v H', Same H H' → H' p = some (.tup [.bl (set1 b o t).1, v]) → T K H' ff v (enc (set1 b o t).2) → Q (.ref p) H'
theorem enc_nod {e : En} (h : ∀ d, e = some d → imm d = true ∧ dep d ≤ 50) : TU.nod (enc e) = true ∧ TU.dep (enc e) ≤ 60 := by
  cases e with
  | none => exact ⟨rfl, (show 1 ≤ 60 by decide)⟩
  | some d =>
    obtain ⟨h1, h2⟩ := h d rfl
    have h3 := nod_of_imm h1
    refine ⟨by simp only [enc, TU.nod, nods, h3, Bool.and_self], ?_⟩
    simp only [enc, TU.dep, deps]
    omega
theorem sc_settled : FnScope ["base", "one", "two"] ["base", "one", "two"] (defScope s_settled) := ⟨rfl, rfl, rfl, by decide +kernel, rfl, by decide +kernel, by decide +kernel⟩
theorem d_settled (B : Bt mg) (F : TopF K mg "settled" s_settled ["base", "one", "two"]) : Df P w K mg base "settled" ["base", "one", "two"] 1 (spSe K) := by
  refine F.df sc_settled (fun vs H Q E h => ?len) (fun f cdv A outer s H vs Q E hr h => ?body)
  case body =>
   have hu := hr.units
   refine ⟨_, (pss_cons (ps_if (PW.pt (pw_or (pt_cmpR (k_eq (K := K) rfl hu) (pv 1) (pv 2) (nomark _)) (pw_or1 (pt_cmpR (k_eq (K := K) rfl hu) (pv 2) (pv 0) (nomark _)))))
      (pss_one (ps_ret (pe_tup (pa_cons pe_bl (pa_cons (pv 1) pa_nil)))))
      pss_nil)
      (pss_cons (ps_if (pt_cmpR (k_eq (K := K) rfl hu) (pv 1) (pv 0) (nomark _))
      (pss_one (ps_ret (pe_tup (pa_cons pe_bl (pa_cons (pv 2) pa_nil)))))
      pss_nil)
      (pss_one (ps_ret (pe_tup (pa_cons pe_bl (pa_cons (pv 0) pa_nil))))))), ?_⟩
   obtain ⟨x, y, z, b, o, t, rfl, tx, ty, tz, he, hq⟩ := h
   have nb := enc_nod (he b (by simp))
   have no := enc_nod (he o (by simp))
   have nt := enc_nod (he t (by simp))
   have e1 : eqb (enc o) (enc t) = eqO o t := rfl
   have e2 : eqb (enc t) (enc b) = eqO t b := rfl
   have e3 : eqb (enc o) (enc b) = eqO o b := rfl
   have fin : ∀ {c : Bool} {v : V} {r : En}, set1 b o t = (c, r) → T K H ff v (enc r) → ∀ p, H p = none → Q (.ref p) (upd H p (.tup [.bl c, v])) := fun {c v r} e tv p hp => by
     refine hq p v _ (same_new hp) ?_ ?_
     · rw [e]
       exact upd_same
     · rw [e]
       exact tv.mono (same_new hp)
   walk_at "g"
   refine q_eqT ty tz no.1 nt.1 no.2 ?_
   rw [e1]
   walk_at "g"
   refine q_ite (fun c => ?_) (fun c => ?_)
   · walk_at "g"
     exact fin (if_pos (.inl c)) ty
   · walk_at "g"
     refine q_eqT tz tx nt.1 nb.1 nt.2 ?_
     rw [e2]
     walk_at "g"
     refine q_ite (fun c2 => ?_) (fun c2 => ?_)
     · walk_at "g"
       exact fin (if_pos (.inr c2)) ty
     · have n1 : ¬ (eqO o t = true ∨ eqO t b = true) := fun z => z.elim (fun z => by rw [c] at z; cases z) (fun z => by rw [c2] at z; cases z)
       walk_at "g"
       refine q_eqT ty tx no.1 nb.1 no.2 ?_
       rw [e3]
       walk_at "g"
       refine q_ite (fun c3 => ?_) (fun c3 => ?_)
       · walk_at "g"
         exact fin ((if_neg n1).trans (if_pos c3)) tz
       · walk_at "g"
         exact fin ((if_neg n1).trans (if_neg (by rw [c3]; exact Bool.false_ne_true))) tx
  case len =>
   obtain ⟨x, y, z, b, o, t, rfl, _⟩ := h
   rfl

/-- merge(base, one, two) -/
def MOk (h : Hs) : Prop := Wf h ∧ Fits 20 h ∧ All (fun d => dep d ≤ 50) h
def spMe (K : PySem.W.Frag) (C : Addr) : Sp := fun vs H Q E => ∃ (N : Addr → Prop) (a b c : Addr) (h o t : Hs), vs = [.ref a, .ref b, .ref c] ∧ T K H N (.ref a) (.dic (hK h)) ∧ T K H N (.ref b) (.dic (hK o)) ∧ T K H N (.ref c) (.dic (hK t)) ∧
  MOk h ∧ MOk o ∧ MOk t ∧ h.length ≤ 40 ∧ o.length ≤ 40 ∧ t.length ≤ 40 ∧
  ((srt (nms h) = srt (nms o) ∧ srt (nms h) = srt (nms t)) → ∀ p r l ys H', Same H H' → SqT K H' p [.ref r, .ref l] → Own K (fun b => H b = none) H' r (mHs h o t) → H' l = some (.lst ys) → H l = none → Ts K H' ff ys ((srtP (mCs h o t)).map pr) → Q (.ref p) H') ∧
  (¬ (srt (nms h) = srt (nms o) ∧ srt (nms h) = srt (nms t)) → XUnk C "house" "tables" H E)
-- merge: 0 base, 1 one, 2 two, 3 house, 4 met, 5 key, 6 table, 7 name, 8 found, 9 other, 10 is_conflict, 11 stands
theorem sc_merge : FnScope ["base", "one", "two", "house", "met", "key", "table", "name", "found", "other", "is_conflict", "stands"] ["base", "one", "two"] (defScope s_merge) := ⟨rfl, rfl, rfl, by decide +kernel, rfl, by decide +kernel, by decide +kernel⟩
theorem d_merge (B : Bt mg) (F : TopF K mg "merge" s_merge ["base", "one", "two"]) (D_names_of : Df P w K mg base "names_of" ["houses", "key"] 1 (spNO K)) (D_settled : Df P w K mg base "settled" ["base", "one", "two"] 1 (spSe K)) (D_entry_in : Df P w K mg base "entry_in" ["house", "key", "name"] 4 (spEI K C_Unknown)) (D_check_keys : Df P w K mg base "check_keys" ["base", "houses"] 3 (spCKs K C_Misfit)) : Df P w K mg base "merge" ["base", "one", "two"] 5 (spMe K C_Misfit) := by
  refine F.df sc_merge (fun vs H Q E h => ?len) (fun f cdv A outer s H vs Q E hr h => ?body)
  case body =>
   have hu := hr.units
   refine ⟨_, (pss_cons (ps_expr (pe_df D_check_keys (hr.mono (by decide)) (fun σ => passAt (takes_of rfl rfl rfl rfl) σ) (pa_cons (pv 0) (pa_cons (pe_lst (pa_cons (pv 1) (pa_cons (pv 2) pa_nil))) pa_nil))))
      (pss_cons (ps_set (i := 3) sc_merge.nd rfl (Or.inl rfl) pe_dnewK)
      (pss_cons (ps_set (i := 4) sc_merge.nd rfl (Or.inl rfl) (pe_lst pa_nil))
      (pss_cons (ps_lockU (ps_for (passes_of rfl) rfl (k_walk (K := K) rfl (pv 0)) (pg_name (i := 5) sc_merge.nd rfl (Or.inr rfl))
      (pss_cons (ps_set (i := 6) sc_merge.nd rfl (Or.inl rfl) pe_dnewK)
      (pss_cons (ps_lockU (ps_for (passes_of rfl) rfl (k_walk (K := K) rfl (pe_df D_names_of (hr.mono (by decide)) (fun σ => passAt (takes_of rfl rfl rfl rfl) σ) (pa_cons (pe_lst (pa_cons (pv 0) (pa_cons (pv 1) (pa_cons (pv 2) pa_nil)))) (pa_cons (pv 5) pa_nil)))) (pg_name (i := 7) sc_merge.nd rfl (Or.inr rfl))
      (pss_cons (ps_setLc (i := 8) (own := [("other", 9)]) (by rfl) sc_merge.nd rfl rfl (sw_true rfl rfl rfl (by kernel_rfl)) (k_walk (K := K) rfl (pe_tup (pa_cons (pv 0) (pa_cons (pv 1) (pa_cons (pv 2) pa_nil))))) (blkOk_by (by kernel_rfl)) (fun _ _ _ _ _ => (pg_name (i := 9) sc_merge.nd rfl (Or.inl rfl))) (fun _ _ _ _ _ => pts_nil) (fun _ _ _ _ _ => (pe_df0 D_entry_in (hr.mono (by decide)) (pa_cons (pv 9) (pa_cons (pv 5) (pa_cons (pv 7) pa_nil))))))
      (pss_cons (ps_asg (pe_df D_settled (hr.mono (by decide)) (fun σ => passAt (takes_of rfl rfl rfl rfl) σ) (pa_cons (pe_ix (k_ix (K := K) rfl hu) (pv 8) pe_int (fun _ _ => rfl)) (pa_cons (pe_ix (k_ix (K := K) rfl hu) (pv 8) pe_int (fun _ _ => rfl)) (pa_cons (pe_ix (k_ix (K := K) rfl hu) (pv 8) pe_int (fun _ _ => rfl)) pa_nil)))) (k_tup (K := K) rfl (by rfl) (pgs_cons (pg_name (i := 10) sc_merge.nd rfl (Or.inl rfl)) (pgs_cons (pg_name (i := 11) sc_merge.nd rfl (Or.inl rfl)) pgs_nil))))
      (pss_cons (ps_if (k_tr (K := K) rfl (pv 10))
      (pss_one (ps_expr (k_append (K := K) rfl (pv 4) (pa_cons (pe_tup (pa_cons (pv 5) (pa_cons (pv 7) pa_nil))) pa_nil))))
      pss_nil)
      (pss_one (ps_if (k_tr (K := K) rfl (pe_ix (k_ix (K := K) rfl hu) (pv 11) pe_int (fun _ _ => rfl)))
      (pss_one (ps_asg (pe_ix (k_ix (K := K) rfl hu) (pv 11) pe_int (fun _ _ => rfl)) (pg_sub (pv 6) (pv 7) (set_any hu))))
      pss_nil)))))))
      (pss_one (ps_asg (pv 6) (pg_sub (pv 3) (pv 5) (set_any hu))))))))
      (pss_one (ps_ret (pe_tup (pa_cons (pv 3) (pa_cons (pe_callB (k_sortP (K := K) rfl) (by rfl) B.b_sorted (by decide +kernel) (pa_cons (pv 4) pa_nil)) pa_nil))))))))), ?_⟩
   obtain ⟨N, a, b, c, h, o, t, rfl, ha, hb, hc, mh, mo, mt, l1, l2, l3, hq, hx⟩ := h
   walk_at "g"
   intro p0 hp0
   have s0 := same_new (o := .lst [.ref b, .ref c]) hp0
   walk_at "g"
   refine ⟨N, a, p0, h, _, [o, t], rfl, ha.mono s0, sq_new, .cons (hb.mono s0) (.cons (hc.mono s0) .nil), l1, ?_, fun hs H1 s1 => ?_, fun hs => ?_⟩
   · intro g m
     rcases List.mem_cons.mp m with e | m
     · rw [e]
       exact l2
     · rw [List.mem_singleton.mp m]
       exact l3
   · have so := hs o (by simp)
     have st := hs t (by simp)
     have s01 := s0.trans s1
     walk_at "g"
     intro r hr
     have s2 := same_new (o := .dK []) hr
     walk_at "g"
     intro l hl
     have s3 := same_new (o := .lst []) hl
     have s03 := s01.trans (s2.trans s3)
     have hr0 : H r = none := s01.free hr
     have hl0 : H l = none := (s01.trans s2).free hl
     walk_at "g"
     obtain ⟨a', kvs, ea, _, hra, tka⟩ := ha.dicAt
     cases ea
     have hlen : kvs.length = h.length := by rw [tka.length]; exact List.length_map _
     refine q_lockS (Sm.rd s03 hra) fun Hl od un D' lkd hD' => ?_
     walk_at "g"
     refine q_keys ?_
     walk_at "g"
     refine q_keysE lkd.at_ ?_
     have L0 : Lk1 H a kvs od Hl := ⟨fun b o e n => lkd.l1.keep b o (s03 b o e) n, lkd.at_⟩
     have hrl : r ≠ l := ne_of_none (H := upd H1 r (.dK [])) upd_same hl
     have er : Hl r = some (.dK []) := by
       rw [lkd.el r (L0.ne hra hr0)]
       exact s3 _ _ upd_same
     have el : Hl l = some (.lst []) := by
       rw [lkd.el l (L0.ne hra hl0)]
       exact upd_same
     refine for_keysS (kvs := kvs) (fun i σ Hi => ∃ (v5 v6 v7 v8 v9 v10 v11 : Option V) (ys : List V), σ = [some (.ref a), some (.ref b), some (.ref c), some (.ref r), some (.ref l), v5, v6, v7, v8, v9, v10, v11] ∧ Lk1 H a kvs od Hi ∧ Own K (fun b => H b = none ∧ b ≠ l) Hi r ((mHs h o t).take i) ∧
       Hi l = some (.lst ys) ∧ Ts K Hi ff ys ((((nms h).take i).flatMap fun k => mCon h o t k).map pr) ∧ ys.length ≤ 60 * i) ?_ ?_ ?_ ?_
     · exact ⟨none, none, none, none, none, none, none, [], rfl, L0, Own.nil er ⟨hr0, hrl⟩, el, .nil, Nat.le_refl _⟩
     · rintro i σ Hi _ ⟨v5, v6, v7, v8, v9, v10, v11, ys, rfl, l1', _⟩
       exact l1'.at_
     · rintro i k v σ Hi hkv ⟨v5, v6, v7, v8, v9, v10, v11, ys, rfl, li, oi, ei, ti, yl⟩
       obtain ⟨d0, g1, g2⟩ := Tk.at tka hkv
       obtain ⟨n, t0, hn, rfl, rfl⟩ := hK_at g1
       have hnm : n ∈ nms h := mem_nms (mem_at hn)
       have hno : n ∈ nms o := (srt_perm _).mem_iff.mp (by rw [← so]; exact (srt_perm _).mem_iff.mpr hnm)
       have hnt : n ∈ nms t := (srt_perm _).mem_iff.mp (by rw [← st]; exact (srt_perm _).mem_iff.mpr hnm)
       have e0 : lk h n = some t0 := lk_of_mem mh.1.nd (mem_at hn)
       obtain ⟨t1, e1⟩ := lk_mem_nms hno
       obtain ⟨t2, e2⟩ := lk_mem_nms hnt
       have hi40 : i < 40 := by
         have := (List.getElem?_eq_some_iff.mp hkv).1
         omega
       walk_at "g"
       intro q hq0
       have hqH : H q = none := li.fresh hq0
       have hql : q ≠ l := fun z => by rw [z, ei] at hq0; cases hq0
       have li2 := li.same (same_new (o := .dK []) hq0)
       have oi2 := oi.live.mono (same_new (o := .dK []) hq0)
       have ei2 := same_new (o := .dK []) hq0 _ _ ei
       have ti2 := ti.mono (same_new (o := .dK []) hq0)
       have eq2 : (upd Hi q (.dK [])) q = some (.dK []) := upd_same
       have oN : ∀ b, ((H b = none ∧ b ≠ l) ∧ Hi b ≠ none) → b ≠ q := fun b z e => z.2 (by rw [e]; exact hq0)
       generalize upd Hi q (.dK []) = Hj at li2 oi2 ei2 ti2 eq2
       walk_at "g"
       refine .inl ?_
       walk_at "g"
       refine q_items ?_
       walk_at "g"
       intro p1 hp1
       have rs1 := li2.rs hra
       have s4 := same_new (o := .lst [.ref a, .ref b, .ref c]) hp1
       walk_at "g"
       refine ⟨N, p1, n, _, [h, o, t], rfl, sq_new, .cons ((ha.rs rs1).mono s4) (.cons ((hb.rs rs1).mono s4) (.cons ((hc.rs rs1).mono s4) .nil)), Nat.le_refl _, ?_, fun p Hk s5 hpn hp => ?_⟩
       · intro g m
         rcases List.mem_cons.mp m with e | m
         · rw [e]
           exact ⟨t0, e0, mh.2.1 _ (lk_mem e0)⟩
         · rcases List.mem_cons.mp m with e | m
           · rw [e]
             exact ⟨t1, e1, mo.2.1 _ (lk_mem e1)⟩
           · rw [List.mem_singleton.mp m]
             exact ⟨t2, e2, mt.2.1 _ (lk_mem e2)⟩
       · have s45 := s4.trans s5
         have hpl : p ≠ l := fun z => by
           rw [z] at hpn
           rw [s4 _ _ ei2] at hpn
           cases hpn
         have mNl : (mN h o t n).length ≤ 60 := by
           have z1 := uni_len (tabs n [h, o, t]) []
           have z2 := (srt_perm (uni (tabs n [h, o, t]))).length_eq
           have f0 := mh.2.1 _ (lk_mem e0)
           have f1 := mo.2.1 _ (lk_mem e1)
           have f2 := mt.2.1 _ (lk_mem e2)
           have z3 : ((tabs n [h, o, t]).map List.length).sum = t0.length + (t1.length + (t2.length + 0)) := by
             unfold tabs
             simp only [List.map_cons, List.map_nil, List.sum_cons, List.sum_nil, e0, e1, e2, Option.getD]
           have f0' : t0.length ≤ 20 := f0
           have f1' : t1.length ≤ 20 := f1
           have f2' : t2.length ≤ 20 := f2
           have z4 : (uni (tabs n [h, o, t])).length ≤ 0 + ((tabs n [h, o, t]).map List.length).sum := z1
           show (srt (uni (tabs n [h, o, t]))).length ≤ 60
           omega
         have hmN : srt (uni (tabs n [h, o, t])) = mN h o t n := rfl
         rw [hmN] at hp
         refine q_itemsE (xs := (mN h o t n).map V.str) (.inl (.inl hp)) ?_
         refine for_items (xs := (mN h o t n).map V.str) (fun j σ Hm => ∃ (v7 v8 v9 v10 v11 : Option V) (es : List (Key × V)) (ys : List V), σ = [some (.ref a), some (.ref b), some (.ref c), some (.ref r), some (.ref l), some (.str n), some (.ref q), v7, v8, v9, v10, v11] ∧ Lk1 H a kvs od Hm ∧
           Own K (fun b => (H b = none ∧ b ≠ l) ∧ Hi b ≠ none) Hm r ((mHs h o t).take i) ∧ Hm p = some (.lst ((mN h o t n).map V.str)) ∧ Hm q = some (.dK es) ∧ Tk K Hm ff es (tK (((mN h o t n).take j).filterMap fun x => (mS h o t n x).2.map fun d => (x, d))) ∧ Hm l = some (.lst ys) ∧
           Ts K Hm ff ys (((((nms h).take i).flatMap fun k => mCon h o t k) ++ ((mN h o t n).take j).filterMap fun x => if (mS h o t n x).1 = true then some (n, x) else none).map pr) ∧ ys.length ≤ 60 * i + j) ?_ ?_ ?_ ?_
         · exact ⟨v7, v8, v9, v10, v11, [], ys, rfl, li2.same s45, oi2.mono s45, hp, s45 _ _ eq2, .nil, s45 _ _ ei2, by rw [List.take_zero, List.filterMap_nil, List.append_nil]; exact ti2.mono s45, by omega⟩
         · rintro j σ Hm _ ⟨v7, v8, v9, v10, v11, es, ys, rfl, _, _, e, _⟩
           exact .inl (.inl e)
         · rintro j y σ Hm hy ⟨v7, v8, v9, v10, v11, es, ys, rfl, lm, om, pm, qm, tm, em, cm, yl2⟩
           obtain ⟨x, hx', rfl⟩ := hlist_at hy
           have hxl : j < (mN h o t n).length := (List.getElem?_eq_some_iff.mp hx').1
           walk_at "g"
           refine q_tups ?_
           walk_at "g"
           intro p2 hp2
           have s6 := same_new (o := .tup [.ref a, .ref b, .ref c]) hp2
           have rs2 := (lm.rs hra).trans (RS.of s6)
           refine q_tupsE (xs := ([(a, h), (b, o), (c, t)] : List (Addr × Hs)).map fun z => V.ref z.1) st_new ?_
           intro d hd
           have ep2 : SqT K (upd Hm p2 (.tup [.ref a, .ref b, .ref c])) p2 (([(a, h), (b, o), (c, t)] : List (Addr × Hs)).map fun z => V.ref z.1) := st_new
           refine lc_any (walk_tup (K := K) (a := p2) (xs := ([(a, h), (b, o), (c, t)] : List (Addr × Hs)).map fun z => V.ref z.1)) (fun m Hx => Same (upd Hm p2 (.tup [.ref a, .ref b, .ref c])) Hx ∧ ∃ acc, Hx d = some (.lst acc) ∧ Ts K Hx ff acc ((([(a, h), (b, o), (c, t)] : List (Addr × Hs)).take m).map fun z => enc (ent z.2 n x)) ∧ acc.length = m) ?_ ?_ ?_ ?_
           · exact ⟨same_new hd, [], upd_same, .nil, rfl⟩
           · rintro m Hx _ ⟨sx, _⟩
             exact Sm.sqT sx ep2
           · rintro m y Hx' Hx hm3 ⟨sx, acc, ea, ta, la⟩ ⟨rfl, hy2⟩
             obtain ⟨z, hz, rfl⟩ := map_at hy2
             have zz : T K H N (.ref z.1) (.dic (hK z.2)) ∧ Wf z.2 ∧ ∃ tz, lk z.2 n = some tz := by
               have mz := mem_at hz
               rcases List.mem_cons.mp mz with e | mz
               · rw [e]
                 exact ⟨ha, mh.1, _, e0⟩
               · rcases List.mem_cons.mp mz with e | mz
                 · rw [e]
                   exact ⟨hb, mo.1, _, e1⟩
                 · rw [List.mem_singleton.mp mz]
                   exact ⟨hc, mt.1, _, e2⟩
             obtain ⟨z1, z2, tz, z3⟩ := zz
             walk_at "g"
             refine ⟨rfl, ?_⟩
             walk_at "g"
             refine ⟨N, z.1, n, x, z.2, rfl, (z1.rs rs2).mono sx, z2, ?_⟩
             rw [z3]
             intro u Hy sy tu
             have tu2 : T K Hy ff u (enc (ent z.2 n x)) := by
               unfold ent
               rw [z3]
               cases q9 : lk tz x with
               | some d9 =>
                 rw [q9] at tu
                 simp only [Option.bind, q9]
                 exact tu
               | none =>
                 rw [q9] at tu
                 simp only [Option.bind, q9]
                 exact tu
             have hm : m < 3 := hm3
             refine ⟨acc, sy _ _ ea, len_small (by omega), ?_, acc ++ [u], upd_same, ?_, by rw [List.length_append, la]; rfl⟩
             · intro b9 o9 e9
               have nd9 : b9 ≠ d := ne_of_none e9 hd
               rw [upd_ne nd9]
               exact sy _ _ (sx _ _ e9)
             · rw [take_more hz, List.map_append]
               exact ((ta.mono sy).append (.cons tu2 .nil)).upd (sy _ _ ea) (fun _ z => nomatch z) (fun _ _ z => nomatch z) fun _ z => z.elim
           · rintro Hx ⟨sx, acc, ea, ta, la⟩
             have sxx := s6.trans sx
             obtain ⟨u0, u1, u2, rfl⟩ : ∃ u0 u1 u2, acc = [u0, u1, u2] := by
               match acc, la with
               | [x, y, z], _ => exact ⟨x, y, z, rfl⟩
             cases ta with
             | cons ta0 ta =>
             cases ta with
             | cons ta1 ta =>
             cases ta with
             | cons ta2 ta =>
             have enOk : ∀ {g : Hs} {tg : Tab}, MOk g → lk g n = some tg → ∀ d, ent g n x = some d → imm d = true ∧ dep d ≤ 50 := fun {g tg} mg eg d ed => by
               unfold ent at ed
               rw [eg] at ed
               have ed2 : lk tg x = some d := ed
               exact ⟨immT_lk (mg.1.tab _ (lk_mem eg)).2 ed2, mg.2.2.lk eg ed2⟩
             walk_at "g"
             refine q_ixL (.inl (.inl ea)) (atI_nat (j := 0) rfl) ?_
             walk_at "g"
             refine q_ixL (.inl (.inl ea)) (atI_nat (j := 1) rfl) ?_
             walk_at "g"
             refine q_ixL (.inl (.inl ea)) (atI_nat (j := 2) rfl) ?_
             walk_at "g"
             refine ⟨u0, u1, u2, ent h n x, ent o n x, ent t n x, rfl, ta0, ta1, ta2, ?_, fun p5 vs Hy sy ep tv => ?_⟩
             · intro e m
               rcases List.mem_cons.mp m with c | m
               · rw [c]
                 exact enOk mh e0
               · rcases List.mem_cons.mp m with c | m
                 · rw [c]
                   exact enOk mo e1
                 · rw [List.mem_singleton.mp m]
                   exact enOk mt e2
             · have e9 : set1 (ent h n x) (ent o n x) (ent t n x) = mS h o t n x := rfl
               rw [e9] at ep tv
               walk_at "g"
               refine q_gtup (.inl (.inl ep)) rfl (q_gcons ?_)
               walk_at "g"
               refine q_gcons ?_
               walk_at "g"
               refine q_gnil ?_
               walk_at "g"
               have lx := (lm.same s6).same (sx.trans sy)
               have sxy := (s6.trans sx).trans sy
               refine q_opt (P := fun Hw => ∃ ysw, Lk1 H a kvs od Hw ∧ Own K (fun b => (H b = none ∧ b ≠ l) ∧ Hi b ≠ none) Hw r ((mHs h o t).take i) ∧ Hw p = some (.lst ((mN h o t n).map V.str)) ∧ Hw q = some (.dK es) ∧ Tk K Hw ff es (tK (((mN h o t n).take j).filterMap fun x => (mS h o t n x).2.map fun d => (x, d))) ∧ Hw l = some (.lst ysw) ∧
                 Ts K Hw ff ysw (((((nms h).take i).flatMap fun k => mCon h o t k) ++ ((mN h o t n).take (j + 1)).filterMap fun x => if (mS h o t n x).1 = true then some (n, x) else none).map pr) ∧ ysw.length ≤ 60 * i + j + 1 ∧ T K Hw ff vs (enc (mS h o t n x).2)) ?_ ?_ ?_
               · rintro Hw ⟨ysw, lw, ow, pw, qw, tw, ew, cw, ywl, tvw⟩
                 have fm1 : ((mN h o t n).take (j + 1)).filterMap (fun x => (mS h o t n x).2.map fun d => (x, d)) = (((mN h o t n).take j).filterMap fun x => (mS h o t n x).2.map fun d => (x, d)) ++ ((mS h o t n x).2.map fun d => (x, d)).toList := by
                   rw [take_more hx', List.filterMap_append]
                   exact congrArg _ (fm_one _ _)
                 cases e5 : (mS h o t n x).2 with
                 | some dd =>
                   rw [e5] at tvw fm1
                   obtain ⟨b2, ws, rfl, hws, tws⟩ := T.tupAt (show T K Hw ff vs (.tup [.bl true, dd]) from tvw)
                   cases tws with
                   | cons t0' tws =>
                   cases tws with
                   | cons t1' tws =>
                   cases tws
                   cases t0'
                   walk_at "g"
                   refine q_ixT hws (atI_nat (j := 0) rfl) ?_
                   walk_at "g"
                   refine q_ixT hws (atI_nat (j := 1) rfl) ?_
                   walk_at "g"
                   have nkx : (Sum.inr x : Key) ∉ es.map (·.1) := by
                     rw [tw.keys, keys_tK]
                     intro z
                     exact nd_at (mN_nd h o t n) hx' ((nms_fm (fun x => (mS h o t n x).2) _).subset (inr_mem.mp z))
                   have esl : es.length ≤ 60 := by
                     have z1 := tw.length
                     rw [show (tK (((mN h o t n).take j).filterMap fun x => (mS h o t n x).2.map fun d => (x, d))).length = (((mN h o t n).take j).filterMap fun x => (mS h o t n x).2.map fun d => (x, d)).length from List.length_map _] at z1
                     have z2 := List.length_filterMap_le (fun x => (mS h o t n x).2.map fun d => (x, d)) ((mN h o t n).take j)
                     rw [List.length_take] at z2
                     omega
                   refine q_setD (.inr x) qw (len_small (by omega)) ?_
                   refine ⟨_, _, _, _, _, _, ysw, rfl, lw.upd hra hqH, ow.keep keeps_upd (no_tup qw) fun b z e => oN b z e, sq_ne pw qw (fun z => nomatch z), upd_same, ?_, ?_, ?_, by omega⟩
                   · rw [putK_fresh nkx, fm1]
                     show Tk K _ ff _ (tK (_ ++ [(x, dd)]))
                     rw [tK_snoc]
                     exact (tw.append (.cons t1' .nil)).upd qw (fun _ z => nomatch z) (fun _ _ z => nomatch z) fun _ z => z.elim
                   · rw [upd_ne (Ne.symm hql)]
                     exact ew
                   · exact cw.upd qw (fun _ z => nomatch z) (fun _ _ z => nomatch z) fun _ z => z.elim
                 | none =>
                   rw [e5] at tvw fm1
                   obtain ⟨b2, ws, rfl, hws, tws⟩ := T.tupAt (show T K Hw ff vs (.tup [.bl false, .non]) from tvw)
                   cases tws with
                   | cons t0' tws =>
                   cases t0'
                   walk_at "g"
                   refine q_ixT hws (atI_nat (j := 0) rfl) ?_
                   walk_at "g"
                   refine ⟨_, _, _, _, _, es, ysw, rfl, lw, ow, pw, qw, ?_, ew, cw, by omega⟩
                   rw [fm1]
                   show Tk K _ ff _ (tK (_ ++ []))
                   rw [List.append_nil]
                   exact tw
               · intro rest hc1
                 walk_at "g"
                 refine tyL (sxy _ _ em) ?_
                 walk_at "g"
                 intro p6 hp6
                 have s8 := same_new (o := .tup [.str n, .str x]) hp6
                 have s68 := sxy.trans s8
                 walk_at "g"
                 refine q_append (s68 _ _ em) (len_small (by omega)) ?_
                 refine rest _ ⟨ys ++ [.ref p6], (lx.same s8).upd hra hl0, (om.mono s68).keep (keeps_upd (p := l)) (nt_of (s68 _ _ em) (fun _ z => nomatch z) fun _ _ z => nomatch z) (fun b z => z.1.2), ?_, ?_, ?_, upd_same, ?_, ?_, ?_⟩
                 · rw [upd_ne hpl]
                   exact s68 _ _ pm
                 · rw [upd_ne hql]
                   exact s68 _ _ qm
                 · exact (tm.mono s68).upd (s68 _ _ em) (fun _ z => nomatch z) (fun _ _ z => nomatch z) fun _ z => z.elim
                 · rw [take_more hx', List.filterMap_append, ← List.append_assoc, List.map_append]
                   have e6 : List.map pr (List.filterMap (fun x => if (mS h o t n x).1 = true then some (n, x) else none) [x]) = [pr (n, x)] := by
                     rw [List.filterMap_cons, if_pos hc1]
                     rfl
                   rw [e6]
                   exact ((cm.mono s68).append (.cons (.tup st_new (.cons (.str _) (.cons (.str _) .nil))) .nil)).upd (s68 _ _ em) (fun _ z => nomatch z) (fun _ _ z => nomatch z) fun _ z => z.elim
                 · rw [List.length_append]
                   show ys.length + 1 ≤ _
                   omega
                 · exact (tv.mono s8).upd (s68 _ _ em) (fun _ z => nomatch z) (fun _ _ z => nomatch z) fun _ z => z.elim
               · intro hc0
                 refine ⟨ys, lx, om.mono sxy, sxy _ _ pm, sxy _ _ qm, tm.mono sxy, sxy _ _ em, ?_, by omega, tv⟩
                 rw [take_more hx', List.filterMap_append]
                 have e6 : List.filterMap (fun x => if (mS h o t n x).1 = true then some (n, x) else none) [x] = [] := by
                   rw [List.filterMap_cons, if_neg (by rw [hc0]; exact Bool.false_ne_true)]
                   rfl
                 rw [e6, List.append_nil]
                 exact cm.mono sxy
         · rintro σ Hm ⟨v7, v8, v9, v10, v11, es, ys, rfl, lm, om, pm, qm, tm, em, cm, yl2⟩
           rw [List.length_map, List.take_length] at tm cm
           rw [List.length_map] at yl2
           walk_at "g"
           have hni : (mHs h o t)[i]? = some (n, mTab h o t n) := by
             unfold mHs
             rw [List.getElem?_map, nms_at hn]
             rfl
           have nk : n ∉ nms ((mHs h o t).take i) := by
             rw [nms_take, nms_mHs]
             exact nd_at mh.1.nd (nms_at hn)
           obtain ⟨kr, w1, w2, w3⟩ := om.push2 (N := fun b => H b = none ∧ b ≠ l) nk (fun z => z.2 hq0) (fun b z => z.1) ⟨hqH, hql⟩ qm tm
           have hrm : r ≠ l := hrl
           refine q_setD (.inr n) w1 (by rw [w2, List.length_take]; exact len_small (by omega)) ?_
           refine ⟨_, _, _, _, _, _, _, ys, rfl, lm.upd hra hr0, ?_, ?_, ?_, by omega⟩
           · rw [take_more hni]
             exact w3
           · rw [upd_ne (Ne.symm hrl)]
             exact em
           · have hnn : (nms h)[i]? = some n := nms_at hn
             rw [take_more hnn, List.flatMap_append]
             have e7 : List.flatMap (fun k => mCon h o t k) [n] = mCon h o t n := by simp
             rw [e7]
             exact cm.upd w1 (fun _ z => nomatch z) (fun _ _ z => nomatch z) fun _ z => z.elim
     · rintro σ Hi ⟨v5, v6, v7, v8, v9, v10, v11, ys, rfl, li, oi, ei, ti, yl⟩
       refine hD'.nx _ _ li.at_ ?_
       have hm1 : (mHs h o t).take kvs.length = mHs h o t := by
         rw [hlen]
         refine List.take_of_length_le ?_
         rw [← nms_len, nms_mHs, nms_len]
         exact Nat.le_refl _
       have hm2 : (nms h).take kvs.length = nms h := by
         rw [hlen, ← nms_len h]
         exact List.take_length
       rw [hm1] at oi
       rw [hm2] at ti
       have su := li.out lkd s03
       have eu : un Hi l = some (.lst ys) := by rw [lkd.un _ _ (L0.ne hra hl0)]; exact ei
       have ou := lkd.own (fun b z => L0.ne hra z.1) li.at_ oi
       have tu := ti.rs (lkd.unrs li.at_)
       generalize un Hi = Ho at su eu ou tu
       walk_at "g"
       refine q_sortP (.inl (.inl eu)) tu fun zs p tz hp => ?_
       have s9 := same_new (o := .lst zs) hp
       walk_at "g"
       intro p9 hp9
       have s10 := same_new (o := .tup [.ref r, .ref p]) hp9
       refine hq ⟨so, st⟩ p9 r p zs _ (su.trans (s9.trans s10)) st_new ((ou.imp fun b z => z.1).mono (s9.trans s10)) (s10 _ _ upd_same) (su.free hp) ((tz.mono s9).mono s10)
   · refine (hx fun z => ?_).mono s0
     obtain ⟨g, m, ne⟩ := hs
     rcases List.mem_cons.mp m with e | m
     · rw [e] at ne
       exact ne z.1
     · rw [List.mem_singleton.mp m] at ne
       exact ne z.2
  case len =>
   obtain ⟨N, a, b, c, h, o, t, rfl, _⟩ := h
   rfl

/-- same_house(house, other) -/
def spSHo (K : PySem.W.Frag) : Sp := fun vs H Q _ => ∃ (N1 N2 : Addr → Prop) (a b : Addr) (h g : Hs), vs = [.ref a, .ref b] ∧ T K H N1 (.ref a) (.dic (hK h)) ∧ T K H N2 (.ref b) (.dic (hK g)) ∧ Wf h ∧ Wf g ∧ Sml h ∧ h.length ≤ 40 ∧ g.length ≤ 40 ∧
  ∀ H', Same H H' → Q (.bl (eqHs h g)) H'
theorem sc_same_house : FnScope ["house", "other", "key"] ["house", "other"] (defScope s_same_house) := ⟨rfl, rfl, rfl, by decide +kernel, rfl, by decide +kernel, by decide +kernel⟩
theorem d_same_house (B : Bt mg) (F : TopF K mg "same_house" s_same_house ["house", "other"]) (D_same_keys : Df P w K mg base "same_keys" ["house", "other"] 1 (spSK K)) : Df P w K mg base "same_house" ["house", "other"] 2 (spSHo K) := by
  refine F.df sc_same_house (fun vs H Q E h => ?len) (fun f cdv A outer s H vs Q E hr h => ?body)
  case body =>
   have hu := hr.units
   refine ⟨_, (pss_one (ps_ret (pe_and (pe_df D_same_keys (hr.mono (by decide)) (fun σ => passAt (takes_of rfl rfl rfl rfl) σ) (pa_cons (pv 0) (pa_cons (pv 1) pa_nil))) (pe_one (pe_callB (k_all (K := K) rfl rfl) (by rfl) B.b_all (by decide +kernel) (pa_cons (pe_lockU (pe_lc (own := [("key", 2)]) (by rfl) sc_same_house.nd (k_walk (K := K) rfl (pv 0)) (blkOk_by (by kernel_rfl)) (fun _ _ _ _ _ => (pg_name (i := 2) sc_same_house.nd rfl (Or.inl rfl))) (fun _ _ _ _ _ => pts_nil) (fun _ _ _ _ _ => (pe_cmpR (k_eq (K := K) rfl hu) (pe_ix (k_ix (K := K) rfl hu) (pv 0) (pv 2) (fun _ _ => rfl)) (pe_ix (k_ix (K := K) rfl hu) (pv 1) (pv 2) (fun _ _ => rfl)) (nomark _))))) pa_nil)))))), ?_⟩
   obtain ⟨N1, N2, a, b, h, g, rfl, ha, hb, wh, wg, sm, l1, l2, hq⟩ := h
   walk_at "g"
   refine ⟨N1, N2, a, b, h, g, rfl, ha, hb, l1, l2, fun H1 s1 => ?_⟩
   walk_at "g"
   refine q_dec (fun c => ?_) (fun c => ?_)
   · obtain ⟨a', kvs, ea, _, hra, tka⟩ := ha.dicAt
     cases ea
     obtain ⟨b', kb, eb, _, hrb, tkb⟩ := hb.dicAt
     cases eb
     have hlen : kvs.length = h.length := by rw [tka.length]; exact List.length_map _
     walk_at "g"
     refine q_lockE (Sm.rd s1 hra) fun Hl od un Q' lkd hQ' => ?_
     walk_at "g"
     refine q_keys ?_
     walk_at "g"
     refine q_keysE lkd.at_ ?_
     intro d hd
     have rs0 : RS H Hl := (RS.of s1).trans lkd.rs
     have hda : d ≠ a := ne_of_none lkd.at_ hd |>.symm
     refine lc_any (walk_keys (d := a) (o := od) (kvs := kvs)) (fun i Hx => Same Hl Hx ∧ Hx d = some (.lst (((h.take i).map (eqTb g)).map V.bl))) ?_ ?_ ?_ ?_
     · exact ⟨same_new hd, upd_same⟩
     · rintro i Hx _ ⟨sx, _⟩
       exact sx _ _ lkd.at_
     · rintro i x Hx' Hx hi ⟨sx, ex⟩ ⟨rfl, k, v, hkv, rfl⟩
       obtain ⟨d0, g1, g2⟩ := Tk.at tka hkv
       obtain ⟨n, t, hn, rfl, rfl⟩ := hK_at g1
       have hm := mem_at hn
       have hng : n ∈ nms g := (srt_perm _).mem_iff.mp (by rw [← c]; exact (srt_perm _).mem_iff.mpr (mem_nms hm))
       obtain ⟨u, hu⟩ := lk_mem_nms hng
       have hlk : lk h n = some t := lk_of_mem wh.nd hm
       obtain ⟨qa, ea, hva, _, hqa, tqa⟩ := T.tab tka hlk
       obtain ⟨qb, eb, hvb, _, hqb, tqb⟩ := T.tab tkb hu
       have rs := rs0.trans (RS.of sx)
       have wt := wh.tab _ hm
       have wu := wg.tab _ (lk_mem hu)
       have hi40 : i < 40 := by omega
       walk_at "g"
       refine ⟨rfl, ?_⟩
       walk_at "g"
       refine q_ixK (.inr n) (rs.dk hra) hva ?_
       walk_at "g"
       refine q_ixK (.inr n) (rs.dk hrb) hvb ?_
       refine q_eqK (P := ff) (rs.dk hqa) (rs.dk hqb) ((tqa.rs rs).imm wt.2) ((tqb.rs rs).imm wu.2) (fun p hp => ?_) (fun p hp => ?_) ?_
       · obtain ⟨y, hy, e⟩ := mem_tK hp
         rw [e]
         exact wh.ent sm hm y hy
       · obtain ⟨y, hy, e⟩ := mem_tK hp
         rw [e]
         exact nod_of_imm (wu.2 y hy)
       · refine ⟨_, ex, by rw [List.length_map, List.length_map, List.length_take]; exact len_small (by omega), fun z o e => ?_, ?_⟩
         · rw [upd_ne (ne_of_none e hd)]
           exact sx _ _ e
         · have e5 : eqTb g (n, t) = eqk (tK t) (tK u) := by
             unfold eqTb
             rw [hu]
           rw [upd_same, take_more hn, List.map_append, List.map_append, ← e5]
           rfl
     · rintro Hx ⟨sx, ex⟩
       rw [hlen, List.take_length] at ex
       refine hQ' _ _ (sx _ _ lkd.at_) ?_
       refine ⟨d, h.map (eqTb g), rfl, .inl (.inl (by rw [lkd.un _ _ hda]; exact ex)), ?_⟩
       have e6 : eqHs h g = (h.map (eqTb g)).all id := by
         unfold eqHs
         rw [decide_eq_true c, Bool.true_and, List.all_map]
         rfl
       rw [← e6]
       exact hq _ (s1.trans (lkd.same sx))
   · have e6 : eqHs h g = false := by
       unfold eqHs
       rw [decide_eq_false c, Bool.false_and]
     have := hq _ s1
     rw [e6] at this
     exact this
  case len =>
   obtain ⟨N1, N2, a, b, h, g, rfl, _⟩ := h
   rfl
/-- conflicts(base, one, two), where the tables are the same -/
def spCo (K : PySem.W.Frag) : Sp := fun vs H Q _ => ∃ (N : Addr → Prop) (a b c : Addr) (h o t : Hs), vs = [.ref a, .ref b, .ref c] ∧ T K H N (.ref a) (.dic (hK h)) ∧ T K H N (.ref b) (.dic (hK o)) ∧ T K H N (.ref c) (.dic (hK t)) ∧
  MOk h ∧ MOk o ∧ MOk t ∧ h.length ≤ 40 ∧ o.length ≤ 40 ∧ t.length ≤ 40 ∧ (srt (nms h) = srt (nms o) ∧ srt (nms h) = srt (nms t)) ∧
  ∀ l ys H', Same H H' → H' l = some (.lst ys) → Ts K H' ff ys ((srtP (mCs h o t)).map pr) → Q (.ref l) H'
theorem sc_conflicts : FnScope ["base", "one", "two"] ["base", "one", "two"] (defScope s_conflicts) := ⟨rfl, rfl, rfl, by decide +kernel, rfl, by decide +kernel, by decide +kernel⟩
theorem d_conflicts (B : Bt mg) (F : TopF K mg "conflicts" s_conflicts ["base", "one", "two"]) (D_merge : Df P w K mg base "merge" ["base", "one", "two"] 5 (spMe K C_Misfit)) : Df P w K mg base "conflicts" ["base", "one", "two"] 6 (spCo K) := by
  refine F.df sc_conflicts (fun vs H Q E h => ?len) (fun f cdv A outer s H vs Q E hr h => ?body)
  case body =>
   have hu := hr.units
   refine ⟨_, (pss_one (ps_ret (pe_ix (k_ix (K := K) rfl hu) (pe_df D_merge (hr.mono (by decide)) (fun σ => passAt (takes_of rfl rfl rfl rfl) σ) (pa_cons (pv 0) (pa_cons (pv 1) (pa_cons (pv 2) pa_nil)))) pe_int (fun _ _ => rfl)))), ?_⟩
   obtain ⟨N, a, b, c, h, o, t, rfl, ha, hb, hc, mh, mo, mt, l1, l2, l3, hk, hq⟩ := h
   walk_at "g"
   refine ⟨N, a, b, c, h, o, t, rfl, ha, hb, hc, mh, mo, mt, l1, l2, l3, fun _ p r l ys H1 s1 hp ho hl _ hy => ?_, fun z => absurd hk z⟩
   walk_at "g"
   refine q_ixT hp (atI_nat (j := 1) rfl) ?_
   exact hq l ys H1 s1 hl hy
  case len =>
   obtain ⟨N, a, b, c, h, o, t, rfl, _⟩ := h
   rfl
/-- is_merge(base, one, two, house), where the tables of the three are the same -/
def spIM (K : PySem.W.Frag) : Sp := fun vs H Q _ => ∃ (N N2 : Addr → Prop) (a b c d : Addr) (h o t g : Hs), vs = [.ref a, .ref b, .ref c, .ref d] ∧ T K H N (.ref a) (.dic (hK h)) ∧ T K H N (.ref b) (.dic (hK o)) ∧ T K H N (.ref c) (.dic (hK t)) ∧ T K H N2 (.ref d) (.dic (hK g)) ∧
  MOk h ∧ MOk o ∧ MOk t ∧ h.length ≤ 40 ∧ o.length ≤ 40 ∧ t.length ≤ 40 ∧ (srt (nms h) = srt (nms o) ∧ srt (nms h) = srt (nms t)) ∧ Wf g ∧ g.length ≤ 40 ∧ Wf (mHs h o t) ∧ Sml (mHs h o t) ∧
  ∀ H', Same H H' → Q (.bl (decide (mCs h o t = []) && eqHs (mHs h o t) g)) H'
theorem srtP_nil {l : List SP} : srtP l = [] ↔ l = [] := by
  constructor
  · intro h
    have := (srtP_perm l).length_eq
    rw [h] at this
    exact List.length_eq_zero_iff.mp this.symm
  · intro h
    rw [h]
    rfl
theorem eqb_prs (l : List SP) : eqb (.lst (l.map pr)) (.lst []) = decide (l = []) := by
  cases l with
  | nil => rfl
  | cons p l => rfl
theorem nod_prs (l : List SP) : TU.nod (.lst (l.map pr)) = true := by
  simp only [TU.nod]
  exact nods_all fun d hd => by
    obtain ⟨p, _, rfl⟩ := List.mem_map.mp hd
    rfl
theorem dep_prs (l : List SP) : TU.dep (.lst (l.map pr)) ≤ 60 := by
  have : deps (l.map pr) ≤ 1 := deps_all fun d hd => by
    obtain ⟨p, _, rfl⟩ := List.mem_map.mp hd
    exact (show 1 ≤ 1 by decide)
  simp only [TU.dep]
  omega
theorem sc_is_merge : FnScope ["base", "one", "two", "house", "right", "met"] ["base", "one", "two", "house"] (defScope s_is_merge) := ⟨rfl, rfl, rfl, by decide +kernel, rfl, by decide +kernel, by decide +kernel⟩
theorem d_is_merge (B : Bt mg) (F : TopF K mg "is_merge" s_is_merge ["base", "one", "two", "house"]) (D_same_house : Df P w K mg base "same_house" ["house", "other"] 2 (spSHo K)) (D_merge : Df P w K mg base "merge" ["base", "one", "two"] 5 (spMe K C_Misfit)) : Df P w K mg base "is_merge" ["base", "one", "two", "house"] 6 (spIM K) := by
  refine F.df sc_is_merge (fun vs H Q E h => ?len) (fun f cdv A outer s H vs Q E hr h => ?body)
  case body =>
   have hu := hr.units
   refine ⟨_, (pss_cons (ps_asg (pe_df D_merge (hr.mono (by decide)) (fun σ => passAt (takes_of rfl rfl rfl rfl) σ) (pa_cons (pv 0) (pa_cons (pv 1) (pa_cons (pv 2) pa_nil)))) (k_tup (K := K) rfl (by rfl) (pgs_cons (pg_name (i := 4) sc_is_merge.nd rfl (Or.inl rfl)) (pgs_cons (pg_name (i := 5) sc_is_merge.nd rfl (Or.inl rfl)) pgs_nil))))
      (pss_one (ps_ret (pe_and (pe_cmpR (k_eq (K := K) rfl hu) (pv 5) (pe_lst pa_nil) (nomark _)) (pe_one (pe_df D_same_house (hr.mono (by decide)) (fun σ => passAt (takes_of rfl rfl rfl rfl) σ) (pa_cons (pv 4) (pa_cons (pv 3) pa_nil)))))))), ?_⟩
   obtain ⟨N, N2, a, b, c, d, h, o, t, g, rfl, ha, hb, hc, hd, mh, mo, mt, l1, l2, l3, hk, wg, l4, wm, sm, hq⟩ := h
   walk_at "g"
   refine ⟨N, a, b, c, h, o, t, rfl, ha, hb, hc, mh, mo, mt, l1, l2, l3, fun _ p r l ys H1 s1 hp ho hl _ hy => ?_, fun z => absurd hk z⟩
   walk_at "g"
   refine q_gtup hp rfl (q_gcons ?_)
   walk_at "g"
   refine q_gcons ?_
   walk_at "g"
   refine q_gnil ?_
   walk_at "g"
   intro q hq1
   have s2 := same_new (o := .lst []) hq1
   refine q_eqT (P := fun _ => True) (d := .lst ((srtP (mCs h o t)).map pr)) (e := .lst []) (.lst trivial (.inl (.inl (s2 _ _ hl))) ((hy.mono s2).imp fun _ z => z.elim)) (.lst trivial sq_new .nil) (nod_prs _) rfl (dep_prs _) ?_
   rw [eqb_prs]
   have e1 : decide (srtP (mCs h o t) = []) = decide (mCs h o t = []) := by
     rw [decide_eq_decide]
     exact srtP_nil
   rw [e1]
   walk_at "g"
   refine q_dec (fun c => ?_) (fun c => ?_)
   · walk_at "g"
     refine ⟨_, N2, r, d, mHs h o t, g, rfl, (ho.mono s2).T, (hd.mono s1).mono s2, wm, wg, sm, by rw [← nms_len, nms_mHs, nms_len]; exact l1, l4, fun H3 s3 => ?_⟩
     have := hq H3 ((s1.trans s2).trans s3)
     rw [decide_eq_true c, Bool.true_and] at this
     exact this
   · have := hq _ (s1.trans s2)
     rw [decide_eq_false c, Bool.false_and] at this
     exact this
  case len =>
   obtain ⟨N, N2, a, b, c, d, h, o, t, g, rfl, _⟩ := h
   rfl

/-- _law_jar(script): a list of numbers below 1000 -/
def spJar (K : PySem.W.Frag) : Sp := fun vs H Q _ => ∃ (a : Addr) (ns : List Int), vs = [.ref a] ∧ SqL K H a (ns.map V.int) ∧ ns.length ≤ 63 ∧
  ∀ (r : Addr) (H' : Hp) (ms : List Int), Same H H' → H r = none → H' r = some (.lst (ms.map V.int)) → ms.length ≤ 2000 → (∀ m ∈ ms, (0 : Int) ≤ m ∧ m < 1000) → Q (.ref r) H'
theorem cut_ints {ns : List Int} {lo hi : Option Int} {i : Nat} {x : V} (h : (cutV (ns.map V.int) lo hi)[i]? = some x) : ∃ n, x = .int n := by
  have m : x ∈ cutV (ns.map V.int) lo hi := mem_at h
  unfold cutV at m
  obtain ⟨n, _, e⟩ := List.mem_map.mp (List.mem_of_mem_drop (List.mem_of_mem_take m))
  exact ⟨n, e.symm⟩
theorem ints_snoc (ms : List Int) (x : Int) : ms.map V.int ++ [V.int x] = (ms ++ [x]).map V.int := by rw [List.map_append] <;> rfl
theorem snoc_bound {ms : List Int} {x : Int} (h : ∀ m ∈ ms, (0 : Int) ≤ m ∧ m < 1000) (hx : 0 ≤ x ∧ x < 1000) : ∀ m ∈ ms ++ [x], (0 : Int) ≤ m ∧ m < 1000 := fun m hm => by
  rcases List.mem_append.mp hm with q | q
  · exact h m q
  · rw [List.mem_singleton.mp q]
    exact hx
theorem sc_law_jar : FnScope ["script", "jar", "at", "cell", "number", "k", "low"] ["script"] (defScope s_law_jar) := ⟨rfl, rfl, rfl, by decide +kernel, rfl, by decide +kernel, by decide +kernel⟩
theorem d_law_jar (B : Bt mg) (F : TopF K mg "_law_jar" s_law_jar ["script"]) : Df P w K mg base "_law_jar" ["script"] 1 (spJar K) := by
  refine F.df sc_law_jar (fun vs H Q E h => ?len) (fun f cdv A outer s H vs Q E hr h => ?body)
  case body =>
   have hu := hr.units
   refine ⟨_, (pss_cons (ps_set (i := 1) sc_law_jar.nd rfl (Or.inl rfl) (pe_lst pa_nil))
      (pss_cons (ps_set (i := 2) sc_law_jar.nd rfl (Or.inl rfl) pe_int)
      (pss_cons (ps_lockU (ps_for (passes_of rfl) rfl (k_walk (K := K) rfl (pe_slice (k_sl (K := K) rfl) (pv 0) po_none (po_some pe_int))) (pg_name (i := 3) sc_law_jar.nd rfl (Or.inl rfl))
      (pss_cons (ps_set (i := 2) sc_law_jar.nd rfl (Or.inl rfl) (pe_op (k_add (K := K) rfl) (pv 2) pe_int))
      (pss_cons (ps_set (i := 4) sc_law_jar.nd rfl (Or.inl rfl) (pe_callB k_abs (by rfl) B.b_abs (by decide +kernel) (pa_cons (pe_callTy k_int (by rfl) B.b_int (by decide +kernel) (pa_cons (pv 3) pa_nil)) pa_nil)))
      (pss_one (ps_if (pt_cmpR op_ge (pv 4) pe_int (nomark _))
      (pss_one (ps_for (passes_of rfl) rfl (pi_range1 (by rfl) B.b_range (pa_cons pe_int pa_nil)) (pg_name (i := 5) sc_law_jar.nd rfl (Or.inl rfl))
      (pss_one (ps_if (pt_cmpR op_gt (pv 4) pe_int (nomark _))
      (pss_cons (ps_expr (k_append (K := K) rfl (pv 1) (pa_cons (pe_op op_modN (pv 4) pe_int) pa_nil)))
      (pss_one (ps_set (i := 4) sc_law_jar.nd rfl (Or.inl rfl) (pe_op op_fdivN (pv 4) pe_int))))
      pss_nil))))
      (pss_cons (ps_set (i := 6) sc_law_jar.nd rfl (Or.inl rfl) (pe_op op_modN (pv 4) pe_int))
      (pss_cons (ps_expr (k_append (K := K) rfl (pv 1) (pa_cons (pe_op op_modN (pv 6) pe_int) pa_nil)))
      (pss_cons (ps_expr (k_append (K := K) rfl (pv 1) (pa_cons (pe_op op_modN (pe_op op_mul (pv 6) (pe_op (k_add (K := K) rfl) (pv 6) (pe_op op_mul pe_int (pv 2)))) pe_int) pa_nil)))
      (pss_one (ps_expr (k_append (K := K) rfl (pv 1) (pa_cons (pe_op op_modN (pe_op op_fdivN (pe_op op_mul (pv 6) (pe_op (k_add (K := K) rfl) pe_int (pv 2))) pe_int) pe_int) pa_nil)))))))))))))
      (pss_one (ps_ret (pv 1)))))), ?_⟩
   obtain ⟨a, ns, rfl, ha, hns, hq⟩ := h
   walk_at "g"
   intro r hr1
   have s1 : Same H (upd H r (.lst [])) := same_new hr1
   walk_at "g"
   refine .inl ?_
   walk_at "g"
   refine q_items ?_
   walk_at "g"
   refine q_slL (Sm.sqL s1 ha) fun p hp => ?_
   generalize hxs : cutV (ns.map V.int) none (some 63) = xs
   have hxl : xs.length ≤ 63 := by
     rw [← hxs]
     have := cutV_length (ns.map V.int) none (some 63)
     rw [List.length_map] at this
     omega
   have hrp : r ≠ p := ne_of_none (H := upd H r (.lst [])) upd_same hp
   have s2 : Same (upd H r (.lst [])) (upd (upd H r (.lst [])) p (.lst xs)) := same_new hp
   refine q_itemsE sq_new ?_
   refine for_items (xs := xs) (fun i σ Hi => ∃ (v3 v4 v5 v6 : Option V) (ms : List Int), σ = [some (.ref a), some (.ref r), some (.int i), v3, v4, v5, v6] ∧ Same H Hi ∧ SqL K Hi p xs ∧ Hi r = some (.lst (ms.map V.int)) ∧ ms.length ≤ 20 * i ∧ ∀ m ∈ ms, (0 : Int) ≤ m ∧ m < 1000) ?_ ?_ ?_ ?_
   · exact ⟨none, none, none, none, [], rfl, s1.trans s2, sq_new, s2 _ _ upd_same, Nat.le_refl _, fun m hm => by cases hm⟩
   · rintro i σ Hi _ ⟨v3, v4, v5, v6, ms, rfl, si, sq, _⟩
     exact sq
   · rintro i x σ Hi hx ⟨v3, v4, v5, v6, ms, rfl, si, sq, er, hl, hb⟩
     obtain ⟨c, rfl⟩ : ∃ n, x = .int n := by
       rw [← hxs] at hx
       exact cut_ints hx
     have hi : i < 63 := Nat.lt_of_lt_of_le (List.getElem?_eq_some_iff.mp hx).1 hxl
     have step : ∀ {H2 : Hp} {o : HO}, Same H H2 → SqL K H2 p xs → H2 r = some o → (∀ u v, o ≠ .frz u v) → ∀ o', Same H (upd H2 r o') ∧ SqL K (upd H2 r o') p xs := fun {H2 o} s q e nf o' =>
       ⟨fun z u ez => by
         rw [upd_ne (ne_of_none ez hr1)]
         exact s z u ez, sqL_keep keeps_upd hrp.symm q⟩
     walk_at "g"
     refine q_intI ?_
     walk_at "g"
     refine q_abs ?_
     walk_at "g"
     generalize hn : (if c < 0 then -c else c) = n
     have hn0 : 0 ≤ n := by
       rw [← hn]
       split <;> omega
     refine q_dec (fun _ => ?_) (fun hlt => ?_)
     · -- a large number
       walk_at "g"
       refine ⟨20, rfl, by decide, by decide, ?_⟩
       refine for_rng (lo := 0) (n := 20) (fun k σ Hk => ∃ (n : Int) (v5 : Option V) (ms : List Int), σ = [some (.ref a), some (.ref r), some (.int (i + 1)), some (.int c), some (.int n), v5, v6] ∧ 0 ≤ n ∧ Same H Hk ∧ SqL K Hk p xs ∧ Hk r = some (.lst (ms.map V.int)) ∧ ms.length ≤ 20 * i + k ∧ ∀ m ∈ ms, (0 : Int) ≤ m ∧ m < 1000) ?_ ?_ ?_
       · exact ⟨n, v5, ms, rfl, hn0, si, sq, er, hl, hb⟩
       · rintro k σ Hk hk ⟨n, v5, ms, rfl, hn0, sk, sqk, ek, hlk, hbk⟩
         walk_at "g"
         refine q_dec (fun hpos => ?_) (fun _ => ?_)
         · walk_at "g"
           refine tyL ek ?_
           walk_at "g"
           refine q_I (by decide) ?_
           walk_at "g"
           refine q_append ek (by rw [List.length_map]; exact len_small (by omega)) ?_
           rw [ints_snoc]
           obtain ⟨z1, z2⟩ := step sk sqk ek (fun _ _ z => nomatch z) (.lst ((ms ++ [n.fmod 1000]).map V.int))
           walk_at "g"
           refine q_I ⟨by decide, by decide⟩ ?_
           walk_at "g"
           refine ⟨_, _, _, rfl, (fdiv_le (by decide) hn0).1, z1, z2, upd_same, ?_, snoc_bound hbk (fmod_lt (by decide))⟩
           rw [List.length_append]
           show ms.length + 1 ≤ _
           omega
         · walk_at "g"
           exact ⟨n, _, ms, rfl, hn0, sk, sqk, ek, by omega, hbk⟩
       · rintro σ Hk ⟨n, v5, ms, rfl, hn0, sk, sqk, ek, hlk, hbk⟩
         walk_at "g"
         exact ⟨some (.int c), some (.int n), v5, v6, ms, rfl, sk, sqk, ek, by omega, hbk⟩
     · walk_at "g"
       refine q_I (by decide) ?_
       walk_at "g"
       obtain ⟨l0, l1⟩ := fmod_lt (a := n) (b := 1000003) (by decide)
       generalize n.fmod 1000003 = low at l0 l1
       refine tyL er ?_
       walk_at "g"
       refine q_I (by decide) ?_
       walk_at "g"
       refine q_append er (by rw [List.length_map]; exact len_small (by omega)) ?_
       rw [ints_snoc]
       obtain ⟨z1, z2⟩ := step si sq er (fun _ _ z => nomatch z) (.lst ((ms ++ [low.fmod 1000]).map V.int))
       generalize hH1 : upd Hi r (.lst ((ms ++ [low.fmod 1000]).map V.int)) = Ha at z1 z2
       have ea : Ha r = some (.lst ((ms ++ [low.fmod 1000]).map V.int)) := by rw [← hH1]; exact upd_same
       have ba := snoc_bound hb (fmod_lt (a := low) (b := 1000) (by decide))
       have la : (ms ++ [low.fmod 1000]).length ≤ 20 * i + 1 := by
         rw [List.length_append]
         show ms.length + 1 ≤ _
         omega
       generalize ms ++ [low.fmod 1000] = msa at ea ba la
       walk_at "g"
       refine tyL ea ?_
       walk_at "g"
       refine q_I (.inl ⟨by decide, by decide⟩) ?_
       walk_at "g"
       refine q_I (.inl ⟨by omega, by omega⟩) ?_
       walk_at "g"
       refine q_I (by decide) ?_
       walk_at "g"
       obtain ⟨y0, y1⟩ := fmod_lt (a := low * (low + 7 * (i + 1))) (b := 991) (by decide)
       generalize (low * (low + 7 * (↑i + 1))).fmod 991 = y at y0 y1
       refine q_append ea (by rw [List.length_map]; exact len_small (by omega)) ?_
       rw [ints_snoc]
       obtain ⟨z3, z4⟩ := step z1 z2 ea (fun _ _ z => nomatch z) (.lst ((msa ++ [y]).map V.int))
       generalize hH2 : upd Ha r (.lst ((msa ++ [y]).map V.int)) = Hb at z3 z4
       have eb : Hb r = some (.lst ((msa ++ [y]).map V.int)) := by rw [← hH2]; exact upd_same
       have bb := snoc_bound ba (x := y) ⟨y0, by omega⟩
       have lb : (msa ++ [y]).length ≤ 20 * i + 2 := by
         rw [List.length_append]
         show msa.length + 1 ≤ _
         omega
       generalize msa ++ [y] = msb at eb bb lb
       walk_at "g"
       refine tyL eb ?_
       walk_at "g"
       refine q_I (.inl ⟨by omega, by omega⟩) ?_
       walk_at "g"
       refine q_I ⟨by decide, by decide⟩ ?_
       walk_at "g"
       refine q_I (by decide) ?_
       walk_at "g"
       obtain ⟨x0, x1⟩ := fmod_lt (a := (low * (31 + (i + 1))).fdiv 7) (b := 997) (by decide)
       generalize ((low * (31 + (↑i + 1))).fdiv 7).fmod 997 = x at x0 x1
       refine q_append eb (by rw [List.length_map]; exact len_small (by omega)) ?_
       rw [ints_snoc]
       obtain ⟨z5, z6⟩ := step z3 z4 eb (fun _ _ z => nomatch z) (.lst ((msb ++ [x]).map V.int))
       walk_at "g"
       refine ⟨_, _, _, _, msb ++ [x], rfl, z5, z6, upd_same, ?_, snoc_bound bb ⟨x0, by omega⟩⟩
       rw [List.length_append]
       show msb.length + 1 ≤ _
       omega
   · rintro σ Hi ⟨v3, v4, v5, v6, ms, rfl, si, sq, er, hl, hb⟩
     walk_at "g"
     exact hq r Hi ms si hr1 er (by omega) hb
  case len =>
   obtain ⟨a, ns, rfl, _⟩ := h
   rfl

abbrev lim : Int := 1000000000000
/-- _law_draw(jar, at, many): a number from 0 to many - 1, the place goes on -/
def spDraw : Sp := fun vs H Q _ => ∃ (j a : Addr) (p many : Int), vs = [.ref j, .ref a, .int many] ∧ Rnd H j a p ∧ p ≤ lim ∧ 0 < many ∧
  ∀ v p', 0 ≤ v → v < many → p ≤ p' → p' ≤ p + 1 → Q (.int v) (upd H a (.lst [.int p']))
theorem atI_int {ns : List Int} {p : Int} (h0 : 0 ≤ p) (h1 : p < ns.length) : ∃ n ∈ ns, atI (ns.map V.int) p = some (.int n) := by
  obtain ⟨k, rfl⟩ : ∃ k : Nat, p = k := ⟨p.toNat, by omega⟩
  have hk : k < ns.length := by omega
  exact ⟨ns[k], List.getElem_mem hk, atI_nat (by rw [List.getElem?_map, List.getElem?_eq_getElem hk]; rfl)⟩
theorem sc_law_draw : FnScope ["jar", "at", "many", "place"] ["jar", "at", "many"] (defScope s_law_draw) := ⟨rfl, rfl, rfl, by decide +kernel, rfl, by decide +kernel, by decide +kernel⟩
theorem d_law_draw (B : Bt mg) (F : TopF K mg "_law_draw" s_law_draw ["jar", "at", "many"]) : Df P w K mg base "_law_draw" ["jar", "at", "many"] 1 (spDraw) := by
  refine F.df sc_law_draw (fun vs H Q E h => ?len) (fun f cdv A outer s H vs Q E hr h => ?body)
  case body =>
   have hu := hr.units
   refine ⟨_, (pss_cons (ps_if (pt_cmpR (k_eq (K := K) rfl hu) (pe_callB (k_len (K := K) rfl) (by rfl) B.b_len (by decide +kernel) (pa_cons (pv 0) pa_nil)) pe_int (nomark _))
      (pss_one (ps_ret pe_int))
      pss_nil)
      (pss_cons (ps_set (i := 3) sc_law_draw.nd rfl (Or.inl rfl) (pe_ix (k_ix (K := K) rfl hu) (pv 1) pe_int (fun _ _ => rfl)))
      (pss_cons (ps_asg (pe_op (k_add (K := K) rfl) (pv 3) pe_int) (pg_sub (pv 1) pe_int (set_any hu)))
      (pss_cons (ps_if (pt_cmpR op_lt (pv 3) (pe_callB (k_len (K := K) rfl) (by rfl) B.b_len (by decide +kernel) (pa_cons (pv 0) pa_nil)) (nomark _))
      (pss_one (ps_ret (pe_op op_modN (pe_callTy k_int (by rfl) B.b_int (by decide +kernel) (pa_cons (pe_ix (k_ix (K := K) rfl hu) (pv 0) (pv 3) (fun _ _ => rfl)) pa_nil)) (pv 2))))
      pss_nil)
      (pss_one (ps_ret (pe_op op_modN (pe_op op_modN (pe_callTy k_int (by rfl) B.b_int (by decide +kernel) (pa_cons (pe_op (k_add (K := K) rfl) (pe_op (k_add (K := K) rfl) (pe_op op_mul (pe_ix (k_ix (K := K) rfl hu) (pv 0) (pe_op op_modN (pe_callTy k_int (by rfl) B.b_int (by decide +kernel) (pa_cons (pv 3) pa_nil)) (pe_callB (k_len (K := K) rfl) (by rfl) B.b_len (by decide +kernel) (pa_cons (pv 0) pa_nil))) (fun _ _ => rfl)) pe_int) (pe_op op_mul (pv 3) pe_int)) (pe_op op_mul (pe_op op_fdivN (pv 3) (pe_callB (k_len (K := K) rfl) (by rfl) B.b_len (by decide +kernel) (pa_cons (pv 0) pa_nil))) pe_int)) pa_nil)) pe_int) (pv 2)))))))), ?_⟩
   obtain ⟨j, a, p, many, rfl, hR, hp, hm, hq⟩ := h
   obtain ⟨ns, e1, l1, b1⟩ := hR.ex
   have p0 := hR.p0
   have ea := hR.at_
   walk_at "g"
   refine q_lenL (.inl (.inl e1)) ?_
   walk_at "g"
   rw [List.length_map]
   refine q_dec (fun h0 => ?_) (fun h0 => ?_)
   · walk_at "g"
     have := hq 0 p (Int.le_refl 0) hm (Int.le_refl p) (by omega)
     rw [upd_self ea] at this
     exact this
   · walk_at "g"
     refine q_ixL (.inl (.inl ea)) (atI_nat (j := 0) rfl) ?_
     walk_at "g"
     refine q_setL (j := 0) ea rfl ?_
     have hh := hq
     have e2 : (upd H a (.lst [.int (p + 1)])) j = some (.lst (ns.map V.int)) := by rw [upd_ne hR.ne]; exact e1
     walk_at "g"
     refine q_lenL (.inl (.inl e2)) ?_
     walk_at "g"
     rw [List.length_map]
     refine q_dec (fun h1 => ?_) (fun h1 => ?_)
     · obtain ⟨n, hn, hat⟩ := atI_int p0 h1
       walk_at "g"
       refine q_ixL (.inl (.inl e2)) hat ?_
       walk_at "g"
       refine q_intI ?_
       walk_at "g"
       refine q_I (show many ≠ 0 by omega) ?_
       obtain ⟨z1, z2⟩ := fmod_lt (a := n) hm
       exact hq _ (p + 1) z1 z2 (by omega) (by omega)
     · walk_at "g"
       refine q_intI ?_
       walk_at "g"
       refine q_lenL (.inl (.inl e2)) ?_
       have hl0 : (0 : Int) < ns.length := by omega
       walk_at "g"
       rw [List.length_map]
       refine q_I (show (ns.length : Int) ≠ 0 by omega) ?_
       walk_at "g"
       obtain ⟨z1, z2⟩ := fmod_lt (a := p) hl0
       obtain ⟨n, hn, hat⟩ := atI_int z1 z2
       have hb := b1 n hn
       refine q_ixL (.inl (.inl e2)) hat ?_
       walk_at "g"
       refine q_I (.inr ⟨by decide, by decide⟩) ?_
       walk_at "g"
       refine q_I (.inr ⟨by decide, by decide⟩) ?_
       walk_at "g"
       refine q_lenL (.inl (.inl e2)) ?_
       walk_at "g"
       rw [List.length_map]
       refine q_I ⟨show (ns.length : Int) ≠ 0 by omega, by omega⟩ ?_
       walk_at "g"
       refine q_I (.inr ⟨by decide, by decide⟩) ?_
       walk_at "g"
       refine q_intI ?_
       walk_at "g"
       refine q_I (by decide) ?_
       walk_at "g"
       refine q_I (show many ≠ 0 by omega) ?_
       generalize ((n * 61 + p * 37 + p.fdiv ↑(List.length ns) * 11).fmod 983) = y
       obtain ⟨z1, z2⟩ := fmod_lt (a := y) hm
       exact hq _ (p + 1) z1 z2 (by omega) (by omega)
  case len =>
   obtain ⟨j, a, p, many, rfl, _⟩ := h
   rfl
/-- an entry that is drawn -/
inductive Ent : Tr → Prop
  | int (i : Int) : 1 ≤ i → i ≤ 3 → Ent (.int i)
  | tup (k : Int) : 0 ≤ k → k < 3 → Ent (.tup [.str "b", .int k])
  | word : Ent (.str "word")
theorem Ent.imm {d : Tr} (h : Ent d) : imm d = true := by
  cases h <;> rfl
/-- _law_entry(jar, at) -/
def spEnt (K : PySem.W.Frag) : Sp := fun vs H Q _ => ∃ (j a : Addr) (p : Int), vs = [.ref j, .ref a] ∧ Rnd H j a p ∧ p + 1 ≤ lim ∧
  ∀ v d H' p', Ent d → Kp a H H' → Rnd H' j a p' → p ≤ p' → p' ≤ p + 2 → T K H' ff v d → Q v H'
theorem sc_law_entry : FnScope ["jar", "at", "pick"] ["jar", "at"] (defScope s_law_entry) := ⟨rfl, rfl, rfl, by decide +kernel, rfl, by decide +kernel, by decide +kernel⟩
theorem d_law_entry (B : Bt mg) (F : TopF K mg "_law_entry" s_law_entry ["jar", "at"]) (D_law_draw : Df P w K mg base "_law_draw" ["jar", "at", "many"] 1 (spDraw)) : Df P w K mg base "_law_entry" ["jar", "at"] 2 (spEnt K) := by
  refine F.df sc_law_entry (fun vs H Q E h => ?len) (fun f cdv A outer s H vs Q E hr h => ?body)
  case body =>
   have hu := hr.units
   refine ⟨_, (pss_cons (ps_set (i := 2) sc_law_entry.nd rfl (Or.inl rfl) (pe_df D_law_draw (hr.mono (by decide)) (fun σ => passAt (takes_of rfl rfl rfl rfl) σ) (pa_cons (pv 0) (pa_cons (pv 1) (pa_cons pe_int pa_nil)))))
      (pss_cons (ps_if (pt_cmpR op_lt (pv 2) pe_int (nomark _))
      (pss_one (ps_ret (pe_op (k_add (K := K) rfl) (pv 2) pe_int)))
      pss_nil)
      (pss_cons (ps_if (pt_cmpR (k_eq (K := K) rfl hu) (pv 2) pe_int (nomark _))
      (pss_one (ps_ret (pe_tup (pa_cons pe_str (pa_cons (pe_df D_law_draw (hr.mono (by decide)) (fun σ => passAt (takes_of rfl rfl rfl rfl) σ) (pa_cons (pv 0) (pa_cons (pv 1) (pa_cons pe_int pa_nil)))) pa_nil)))))
      pss_nil)
      (pss_one (ps_ret pe_str))))), ?_⟩
   obtain ⟨j, a, p, rfl, hR, hp, hq⟩ := h
   have p0 := hR.p0
   walk_at "g"
   refine ⟨j, a, p, 5, rfl, hR, by omega, by decide, fun v p1 v0 v1 h1 h2 => ?_⟩
   have R1 := hR.set (p' := p1) (by omega)
   have k1 : Kp a H (upd H a (.lst [.int p1])) := Kp.upd
   walk_at "g"
   refine q_dec (fun c => ?_) (fun c => ?_)
   · walk_at "g"
     exact hq _ (.int (v + 1)) _ p1 (.int _ (by omega) (by omega)) k1 R1 h1 (by omega) (.int _)
   · walk_at "g"
     refine q_dec (fun c2 => ?_) (fun c2 => ?_)
     · walk_at "g"
       refine ⟨j, a, p1, 3, rfl, R1, by omega, by decide, fun w p2 w0 w1 g1 g2 => ?_⟩
       have R2 := R1.set (p' := p2) (by omega)
       walk_at "g"
       intro t ht
       refine hq _ (.tup [.str "b", .int w]) _ p2 (.tup w w0 w1) ((k1.trans Kp.upd).new ?_) (R2.same (same_new ht)) (by omega) (by omega) (.tup st_new (.cons (.str _) (.cons (.int _) .nil)))
       cases z : H t with
       | none => rfl
       | some o =>
         by_cases hta : t = a
         · rw [hta, upd_same] at ht
           cases ht
         · rw [upd_ne hta, upd_ne hta, z] at ht
           cases ht
     · walk_at "g"
       exact hq _ (.str "word") _ p1 .word k1 R1 h1 (by omega) (.str _)
  case len =>
   obtain ⟨j, a, p, rfl, _⟩ := h
   rfl

-- _law_copy(house): as copy_house
theorem sc_law_copy : FnScope ["house", "found", "key", "name"] ["house"] (defScope s_law_copy) := ⟨rfl, rfl, rfl, by decide +kernel, rfl, by decide +kernel, by decide +kernel⟩
theorem d_law_copy (B : Bt mg) (F : TopF K mg "_law_copy" s_law_copy ["house"]) : Df P w K mg base "_law_copy" ["house"] 1 (spCH K) := by
  refine F.df sc_law_copy (fun vs H Q E h => ?len) (fun f cdv A outer s H vs Q E hr h => ?body)
  case body =>
   have hu := hr.units
   refine ⟨_, (pss_cons (ps_set (i := 1) sc_law_copy.nd rfl (Or.inl rfl) pe_dnewK)
      (pss_cons (ps_lockU (ps_for (passes_of rfl) rfl (k_walk (K := K) rfl (pv 0)) (pg_name (i := 2) sc_law_copy.nd rfl (Or.inl rfl))
      (pss_cons (ps_asg pe_dnewK (pg_sub (pv 1) (pv 2) (set_any hu)))
      (pss_one (ps_for (passes_of rfl) rfl (k_walk (K := K) rfl (pe_callB (k_sort (K := K) rfl rfl) (by rfl) B.b_sorted (by decide +kernel) (pa_cons (pe_ix (k_ix (K := K) rfl hu) (pv 0) (pv 2) (fun _ _ => rfl)) pa_nil))) (pg_name (i := 3) sc_law_copy.nd rfl (Or.inl rfl))
      (pss_one (ps_asg (pe_ix (k_ix (K := K) rfl hu) (pe_ix (k_ix (K := K) rfl hu) (pv 0) (pv 2) (fun _ _ => rfl)) (pv 3) (fun _ _ => rfl)) (pg_sub (pe_ix (k_ix (K := K) rfl hu) (pv 1) (pv 2) (fun _ _ => rfl)) (pv 3) (set_any hu)))))))))
      (pss_one (ps_ret (pv 1))))), ?_⟩
   obtain ⟨N, a, h, rfl, ha, wf, fit, hl, hq⟩ := h
   obtain ⟨a', kvs, ea, _, hrd, tk⟩ := ha.dicAt
   cases ea
   walk_at "g"
   intro r hr0
   have s0 : Same H (upd H r (.dK [])) := same_new hr0
   generalize hH0 : upd H r (.dK []) = Hz at s0
   have er0 : Hz r = some (.dK []) := by rw [← hH0]; exact upd_same
   walk_at "g"
   refine q_lockS (Sm.rd s0 hrd) fun Hl od un D' lkd hD' => ?_
   walk_at "g"
   refine q_keys ?_
   walk_at "g"
   refine q_keysE lkd.at_ ?_
   have hlen : kvs.length = h.length := by rw [tk.length]; unfold hK; rw [List.length_map]
   have L0 : Lk1 H a kvs od Hl := ⟨fun b o e n => lkd.l1.keep b o (s0 b o e) n, lkd.at_⟩
   have era : Hl r = some (.dK []) := by rw [lkd.el r (L0.ne hrd hr0)]; exact er0
   refine for_keysS (kvs := kvs) (fun i σ H1 => ∃ (v2 v3 : Option V), σ = [some (.ref a), some (.ref r), v2, v3] ∧ Lk1 H a kvs od H1 ∧ Own K (fun b => H b = none) H1 r (cpH (h.take i))) ?_ ?_ ?_ ?_
   · exact ⟨none, none, rfl, L0, by rw [List.take_zero]; exact Own.nil era hr0⟩
   · rintro i σ H1 _ ⟨v2, v3, rfl, l, _⟩
     exact l.at_
   · rintro i k v σ H1 hkv ⟨v2, v3, rfl, l1, o1⟩
     obtain ⟨d0, g1, g2⟩ := Tk.at tk hkv
     obtain ⟨n, t, hn, rfl, rfl⟩ := hK_at g1
     have hm := mem_at hn
     have wft := wf.tab _ hm
     have ft : t.length ≤ 60 := fit _ hm
     have hlk : lk h n = some t := lk_of_mem wf.nd hm
     obtain ⟨q', es', hv, _, hq2, tkq'⟩ := T.tab tk hlk
     have tkq := (tkq'.imm wft.2 : Tk K H ff es' (tK t))
     have nn : n ∉ nms (cpH (h.take i)) := by
       rw [nms_cpH, nms_take]
       exact nd_at wf.nd (nms_at hn)
     have hil : i < h.length := by
       rw [← hlen]
       exact (List.getElem?_eq_some_iff.mp hkv).1
     walk_at "g"
     intro q hqn
     have s2 : Same H1 (upd H1 q (.dK [])) := same_new hqn
     have hqf := l1.fresh hqn
     obtain ⟨kvs2, k1, k2, k3⟩ := o1.push (t := []) nn hqn hqf s2 upd_same .nil
     have l3 : kvs2.length < sizeLine := by
       rw [k2, len_cp, List.length_take]
       exact len_small (by omega)
     walk_at "g"
     refine q_setD (.inr n) k1 l3 ?_
     have l2 : Lk1 H a kvs od (upd (upd H1 q (.dK [])) r (.dK (putK kvs2 (.inr n) (.ref q)))) := (l1.upd hrd hqf).upd hrd hr0
     generalize hH2 : upd (upd H1 q (.dK [])) r (.dK (putK kvs2 (.inr n) (.ref q))) = H2 at k3 l2
     walk_at "g"
     refine q_items ?_
     walk_at "g"
     refine q_ixK (.inr n) (.inr ⟨od, l2.at_⟩) hv ?_
     walk_at "g"
     refine q_sortD (ks := nms t) ((l2.rs hrd).dk hq2) (by rw [tkq.keys, keys_tK]) (by rw [nms_len]; omega) fun p hp => ?_
     have s3 : Same H2 (upd H2 p (.lst ((srt (nms t)).map V.str))) := same_new hp
     generalize hH3 : upd H2 p (.lst ((srt (nms t)).map V.str)) = H3 at s3
     have ep3 : H3 p = some (.lst ((srt (nms t)).map V.str)) := by rw [← hH3]; exact upd_same
     have l3' := l2.same s3
     have hpf := l2.fresh hp
     refine q_itemsE (.inl (.inl ep3)) ?_
     have nn2 : n ∉ nms (cpH (h.take i)) := nn
     refine for_items (xs := (srt (nms t)).map V.str) (fun jj σ H4 => ∃ (v3 : Option V), σ = [some (.ref a), some (.ref r), some (.str n), v3] ∧ Lk1 H a kvs od H4 ∧ H4 p = some (.lst ((srt (nms t)).map V.str)) ∧ Own K (fun b => H b = none) H4 r (cpH (h.take i) ++ [(n, (ord t).take jj)])) ?_ ?_ ?_ ?_
     · exact ⟨v3, rfl, l3', ep3, by rw [List.take_zero]; exact k3.mono s3⟩
     · rintro jj σ H4 _ ⟨v3, rfl, l4, e4, o4⟩
       exact .inl (.inl e4)
     · rintro jj x σ H4 hx ⟨v3, rfl, l4, e4, o4⟩
       obtain ⟨m, hm2, rfl⟩ := srt_at hx
       obtain ⟨dm, ho, hlm⟩ := ord_at hm2
       obtain ⟨vm, hvm, tvm⟩ := tkq.ent hlm
       obtain ⟨kv4, q4, es4, c1, c2, c3, c4, c5, c6, c7, back⟩ := o4.at (lk_snoc nn)
       have hq4 : es4.length < sizeLine := by
         rw [c4.length]
         unfold tK
         rw [List.length_map, List.length_take, len_ord]
         exact len_small (by omega)
       walk_at "g"
       refine q_ixK (.inr n) (.inr ⟨od, l4.at_⟩) hv ?_
       walk_at "g"
       refine q_ixK (.inr m) ((l4.rs hrd).dk hq2) hvm ?_
       walk_at "g"
       refine q_ixK (.inr n) (.inl c1) c2 ?_
       walk_at "g"
       refine q_setD (.inr m) c3 hq4 ?_
       have nk : (Sum.inr m : Key) ∉ es4.map (·.1) := by
         rw [c4.keys, keys_tK, nms_take, nms_ord]
         exact fun z => nd_at ((srt_perm _).nodup_iff.mpr wft.1) hm2 (inr_mem.mp z)
       have tk5 : Tk K H4 ff (putK es4 (.inr m) vm) (tK ((ord t).take (jj + 1))) := by
         rw [putK_fresh nk, take_more ho, tK_snoc]
         exact c4.append (Tk.cons (k := Sum.inr m) (tvm.rs (l4.rs hrd)) .nil)
       have o5 := back _ _ tk5
       rw [put_snoc nn] at o5
       exact ⟨_, rfl, l4.upd hrd c5, sqL_dk c3 e4, o5⟩
     · rintro σ H4 ⟨v3, rfl, l4, e4, o4⟩
       have hle : (ord t).take ((srt (nms t)).map V.str).length = ord t := by
         rw [List.length_map, (srt_perm _).length_eq, nms_len, ← len_ord t, List.take_length]
       rw [hle] at o4
       refine ⟨some (.str n), v3, rfl, l4, ?_⟩
       rw [cpH_take, take_more (cpH_at hn), ← cpH_take]
       exact o4
   · rintro σ H1 ⟨v2, v3, rfl, l1, o1⟩
     refine hD'.nx _ _ l1.at_ ?_
     rw [hlen, List.take_length] at o1
     walk_at "g"
     exact hq r _ (l1.out lkd s0) (lkd.own (fun b e => l1.ne hrd e) l1.at_ o1)
  case len =>
   obtain ⟨N, a, h, rfl, _⟩ := h
   rfl

/-- _law_after(house, edit), the edit can be applied -/
def spAF (K : PySem.W.Frag) : Sp := fun vs H Q _ => ∃ (N : Addr → Prop) (a : Addr) (v : V) (h h' : Hs) (e : Ed), vs = [.ref a, v] ∧ T K H N (.ref a) (.dic (hK h)) ∧ T K H ff v e.tr ∧
  Wf h ∧ e.Imm ∧ Fits 59 h ∧ h.length ≤ 900 ∧ app1 (cpH h) e = .ok h' ∧ ∀ r H', Same H H' → Own K (fun b => H b = none) H' r (cpH h') → Q (.ref r) H'
theorem sc_law_after : FnScope ["house", "edit", "found"] ["house", "edit"] (defScope s_law_after) := ⟨rfl, rfl, rfl, by decide +kernel, rfl, by decide +kernel, by decide +kernel⟩
theorem d_law_after (B : Bt mg) (F : TopF K mg "_law_after" s_law_after ["house", "edit"]) (D_law_copy : Df P w K mg base "_law_copy" ["house"] 1 (spCH K)) : Df P w K mg base "_law_after" ["house", "edit"] 3 (spAF K) := by
  refine F.df sc_law_after (fun vs H Q E h => ?len) (fun f cdv A outer s H vs Q E hr h => ?body)
  case body =>
   have hu := hr.units
   refine ⟨_, (pss_cons (ps_set (i := 2) sc_law_after.nd rfl (Or.inl rfl) (pe_df D_law_copy (hr.mono (by decide)) (fun σ => passAt (takes_of rfl rfl rfl rfl) σ) (pa_cons (pv 0) pa_nil)))
      (pss_cons (ps_if (pt_cmpR (k_eq (K := K) rfl hu) (pe_ix (k_ix (K := K) rfl hu) (pv 1) pe_int (fun _ _ => rfl)) pe_str (nomark _))
      (pss_one (ps_asg (pe_ix (k_ix (K := K) rfl hu) (pv 1) pe_int (fun _ _ => rfl)) (pg_sub (pe_ix (k_ix (K := K) rfl hu) (pv 2) (pe_ix (k_ix (K := K) rfl hu) (pv 1) pe_int (fun _ _ => rfl)) (fun _ _ => rfl)) (pe_ix (k_ix (K := K) rfl hu) (pv 1) pe_int (fun _ _ => rfl)) (set_any hu))))
      (pss_one (ps_expr (pe_dpop1 (pe_ix (k_ix (K := K) rfl hu) (pv 2) (pe_ix (k_ix (K := K) rfl hu) (pv 1) pe_int (fun _ _ => rfl)) (fun _ _ => rfl)) (pe_ix (k_ix (K := K) rfl hu) (pv 1) pe_int (fun _ _ => rfl)) ⟨rfl, rfl, rfl, rfl⟩))))
      (pss_one (ps_ret (pe_df D_law_copy (hr.mono (by decide)) (fun σ => passAt (takes_of rfl rfl rfl rfl) σ) (pa_cons (pv 2) pa_nil)))))), ?_⟩
   obtain ⟨N, a, v, h, h', e, rfl, ha, he, wf, im, fit, hl, hap, hq⟩ := h
   obtain ⟨w', f', n'⟩ := app1_ok wf.cp im fit.cp hap
   walk_at "g"
   refine ⟨N, a, h, rfl, ha, wf, fun p hp => Nat.le_trans (fit p hp) (by decide), hl, fun r H1 s1 o1 => ?_⟩
   obtain ⟨b, rfl, he'⟩ := Ed.at (he.mono s1)
   cases e1 : lk (cpH h) e.key with
   | none =>
     simp only [app1, e1] at hap
     cases hap
   | some t =>
     obtain ⟨kvs, q, es, h1, h2, h3, h4, nq, nr, ne, back⟩ := o1.at e1
     have hm := lk_mem e1
     have wt := wf.cp.tab _ hm
     have ft : t.length ≤ 59 := fit.cp _ hm
     have hsz : es.length < sizeLine := by
       rw [h4.length]
       unfold tK
       rw [List.length_map]
       exact len_small (by omega)
     have fin : ∀ es', Own K (fun b => H b = none) (upd H1 q (.dK es')) r h' → tRet (tCallS (spCH K) (WE fun cls d _ H => E cls d H) (tCons (tVar 2) tNil)) { nx := fun _ H' => Q .non H', rt := Q } [some (.ref a), some (.ref b), some (.ref r)] (upd H1 q (.dK es')) := fun es' o' => by
       walk_at "g"
       refine ⟨_, r, h', rfl, o'.T, w', f', by rw [len_of_nms n', len_cp]; exact hl, fun r2 H2 s2 o2 => ?_⟩
       have sq : Same H (upd H1 q (.dK es')) := fun z o ez => by
         rw [upd_ne (ne_of_none ez nq)]
         exact s1 z o ez
       exact hq r2 H2 (sq.trans s2) (o2.imp fun b e => sq.free e)
     cases e with
     | put k n x =>
       obtain ⟨y, hs, ty⟩ := he'
       simp only [app1, e1] at hap
       cases hap
       walk_at "g"
       walk_at "ix"
       walk_at "g"
       rw [decide_eq_true rfl]
       walk_at "g"
       walk_at "ix"
       walk_at "g"
       walk_at "ix"
       walk_at "g"
       refine q_ixK (.inr k) (.inl h1) h2 ?_
       walk_at "g"
       walk_at "ix"
       refine q_setD (.inr n) h3 hsz ?_
       refine fin _ (back _ _ ?_)
       rw [← put_tK wt.1]
       exact h4.put ty
     | drop k n =>
       have hs := he'
       by_cases hn : n ∈ nms t
       · simp only [app1, e1, if_pos hn] at hap
         cases hap
         obtain ⟨d, e3⟩ : ∃ d, lk t n = some d := by
           cases e3 : lk t n with
           | none => exact absurd hn (lk_none.mp e3)
           | some d => exact ⟨d, rfl⟩
         obtain ⟨vd, g1, g2⟩ := h4.ent e3
         walk_at "g"
         walk_at "ix"
         walk_at "g"
         rw [decide_eq_false (by decide)]
         walk_at "g"
         refine q_dpop1 ?_
         walk_at "g"
         walk_at "ix"
         walk_at "g"
         refine q_ixK (.inr k) (.inl h1) h2 ?_
         refine ⟨q, rfl, .inl ⟨es, .inl h3⟩, ?_⟩
         walk_at "g"
         walk_at "ix"
         refine ⟨es, .inr n, vd, h3, rfl, g1, ?_⟩
         refine fin _ (back _ _ ?_)
         rw [← del_tK wt.1]
         exact h4.del _
       · simp only [app1, e1, if_neg hn] at hap
         cases hap
  case len =>
   obtain ⟨N, a, v, h, h', e, rfl, _⟩ := h
   rfl
/-- _law_back(house, edit) -/
def spLB (K : PySem.W.Frag) : Sp := fun vs H Q _ => ∃ (N : Addr → Prop) (a : Addr) (v : V) (h : Hs) (e : Ed) (t : Tab), vs = [.ref a, v] ∧ T K H N (.ref a) (.dic (hK h)) ∧ T K H ff v e.tr ∧ Wf h ∧ lk h e.key = some t ∧
  ∀ u H', Same H H' → T K H' ff u (inv1 h e).tr → Q u H'
theorem Ed.two {H : Hp} {v : V} {e : Ed} {N : Addr → Prop} (h : T K H N v e.tr) : ∃ b ws, v = .ref b ∧ SqT K H b ws ∧ atI ws 1 = some (.str e.key) ∧ atI ws 2 = some (.str e.name) := by
  obtain ⟨b, rfl, he⟩ := Ed.at h
  cases e with
  | put k n x =>
    obtain ⟨y, hs, _⟩ := he
    exact ⟨b, _, rfl, hs, atI_nat (j := 1) rfl, atI_nat (j := 2) rfl⟩
  | drop k n => exact ⟨b, _, rfl, he, atI_nat (j := 1) rfl, atI_nat (j := 2) rfl⟩
/-- _law_same(told, house): True of one house twice, its tables in order -/
def spSame (K : PySem.W.Frag) : Sp := fun vs H Q _ => ∃ (N1 N2 : Addr → Prop) (a b : Addr) (h : Hs), vs = [.ref a, .ref b] ∧ T K H N1 (.ref a) (.dic (hK h)) ∧ T K H N2 (.ref b) (.dic (hK h)) ∧ Wf h ∧ Sml h ∧ AscH h ∧ Fits 60 h ∧ h.length ≤ 900 ∧
  ∀ H', Same H H' → Q (.bl true) H'
theorem sc_law_same : FnScope ["told", "house", "key"] ["told", "house"] (defScope s_law_same) := ⟨rfl, rfl, rfl, by decide +kernel, rfl, by decide +kernel, by decide +kernel⟩
theorem d_law_same (B : Bt mg) (F : TopF K mg "_law_same" s_law_same ["told", "house"]) : Df P w K mg base "_law_same" ["told", "house"] 1 (spSame K) := by
  refine F.df sc_law_same (fun vs H Q E h => ?len) (fun f cdv A outer s H vs Q E hr h => ?body)
  case body =>
   have hu := hr.units
   refine ⟨_, (pss_cons (ps_if (PW.pt (pw_or (pt_not (k_tr (K := K) rfl (pe_callB (k_isi (K := K) rfl) (by rfl) B.b_isinstance (by decide +kernel) (pa_cons (pv 0) (pa_cons (pe_bltn (v := .ty "dict") (by rfl) B.b_dict (by decide +kernel) rfl) pa_nil))))) (pw_or1 (pt_cmpR (k_ne (K := K) rfl hu) (pe_callTy (k_list (K := K) rfl rfl) (by rfl) B.b_list (by decide +kernel) (pa_cons (pv 0) pa_nil)) (pe_callTy (k_list (K := K) rfl rfl) (by rfl) B.b_list (by decide +kernel) (pa_cons (pv 1) pa_nil)) (nomark _)))))
      (pss_one (ps_ret pe_bl))
      pss_nil)
      (pss_cons (ps_lockU (ps_for (passes_of rfl) rfl (k_walk (K := K) rfl (pv 1)) (pg_name (i := 2) sc_law_same.nd rfl (Or.inl rfl))
      (pss_one (ps_if (PW.pt (pw_or (pt_not (k_tr (K := K) rfl (pe_callB (k_isi (K := K) rfl) (by rfl) B.b_isinstance (by decide +kernel) (pa_cons (pe_ix (k_ix (K := K) rfl hu) (pv 0) (pv 2) (fun _ _ => rfl)) (pa_cons (pe_bltn (v := .ty "dict") (by rfl) B.b_dict (by decide +kernel) rfl) pa_nil))))) (pw_or (pt_cmpR (k_ne (K := K) rfl hu) (pe_callTy (k_list (K := K) rfl rfl) (by rfl) B.b_list (by decide +kernel) (pa_cons (pe_ix (k_ix (K := K) rfl hu) (pv 0) (pv 2) (fun _ _ => rfl)) pa_nil)) (pe_callB (k_sort (K := K) rfl rfl) (by rfl) B.b_sorted (by decide +kernel) (pa_cons (pe_ix (k_ix (K := K) rfl hu) (pv 1) (pv 2) (fun _ _ => rfl)) pa_nil)) (nomark _)) (pw_or1 (pt_cmpR (k_ne (K := K) rfl hu) (pe_ix (k_ix (K := K) rfl hu) (pv 0) (pv 2) (fun _ _ => rfl)) (pe_ix (k_ix (K := K) rfl hu) (pv 1) (pv 2) (fun _ _ => rfl)) (nomark _))))))
      (pss_one (ps_ret pe_bl))
      pss_nil))))
      (pss_one (ps_ret pe_bl)))), ?_⟩
   obtain ⟨N1, N2, a, b, h, rfl, ha, hb, wf, sm, asc, fit, hl, hq⟩ := h
   obtain ⟨a', ka, ea, _, hra, tka⟩ := ha.dicAt
   cases ea
   obtain ⟨b', kb, eb, _, hrb, tkb⟩ := hb.dicAt
   cases eb
   have ka1 := tka.keys.trans (keys_hK h)
   have kb1 := tkb.keys.trans (keys_hK h)
   walk_at "g"
   refine q_isiD hra ?_
   walk_at "g"
   refine q_listK hra fun p hp => ?_
   have s1 := same_new (o := .lst (ka.map fun kv => kV kv.1)) hp
   walk_at "g"
   refine q_listK (Sm.rd s1 hrb) fun q hq1 => ?_
   have s2 := same_new (o := .lst (kb.map fun kv => kV kv.1)) hq1
   refine q_neStrs (ss := nms h) (by rw [← keysV ka1]; exact Sm.sqL s2 sq_new) (by rw [← keysV kb1]; exact sq_new) ?_
   have s3 := s1.trans s2
   generalize hHz : upd (upd H p (.lst (ka.map fun kv => kV kv.1))) q (.lst (kb.map fun kv => kV kv.1)) = Hz at s3
   walk_at "g"
   refine q_lockS (Sm.rd s3 hrb) fun Hl od un D' lkd hD' => ?_
   walk_at "g"
   refine q_keys ?_
   walk_at "g"
   refine q_keysE lkd.at_ ?_
   have hlen : kb.length = h.length := by rw [tkb.length]; unfold hK; rw [List.length_map]
   have L0 : Lk1 H b kb od Hl := ⟨fun c o e n => lkd.l1.keep c o (s3 c o e) n, lkd.at_⟩
   refine for_keysS (kvs := kb) (fun i σ H1 => ∃ (v2 : Option V), σ = [some (.ref a), some (.ref b), v2] ∧ Lk1 H b kb od H1) ?_ ?_ ?_ ?_
   · exact ⟨none, rfl, L0⟩
   · rintro i σ H1 _ ⟨v2, rfl, l⟩
     exact l.at_
   · rintro i k v σ H1 hkv ⟨v2, rfl, l1⟩
     obtain ⟨d0, g1, g2⟩ := Tk.at tkb hkv
     obtain ⟨n, t, hn, rfl, rfl⟩ := hK_at g1
     have hm := mem_at hn
     have wft := wf.tab _ hm
     have ft : t.length ≤ 60 := fit _ hm
     have hlk : lk h n = some t := lk_of_mem wf.nd hm
     obtain ⟨qa, ea, hva, _, hqa, tqa⟩ := T.tab tka hlk
     obtain ⟨qb, eb, hvb, _, hqb, tqb⟩ := T.tab tkb hlk
     have rs := l1.rs hrb
     walk_at "g"
     refine q_ixK (.inr n) (rs.dk hra) hva ?_
     walk_at "g"
     refine q_isiD (rs.dk hqa) ?_
     walk_at "g"
     refine q_ixK (.inr n) (rs.dk hra) hva ?_
     walk_at "g"
     refine q_listK (rs.dk hqa) fun p hp => ?_
     have s4 := same_new (o := .lst (ea.map fun kv => kV kv.1)) hp
     have rs4 := rs.trans (RS.of s4)
     walk_at "g"
     refine q_ixK (.inr n) (rs4.dk hrb) hvb ?_
     walk_at "g"
     refine q_sortD (ks := nms t) (rs4.dk hqb) (by rw [tqb.keys, keys_tK]) (by rw [nms_len]; omega) fun q hq2 => ?_
     have s5 := same_new (o := .lst ((srt (nms t)).map V.str)) hq2
     have rs5 := rs4.trans (RS.of s5)
     refine q_neStrs (ss := nms t) (by rw [← keysV (tqa.keys.trans (keys_tK t))]; exact Sm.sqL s5 sq_new) (by rw [srt_of_asc (asc _ hm)]; exact sq_new) ?_
     walk_at "g"
     refine q_ixK (.inr n) (rs5.dk hra) hva ?_
     walk_at "g"
     refine q_ixK (.inr n) (rs5.dk hrb) hvb ?_
     refine q_neTab (rs5.dk hqa) (rs5.dk hqb) (tqa.rs rs5) (tqb.rs rs5) wft.1 (wf.ent sm hm) ?_
     walk_at "g"
     exact ⟨_, rfl, (l1.same s4).same s5⟩
   · rintro σ H1 ⟨v2, rfl, l1⟩
     refine hD'.nx _ _ l1.at_ ?_
     walk_at "g"
     exact hq _ (l1.out lkd s3)
  case len =>
   obtain ⟨N1, N2, a, b, h, rfl, _⟩ := h
   rfl

abbrev keysL : List Str := ["t", "lanes", "a0"]
abbrev namesL : List Str := ["c", "a", "b10", "b9"]
/-- a house that is drawn -/
structure HG (h : Hs) : Prop where
  wf : Wf h
  keys : ∃ n, 1 ≤ n ∧ n ≤ 3 ∧ nms h = keysL.take n
  ent : ∀ q ∈ h, q.2.length ≤ 4 ∧ ∀ x ∈ q.2, x.1 ∈ namesL ∧ Ent x.2
/-- _law_house(jar, at) -/
def spHouse (K : PySem.W.Frag) : Sp := fun vs H Q _ => ∃ (j a : Addr) (p : Int), vs = [.ref j, .ref a] ∧ Rnd H j a p ∧ p + 200 ≤ lim ∧
  ∀ r h H' p', Kp a H H' → Rnd H' j a p' → p ≤ p' → p' ≤ p + 200 → H r = none → Own K (fun b => H b = none) H' r h → HG h → Q (.ref r) H'
theorem keysL_nd : keysL.Nodup := by decide +kernel
theorem namesL_nd : namesL.Nodup := by decide +kernel
theorem sc_law_house : FnScope ["jar", "at", "house", "key", "name"] ["jar", "at"] (defScope s_law_house) := ⟨rfl, rfl, rfl, by decide +kernel, rfl, by decide +kernel, by decide +kernel⟩
theorem d_law_house (B : Bt mg) (F : TopF K mg "_law_house" s_law_house ["jar", "at"]) (D_law_draw : Df P w K mg base "_law_draw" ["jar", "at", "many"] 1 (spDraw)) (D_law_entry : Df P w K mg base "_law_entry" ["jar", "at"] 2 (spEnt K)) : Df P w K mg base "_law_house" ["jar", "at"] 3 (spHouse K) := by
  refine F.df sc_law_house (fun vs H Q E h => ?len) (fun f cdv A outer s H vs Q E hr h => ?body)
  case body =>
   have hu := hr.units
   refine ⟨_, (pss_cons (ps_set (i := 2) sc_law_house.nd rfl (Or.inl rfl) pe_dnewK)
      (pss_cons (ps_lockU (ps_for (passes_of rfl) rfl (k_walk (K := K) rfl (pe_slice (k_sl (K := K) rfl) (pe_lst (pa_cons pe_str (pa_cons pe_str (pa_cons pe_str pa_nil)))) po_none (po_some (pe_op (k_add (K := K) rfl) pe_int (pe_df D_law_draw (hr.mono (by decide)) (fun σ => passAt (takes_of rfl rfl rfl rfl) σ) (pa_cons (pv 0) (pa_cons (pv 1) (pa_cons pe_int pa_nil)))))))) (pg_name (i := 3) sc_law_house.nd rfl (Or.inl rfl))
      (pss_cons (ps_asg pe_dnewK (pg_sub (pv 2) (pv 3) (set_any hu)))
      (pss_one (ps_lockU (ps_for (passes_of rfl) rfl (k_walk (K := K) rfl (pe_lst (pa_cons pe_str (pa_cons pe_str (pa_cons pe_str (pa_cons pe_str pa_nil)))))) (pg_name (i := 4) sc_law_house.nd rfl (Or.inl rfl))
      (pss_one (ps_if (pt_cmpR (k_eq (K := K) rfl hu) (pe_df D_law_draw (hr.mono (by decide)) (fun σ => passAt (takes_of rfl rfl rfl rfl) σ) (pa_cons (pv 0) (pa_cons (pv 1) (pa_cons pe_int pa_nil)))) pe_int (nomark _))
      (pss_one (ps_asg (pe_df D_law_entry (hr.mono (by decide)) (fun σ => passAt (takes_of rfl rfl rfl rfl) σ) (pa_cons (pv 0) (pa_cons (pv 1) pa_nil))) (pg_sub (pe_ix (k_ix (K := K) rfl hu) (pv 2) (pv 3) (fun _ _ => rfl)) (pv 4) (set_any hu))))
      pss_nil))))))))
      (pss_one (ps_ret (pv 2))))), ?_⟩
   obtain ⟨j, a, p, rfl, hR, hp, hq⟩ := h
   have p0 := hR.p0
   walk_at "g"
   intro r hr0
   obtain ⟨rj, ra⟩ := hR.ja hr0
   have s1 : Same H (upd H r (.dK [])) := same_new hr0
   walk_at "g"
   refine .inl ?_
   walk_at "g"
   refine q_items ?_
   walk_at "g"
   intro pl0 hpl0
   rw [show [V.str (PySem.Str.ofString "t"), V.str (PySem.Str.ofString "lanes"), V.str (PySem.Str.ofString "a0")] = keysL.map V.str from rfl]
   have s2 : Same (upd H r (.dK [])) (upd (upd H r (.dK [])) pl0 (.lst (keysL.map V.str))) := same_new hpl0
   have hpl0' : H pl0 = none := s1.free hpl0
   walk_at "g"
   refine ⟨j, a, p, 3, rfl, hR.same (s1.trans s2), by omega, by decide, fun v p1 v0 v1 h1 h2 => ?_⟩
   have R2 := (hR.same (s1.trans s2)).set (p' := p1) (by omega)
   walk_at "g"
   have e3 : (upd (upd (upd H r (.dK [])) pl0 (.lst (keysL.map V.str))) a (.lst [.int p1])) pl0 = some (.lst (keysL.map V.str)) := by
     rw [upd_ne (hR.ja hpl0').2, upd_same]
   have k2 : Kp a H (upd (upd (upd H r (.dK [])) pl0 (.lst (keysL.map V.str))) a (.lst [.int p1])) := (Kp.of (s1.trans s2)).trans Kp.upd
   have er : (upd (upd (upd H r (.dK [])) pl0 (.lst (keysL.map V.str))) a (.lst [.int p1])) r = some (.dK []) := by
     rw [upd_ne ra]
     exact s2 _ _ upd_same
   generalize upd (upd (upd H r (.dK [])) pl0 (.lst (keysL.map V.str))) a (.lst [.int p1]) = Hb at R2 e3 k2 er
   refine q_slL (.inl (.inl e3)) fun pl hpl => ?_
   obtain ⟨n, hn1, hn3, hcut⟩ : ∃ n, 1 ≤ n ∧ n ≤ 3 ∧ cutV (keysL.map V.str) none (some (1 + v)) = (keysL.take n).map V.str := by
     refine ⟨(1 + v).toNat, by omega, by omega, ?_⟩
     have : (1 + v) = (((1 + v).toNat : Nat) : Int) := by omega
     rw [this]
     exact cutV_take (by show (1 + v).toNat ≤ 3; omega)
   rw [hcut]
   have s4 : Same Hb (upd Hb pl (.lst ((keysL.take n).map V.str))) := same_new hpl
   have hplf : H pl = none := k2.fresh R2.at_ hpl
   have R3 := R2.same s4
   have k3 := k2.trans (Kp.of s4)
   have e4 := s4 _ _ er
   have e5 : (upd Hb pl (.lst ((keysL.take n).map V.str))) pl = some (.lst ((keysL.take n).map V.str)) := upd_same
   generalize upd Hb pl (.lst ((keysL.take n).map V.str)) = Hc at R3 k3 e4 e5
   have hNa : ∀ b, H b = none → b ≠ a := fun b e z => (hR.ja e).2 z
   have klen : (keysL.take n).length = n := by rw [List.length_take]; show min n 3 = n; omega
   refine q_itemsE (.inl (.inl e5)) ?_
   refine for_items (xs := (keysL.take n).map V.str) (fun i σ Hi => ∃ (v3 v4 : Option V) (hi : Hs) (pi : Int), σ = [some (.ref j), some (.ref a), some (.ref r), v3, v4] ∧ Kp a H Hi ∧ Rnd Hi j a pi ∧ p ≤ pi ∧ pi ≤ p + 1 + i * 20 ∧ Hi pl = some (.lst ((keysL.take n).map V.str)) ∧
     Own K (fun b => H b = none) Hi r hi ∧ nms hi = keysL.take i ∧ Wf hi ∧ ∀ q ∈ hi, q.2.length ≤ 4 ∧ ∀ x ∈ q.2, x.1 ∈ namesL ∧ Ent x.2) ?_ ?_ ?_ ?_
   · exact ⟨none, none, [], p1, rfl, k3, R3, h1, by omega, e5, Own.nil e4 hr0, rfl, ⟨List.nodup_nil, fun p hp => nomatch hp⟩, fun q hq => nomatch hq⟩
   · rintro i σ Hi _ ⟨v3, v4, hi, pi, rfl, _, _, _, _, e, _⟩
     exact .inl (.inl e)
   · rintro i x σ Hi hx ⟨v3, v4, hi, pi, rfl, ki, Ri, g1, g2, ei, oi, nmi, wfi, enti⟩
     obtain ⟨key, hkey, rfl⟩ := hlist_at hx
     have hin : i < n := by
       have := (List.getElem?_eq_some_iff.mp hkey).1
       rw [klen] at this
       exact this
     have hkey2 : keysL[i]? = some key := by
       rw [List.getElem?_take_of_lt hin] at hkey
       exact hkey
     have nk : key ∉ nms hi := by
       rw [nmi]
       exact nd_at keysL_nd hkey2
     have hil : hi.length ≤ 3 := by rw [← nms_len, nmi, List.length_take]; exact Nat.min_le_right _ _
     walk_at "g"
     intro q hqn
     have hqf : H q = none := ki.fresh Ri.at_ hqn
     obtain ⟨kvs2, c1, c2, c3⟩ := oi.push (t := []) nk hqn hqf (same_new hqn) upd_same .nil
     walk_at "g"
     refine q_setD (.inr key) c1 (by rw [c2]; exact len_small (by omega)) ?_
     have kj : Kp a H (upd (upd Hi q (.dK [])) r (.dK (putK kvs2 (.inr key) (.ref q)))) := (ki.trans (Kp.of (same_new hqn))).new hr0
     have Rj : Rnd (upd (upd Hi q (.dK [])) r (.dK (putK kvs2 (.inr key) (.ref q)))) j a pi := (Ri.same (same_new hqn)).upd c1 rj ra
     have ej : (upd (upd Hi q (.dK [])) r (.dK (putK kvs2 (.inr key) (.ref q)))) pl = some (.lst ((keysL.take n).map V.str)) := sq_ne (same_new (o := .dK []) hqn _ _ ei) c1 (fun z => nomatch z)
     generalize upd (upd Hi q (.dK [])) r (.dK (putK kvs2 (.inr key) (.ref q))) = Hj at c3 kj Rj ej
     walk_at "g"
     refine .inl ?_
     walk_at "g"
     refine q_items ?_
     walk_at "g"
     intro p2 hp2
     have s6 : Same Hj (upd Hj p2 (.lst (namesL.map V.str))) := same_new hp2
     have hp2f := kj.fresh Rj.at_ hp2
     refine q_itemsE (xs := namesL.map V.str) sq_new ?_
     refine for_items (xs := namesL.map V.str) (fun k σ Hk => ∃ (v4 : Option V) (tk : Tab) (pk : Int), σ = [some (.ref j), some (.ref a), some (.ref r), some (.str key), v4] ∧ Kp a H Hk ∧ Rnd Hk j a pk ∧ p ≤ pk ∧ pk ≤ p + 1 + i * 20 + k * 4 ∧ Hk pl = some (.lst ((keysL.take n).map V.str)) ∧
       Hk p2 = some (.lst (namesL.map V.str)) ∧ Own K (fun b => H b = none) Hk r (hi ++ [(key, tk)]) ∧ (nms tk).Sublist (namesL.take k) ∧ ∀ x ∈ tk, x.1 ∈ namesL ∧ Ent x.2) ?_ ?_ ?_ ?_
     · exact ⟨v4, [], pi, rfl, kj.trans (Kp.of s6), Rj.same s6, g1, by omega, s6 _ _ ej, upd_same, c3.mono s6, List.nil_sublist _, fun x hx => nomatch hx⟩
     · rintro k σ Hk _ ⟨v4, tk, pk, rfl, _, _, _, _, _, e, _⟩
       exact .inl (.inl e)
     · rintro k x σ Hk hx2 ⟨v4, tk, pk, rfl, kk, Rk, d1, d2, ek, ek2, ok, sub, enk⟩
       obtain ⟨m, hm, rfl⟩ := hlist_at hx2
       have hk4 : k < 4 := (List.getElem?_eq_some_iff.mp hm).1
       walk_at "g"
       refine ⟨j, a, pk, 2, rfl, Rk, by omega, by decide, fun w p4 w0 w1 d3 d4 => ?_⟩
       have R5 := Rk.set (p' := p4) (by omega)
       have k5 : Kp a H (upd Hk a (.lst [.int p4])) := kk.trans Kp.upd
       have o5 := ok.kp (Kp.upd (a := a) (o := .lst [.int p4])) Rk.at_ hNa
       have e5 : (upd Hk a (.lst [.int p4])) pl = some (.lst ((keysL.take n).map V.str)) := by
         rw [upd_ne (hNa pl hplf)]
         exact ek
       have e6 : (upd Hk a (.lst [.int p4])) p2 = some (.lst (namesL.map V.str)) := by
         rw [upd_ne (hNa p2 hp2f)]
         exact ek2
       generalize upd Hk a (.lst [.int p4]) = Hm at R5 k5 o5 e5 e6
       have sub' : (nms tk).Sublist (namesL.take (k + 1)) := sub.trans (by rw [take_more hm]; exact List.sublist_append_left _ _)
       walk_at "g"
       refine q_dec (fun _ => ?_) (fun _ => ?_)
       · walk_at "g"
         refine ⟨j, a, p4, rfl, R5, by omega, fun vd d H7 p7 hent k7 R7 f1 f2 td => ?_⟩
         have o7 := o5.kp k7 R5.at_ hNa
         obtain ⟨kv7, q7, es7, a1, a2, a3, a4, a5, a6, a7, back⟩ := o7.at (lk_snoc nk)
         have nm : m ∉ nms tk := fun z => nd_at namesL_nd hm (sub.subset z)
         have hlt : tk.length ≤ 4 := by
           have := sub.length_le
           rw [nms_len, List.length_take] at this
           omega
         walk_at "g"
         refine q_ixK (.inr key) (.inl a1) a2 ?_
         walk_at "g"
         refine q_setD (.inr m) a3 ?_ ?_
         · rw [a4.length]
           unfold tK
           rw [List.length_map]
           exact len_small (by omega)
         have nk7 : (Sum.inr m : Key) ∉ es7.map (·.1) := by
           rw [a4.keys, keys_tK]
           exact fun z => nm (inr_mem.mp z)
         have t8 : Tk K H7 ff (putK es7 (.inr m) vd) (tK (tk ++ [(m, d)])) := by
           rw [putK_fresh nk7, tK_snoc]
           exact a4.append (Tk.cons (k := Sum.inr m) td .nil)
         have o8 := back _ _ t8
         rw [put_snoc nk] at o8
         have e8 := k7 _ _ (hNa pl hplf) e5
         have e9 := k7 _ _ (hNa p2 hp2f) e6
         obtain ⟨qj, qa⟩ := hR.ja a5
         refine ⟨_, tk ++ [(m, d)], p7, rfl, (k5.trans k7).new a5, R7.upd a3 qj qa, by omega, by omega, sqL_dk a3 e8, sqL_dk a3 e9, o8, ?_, fun x hx => ?_⟩
         · rw [nms_append, take_more hm]
           exact sub.append (List.Sublist.refl _)
         · rcases List.mem_append.mp hx with hx | hx
           · exact enk x hx
           · rw [List.mem_singleton.mp hx]
             exact ⟨mem_at hm, hent⟩
       · walk_at "g"
         exact ⟨_, tk, p4, rfl, k5, R5, by omega, by omega, e5, e6, o5, sub', enk⟩
     · rintro σ Hk ⟨v4, tk, pk, rfl, kk, Rk, d1, d2, ek, ek2, ok, sub, enk⟩
       have d2' : pk ≤ p + 1 + i * 20 + 4 * 4 := d2
       have hlt : tk.length ≤ 4 := by
         have := sub.length_le
         rw [nms_len, List.length_take] at this
         exact Nat.le_trans this (Nat.min_le_right _ _)
       refine ⟨some (.str key), v4, hi ++ [(key, tk)], pk, rfl, kk, Rk, d1, by omega, ek, ok, ?_, ⟨?_, fun q hq => ?_⟩, fun q hq => ?_⟩
       · rw [nms_append, nmi, take_more hkey2]
         rfl
       · have z : nms (hi ++ [(key, tk)]) = keysL.take (i + 1) := by
           rw [nms_append, nmi, take_more hkey2]
           rfl
         rw [z]
         exact keysL_nd.sublist (List.take_sublist _ _)
       · rcases List.mem_append.mp hq with hq | hq
         · exact wfi.tab q hq
         · rw [List.mem_singleton.mp hq]
           exact ⟨(namesL_nd.sublist (List.take_sublist _ _)).sublist sub, fun x hx => (enk x hx).2.imm⟩
       · rcases List.mem_append.mp hq with hq | hq
         · exact enti q hq
         · rw [List.mem_singleton.mp hq]
           exact ⟨hlt, enk⟩
   · rintro σ Hi ⟨v3, v4, hi, pi, rfl, ki, Ri, g1, g2, ei, oi, nmi, wfi, enti⟩
     rw [List.length_map, klen] at nmi g2
     walk_at "g"
     exact hq r hi Hi pi ki Ri g1 (by omega) hr0 oi ⟨wfi, ⟨n, hn1, hn3, nmi⟩, enti⟩
  case len =>
   obtain ⟨j, a, p, rfl, _⟩ := h
   rfl

abbrev names5 : List Str := ["c", "a", "b10", "b9", "e"]
theorem names5_nd : names5.Nodup := by decide +kernel
/-- an edit that is drawn for a house -/
structure EdG (h : Hs) (e : Ed) : Prop where
  key : e.key ∈ nms h
  name : e.name ∈ names5
  ent : ∀ k n x, e = .put k n x → Ent x
theorem EdG.imm {h : Hs} {e : Ed} (g : EdG h e) : e.Imm := by
  cases e with
  | put k n x => exact (g.ent k n x rfl).imm
  | drop k n => trivial
/-- _law_edits(jar, at, house, many) -/
def spEds (K : PySem.W.Frag) : Sp := fun vs H Q _ => ∃ (N : Addr → Prop) (j a r : Addr) (p : Int) (h : Hs) (many : Nat), vs = [.ref j, .ref a, .ref r, .int many] ∧ Rnd H j a p ∧ p + 100 ≤ lim ∧ many ≤ 8 ∧ (∀ b, N b → b ≠ a) ∧ Own K N H r h ∧ HG h ∧
  ∀ l H' p' xs es, Kp a H H' → Rnd H' j a p' → p ≤ p' → p' ≤ p + 100 → H l = none → H' l = some (.lst xs) → Ts K H' ff xs (es.map Ed.tr) → es.length = many → (∀ e ∈ es, EdG h e) → (∃ f, appAll (cpH h) es = .ok f) → Q (.ref l) H'
theorem HG.fit {h : Hs} (g : HG h) : Fits 4 h := fun q hq => (g.ent q hq).1
theorem HG.len {h : Hs} (g : HG h) : 1 ≤ h.length ∧ h.length ≤ 3 := by
  obtain ⟨n, h1, h2, h3⟩ := g.keys
  have : h.length = min n 3 := by rw [← nms_len, h3, List.length_take]; rfl
  omega
theorem sc_law_edits : FnScope ["jar", "at", "house", "many", "edits", "shape", "k", "keys", "key", "name"] ["jar", "at", "house", "many"] (defScope s_law_edits) := ⟨rfl, rfl, rfl, by decide +kernel, rfl, by decide +kernel, by decide +kernel⟩
theorem d_law_edits (B : Bt mg) (F : TopF K mg "_law_edits" s_law_edits ["jar", "at", "house", "many"]) (D_law_after : Df P w K mg base "_law_after" ["house", "edit"] 3 (spAF K)) (D_law_draw : Df P w K mg base "_law_draw" ["jar", "at", "many"] 1 (spDraw)) (D_law_entry : Df P w K mg base "_law_entry" ["jar", "at"] 2 (spEnt K)) (D_law_copy : Df P w K mg base "_law_copy" ["house"] 1 (spCH K)) : Df P w K mg base "_law_edits" ["jar", "at", "house", "many"] 4 (spEds K) := by
  refine F.df sc_law_edits (fun vs H Q E h => ?len) (fun f cdv A outer s H vs Q E hr h => ?body)
  case body =>
   have hu := hr.units
   refine ⟨_, (pss_cons (ps_set (i := 4) sc_law_edits.nd rfl (Or.inl rfl) (pe_lst pa_nil))
      (pss_cons (ps_set (i := 5) sc_law_edits.nd rfl (Or.inl rfl) (pe_df D_law_copy (hr.mono (by decide)) (fun σ => passAt (takes_of rfl rfl rfl rfl) σ) (pa_cons (pv 2) pa_nil)))
      (pss_cons (ps_for (passes_of rfl) rfl (pi_range1 (by rfl) B.b_range (pa_cons (pv 3) pa_nil)) (pg_name (i := 6) sc_law_edits.nd rfl (Or.inl rfl))
      (pss_cons (ps_set (i := 7) sc_law_edits.nd rfl (Or.inl rfl) (pe_callTy (k_list (K := K) rfl rfl) (by rfl) B.b_list (by decide +kernel) (pa_cons (pv 2) pa_nil)))
      (pss_cons (ps_set (i := 8) sc_law_edits.nd rfl (Or.inl rfl) (pe_ix (k_ix (K := K) rfl hu) (pv 7) (pe_df D_law_draw (hr.mono (by decide)) (fun σ => passAt (takes_of rfl rfl rfl rfl) σ) (pa_cons (pv 0) (pa_cons (pv 1) (pa_cons (pe_callB (k_len (K := K) rfl) (by rfl) B.b_len (by decide +kernel) (pa_cons (pv 7) pa_nil)) pa_nil)))) (fun _ _ => rfl)))
      (pss_cons (ps_set (i := 9) sc_law_edits.nd rfl (Or.inl rfl) (pe_ix (k_ix (K := K) rfl hu) (pe_lst (pa_cons pe_str (pa_cons pe_str (pa_cons pe_str (pa_cons pe_str (pa_cons pe_str pa_nil)))))) (pe_df D_law_draw (hr.mono (by decide)) (fun σ => passAt (takes_of rfl rfl rfl rfl) σ) (pa_cons (pv 0) (pa_cons (pv 1) (pa_cons pe_int pa_nil)))) (fun _ _ => rfl)))
      (pss_cons (ps_if (PW.pt (pw_and (pt_cmpR (k_eq (K := K) rfl hu) (pe_df D_law_draw (hr.mono (by decide)) (fun σ => passAt (takes_of rfl rfl rfl rfl) σ) (pa_cons (pv 0) (pa_cons (pv 1) (pa_cons pe_int pa_nil)))) pe_int (nomark _)) (pw_and1 (pt_cmpR (k_in (K := K) rfl hu) (pv 9) (pe_ix (k_ix (K := K) rfl hu) (pv 5) (pv 8) (fun _ _ => rfl)) (by rfl)))))
      (pss_one (ps_expr (k_append (K := K) rfl (pv 4) (pa_cons (pe_tup (pa_cons pe_str (pa_cons (pv 8) (pa_cons (pv 9) pa_nil)))) pa_nil))))
      (pss_one (ps_expr (k_append (K := K) rfl (pv 4) (pa_cons (pe_tup (pa_cons pe_str (pa_cons (pv 8) (pa_cons (pv 9) (pa_cons (pe_df D_law_entry (hr.mono (by decide)) (fun σ => passAt (takes_of rfl rfl rfl rfl) σ) (pa_cons (pv 0) (pa_cons (pv 1) pa_nil))) pa_nil))))) pa_nil)))))
      (pss_one (ps_set (i := 5) sc_law_edits.nd rfl (Or.inl rfl) (pe_df D_law_after (hr.mono (by decide)) (fun σ => passAt (takes_of rfl rfl rfl rfl) σ) (pa_cons (pv 5) (pa_cons (pe_ix (k_ix (K := K) rfl hu) (pv 4) (pe_op op_sub (pe_callB (k_len (K := K) rfl) (by rfl) B.b_len (by decide +kernel) (pa_cons (pv 4) pa_nil)) pe_int) (fun _ _ => rfl)) pa_nil))))))))))
      (pss_one (ps_ret (pv 4)))))), ?_⟩
   obtain ⟨N, j, a, r, p, h, many, rfl, hR, hp, hmany, hNa, ho, hG, hq⟩ := h
   have p0 := hR.p0
   obtain ⟨hl1, hl3⟩ := hG.len
   walk_at "g"
   intro l hl
   have s1 : Same H (upd H l (.lst [])) := same_new hl
   walk_at "g"
   refine ⟨N, r, h, rfl, (ho.mono s1).T, hG.wf, fun q hq => Nat.le_trans (hG.fit q hq) (by decide), by omega, fun sh H1 s2 o1 => ?_⟩
   have el : H1 l = some (.lst []) := s2 _ _ upd_same
   have o1' := o1.imp (N' := fun b => H b = none ∧ b ≠ l) fun b e => ⟨s1.free e, fun z => by
     rw [z, upd_same] at e
     cases e⟩
   have s12 := s1.trans s2
   have hja := hR.ja hl
   have hlen : (nms h).length = h.length := nms_len h
   walk_at "g"
   refine ⟨.int many, rfl, many, rfl, ?_, ?_, ?_⟩
   · omega
   · omega
   refine for_rng (lo := 0) (n := many) (fun i σ Hi => ∃ (g : Addr) (v6 v7 v8 v9 : Option V) (pi : Int) (xs : List V) (es : List Ed) (f : Hs), σ = [some (.ref j), some (.ref a), some (.ref r), some (.int many), some (.ref l), some (.ref g), v6, v7, v8, v9] ∧ Kp a H Hi ∧ Rnd Hi j a pi ∧ p ≤ pi ∧ pi ≤ p + 10 * i ∧
     Hi l = some (.lst xs) ∧ Ts K Hi ff xs (es.map Ed.tr) ∧ es.length = i ∧ (∀ e ∈ es, EdG h e) ∧ Own K (fun b => H b = none ∧ b ≠ l) Hi g (cpH f) ∧ appAll (cpH h) es = .ok f) ?_ ?_ ?_
   · exact ⟨sh, none, none, none, none, p, [], [], cpH h, rfl, Kp.of s12, hR.same s12, by omega, by omega, el, .nil, rfl, (fun e m => nomatch m), by rw [cp_cp hG.wf]; exact o1', rfl⟩
   · rintro i σ Hi hi ⟨g, v6, v7, v8, v9, pi, xs, es, f, rfl, ki, Ri, g1, g2, ei, ti, li, hes, oi, ai⟩
     obtain ⟨wf, ft, nf⟩ := appAll_ok hG.wf.cp (fun e m => (hes e m).imm) hG.fit.cp ai
     rw [nms_cp] at nf
     have hxl : xs.length = i := by rw [ti.length, List.length_map, li]
     have fin : ∀ {Hx : Hp} {e : Ed} {u : V} {Q5 : VK} {E5 : XK}, Own K (fun b => H b = none ∧ b ≠ l) Hx g (cpH f) → T K Hx ff u e.tr → EdG h e → (∃ f', app1 f e = .ok f') →
         (∀ f' r2 H2, app1 f e = .ok f' → Same Hx H2 → Own K (fun b => Hx b = none) H2 r2 (cpH f') → Q5 (.ref r2) H2) → spAF K [.ref g, u] Hx Q5 E5 := fun {Hx e u Q5 E5} o tu eg ⟨f', hf'⟩ hk => by
       obtain ⟨g', hg', hc⟩ := app1_cp wf wf.cp (cp_cp wf).symm hf'
       exact ⟨_, g, u, cpH f, g', e, rfl, o.T, tu, wf.cp, eg.imm, fun q hq => Nat.le_trans (ft.cp q hq) (by omega), by rw [len_cp, len_of_nms nf]; omega, by rw [cp_cp wf]; exact hg', fun r2 H2 s2 o2 => hk f' r2 H2 hf' s2 (by rw [hc]; exact o2)⟩
     obtain ⟨kvs, er, ek⟩ := (ho.kp ki hR.at_ hNa).key
     walk_at "g"
     refine q_listK (.inl er) fun q hq1 => ?_
     rw [keysV ek]
     have s3 : Same Hi (upd Hi q (.lst ((nms h).map V.str))) := same_new hq1
     have hqH : H q = none := ki.fresh Ri.at_ hq1
     walk_at "g"
     refine q_lenL sq_new ?_
     walk_at "g"
     rw [List.length_map]
     refine ⟨j, a, pi, _, rfl, Ri.same s3, by omega, by omega, fun v p1 v0 v1 h1 h2 => ?_⟩
     have R2 := (Ri.same s3).set (p' := p1) (by omega)
     have k2 : Kp a H (upd (upd Hi q (.lst ((nms h).map V.str))) a (.lst [.int p1])) := (ki.trans (Kp.of s3)).trans Kp.upd
     have e2 : (upd (upd Hi q (.lst ((nms h).map V.str))) a (.lst [.int p1])) q = some (.lst ((nms h).map V.str)) := by rw [upd_ne (hR.ja hqH).2, upd_same]
     have el2 : (upd (upd Hi q (.lst ((nms h).map V.str))) a (.lst [.int p1])) l = some (.lst xs) := by rw [upd_ne hja.2]; exact s3 _ _ ei
     have t2 := (ti.mono s3).kp (N' := ff) (Kp.upd (a := a) (o := .lst [.int p1])) (s3 _ _ Ri.at_) fun _ z => z.elim
     have o2 := (oi.mono s3).kp (Kp.upd (a := a) (o := .lst [.int p1])) (s3 _ _ Ri.at_) fun b z => (hR.ja z.1).2
     generalize upd (upd Hi q (.lst ((nms h).map V.str))) a (.lst [.int p1]) = Ha at R2 k2 e2 el2 t2 o2
     obtain ⟨key, hkey, hat⟩ := atS v0 v1
     refine q_ixL (.inl (.inl e2)) hat ?_
     walk_at "g"
     intro q5 hq5
     rw [show [V.str (PySem.Str.ofString "c"), V.str (PySem.Str.ofString "a"), V.str (PySem.Str.ofString "b10"), V.str (PySem.Str.ofString "b9"), V.str (PySem.Str.ofString "e")] = names5.map V.str from rfl]
     have s4 : Same Ha (upd Ha q5 (.lst (names5.map V.str))) := same_new hq5
     have hq5H : H q5 = none := k2.fresh R2.at_ hq5
     walk_at "g"
     refine ⟨j, a, p1, 5, rfl, R2.same s4, by omega, by decide, fun v' p2 w0 w1 h3 h4 => ?_⟩
     have R3 := (R2.same s4).set (p' := p2) (by omega)
     have k3 : Kp a H (upd (upd Ha q5 (.lst (names5.map V.str))) a (.lst [.int p2])) := (k2.trans (Kp.of s4)).trans Kp.upd
     have e3 : (upd (upd Ha q5 (.lst (names5.map V.str))) a (.lst [.int p2])) q5 = some (.lst (names5.map V.str)) := by rw [upd_ne (hR.ja hq5H).2, upd_same]
     have el3 : (upd (upd Ha q5 (.lst (names5.map V.str))) a (.lst [.int p2])) l = some (.lst xs) := by rw [upd_ne hja.2]; exact s4 _ _ el2
     have t3 := (t2.mono s4).kp (N' := ff) (Kp.upd (a := a) (o := .lst [.int p2])) (s4 _ _ R2.at_) fun _ z => z.elim
     have o3 := (o2.mono s4).kp (Kp.upd (a := a) (o := .lst [.int p2])) (s4 _ _ R2.at_) fun b z => (hR.ja z.1).2
     generalize upd (upd Ha q5 (.lst (names5.map V.str))) a (.lst [.int p2]) = Hb at R3 k3 e3 el3 t3 o3
     obtain ⟨name, hname, hat2⟩ := atS (ss := names5) w0 w1
     refine q_ixL (.inl (.inl e3)) hat2 ?_
     walk_at "g"
     refine ⟨j, a, p2, 3, rfl, R3, by omega, by decide, fun v3 p3 x0 x1 h5 h6 => ?_⟩
     have R4 := R3.set (p' := p3) (by omega)
     have k4 : Kp a H (upd Hb a (.lst [.int p3])) := k3.trans Kp.upd
     have el4 : (upd Hb a (.lst [.int p3])) l = some (.lst xs) := by rw [upd_ne hja.2]; exact el3
     have t4 := t3.kp (N' := ff) (Kp.upd (a := a) (o := .lst [.int p3])) R3.at_ fun _ z => z.elim
     have o4 := o3.kp (Kp.upd (a := a) (o := .lst [.int p3])) R3.at_ fun b z => (hR.ja z.1).2
     generalize upd Hb a (.lst [.int p3]) = Hc at R4 k4 el4 t4 o4
     have hkf : key ∈ nms f := by rw [nf]; exact hkey
     obtain ⟨t, hlk⟩ := lk_mem_nms hkf
     have hlc : lk (cpH f) key = some (ord t) := by rw [lk_cp, hlk]; rfl
     have put_ok : ∀ x, ∃ f', app1 f (.put key name x) = .ok f' := fun x => by
       unfold app1
       rw [show (Ed.put key name x).key = key from rfl, hlk]
       exact ⟨_, rfl⟩
     have last : ∀ {Hx : Hp} {u : V} {e : Ed} {px : Int}, Kp a H Hx → Rnd Hx j a px → Hx l = some (.lst xs) → Ts K Hx ff xs (es.map Ed.tr) → Own K (fun b => H b = none ∧ b ≠ l) Hx g (cpH f) → T K Hx ff u e.tr →
         Kp a H (upd Hx l (.lst (xs ++ [u]))) ∧ Rnd (upd Hx l (.lst (xs ++ [u]))) j a px ∧ Ts K (upd Hx l (.lst (xs ++ [u]))) ff (xs ++ [u]) ((es ++ [e]).map Ed.tr) ∧ Own K (fun b => H b = none ∧ b ≠ l) (upd Hx l (.lst (xs ++ [u]))) g (cpH f) ∧ T K (upd Hx l (.lst (xs ++ [u]))) ff u e.tr := fun {Hx u e px} k R e1 tx o tu => by
       refine ⟨k.new hl, R.upd e1 hja.1 hja.2, ?_, o.keep (keeps_upd (p := l)) (nt_of e1 (fun _ z => nomatch z) fun _ _ z => nomatch z) (fun b z => z.2), tu.upd e1 (fun _ z => nomatch z) (fun _ _ z => nomatch z) fun _ z => z.elim⟩
       rw [List.map_append]
       exact (tx.append (.cons tu .nil)).upd e1 (fun _ z => nomatch z) (fun _ _ z => nomatch z) fun _ z => z.elim
     have grow : ∀ {e : Ed}, EdG h e → (es ++ [e]).length = i + 1 ∧ ∀ x ∈ es ++ [e], EdG h x := fun {e} eg => by
       refine ⟨by rw [List.length_append, li]; rfl, fun x m => ?_⟩
       rcases List.mem_append.mp m with m | m
       · exact hes x m
       · rw [List.mem_singleton.mp m]
         exact eg
     have app : ∀ {e : Ed} {f' : Hs}, app1 f e = .ok f' → appAll (cpH h) (es ++ [e]) = .ok f' := fun {e f'} he => by
       rw [appAll_append, ai]
       exact (appAll_one f e).trans he
     obtain ⟨kg, qg, eg, y1, y2, y3, y4, _⟩ := o4.at hlc
     walk_at "g"
     refine q_two (PP := fun b => b = true → name ∈ nms t) (fun b hb => ?_) (fun _ => ⟨(valV eg (.inr name)).isSome, fun hs => ?_, fun hr => ?_⟩) (fun _ z => by cases z)
     · refine q_ite (fun hbt => ?_) (fun _ => ?_)
       · have hin := hb hbt
         have eG : EdG h (.drop key name) := ⟨hkey, hname, fun _ _ _ z => by cases z⟩
         walk_at "g"
         refine tyL el4 ?_
         walk_at "g"
         intro q9 hq9
         have s9 := same_new (o := .tup [.str "drop", .str key, .str name]) hq9
         have tu : T K (upd Hc q9 (.tup [.str "drop", .str key, .str name])) ff (.ref q9) (Ed.drop key name).tr := .tup st_new (.cons (.str _) (.cons (.str _) (.cons (.str _) .nil)))
         obtain ⟨z1, z2, z3, z4, z5⟩ := last (k4.trans (Kp.of s9)) (R4.same s9) (s9 _ _ el4) (t4.mono s9) (o4.mono s9) tu
         walk_at "g"
         refine q_append (s9 _ _ el4) (len_small (by omega)) ?_
         generalize hHd : upd (upd Hc q9 (.tup [.str "drop", .str key, .str name])) l (.lst (xs ++ [.ref q9])) = Hd at z1 z2 z3 z4 z5
         have el5 : Hd l = some (.lst (xs ++ [.ref q9])) := by rw [← hHd]; exact upd_same
         walk_at "g"
         refine q_lenL (.inl (.inl el5)) ?_
         walk_at "g"
         refine q_ixL (.inl (.inl el5)) atI_last ?_
         walk_at "g"
         refine fin z4 z5 eG ?_ fun f' r2 H2 hf' s5 o5 => ?_
         · unfold app1
           rw [show (Ed.drop key name).key = key from rfl, hlk]
           exact ⟨_, if_pos hin⟩
         · refine ⟨r2, _, _, _, _, p3, _, es ++ [.drop key name], f', rfl, z1.trans (Kp.of s5), z2.same s5, by omega, by omega, s5 _ _ el5, z3.mono s5, (grow eG).1, (grow eG).2, o5.imp fun b e => ⟨z1.fresh z2.at_ e, fun z => ?_⟩, app hf'⟩
           rw [z, el5] at e
           cases e
       · walk_at "g"
         refine tyL el4 ?_
         walk_at "g"
         refine ⟨j, a, p3, rfl, R4, by omega, fun vd d He p4 hent k5 R5 g5 g6 td => ?_⟩
         have el6 : He l = some (.lst xs) := k5 l _ hja.2 el4
         have t6 := t4.kp (N' := ff) k5 R4.at_ fun _ z => z.elim
         have o6 := o4.kp k5 R4.at_ fun b z => (hR.ja z.1).2
         have k6 := k4.trans k5
         have eG : EdG h (.put key name d) := ⟨hkey, hname, fun _ _ _ z => by cases z; exact hent⟩
         walk_at "g"
         intro q9 hq9
         have s9 := same_new (o := .tup [.str "put", .str key, .str name, vd]) hq9
         have tu : T K (upd He q9 (.tup [.str "put", .str key, .str name, vd])) ff (.ref q9) (Ed.put key name d).tr := .tup st_new (.cons (.str _) (.cons (.str _) (.cons (.str _) (.cons (td.mono s9) .nil))))
         obtain ⟨z1, z2, z3, z4, z5⟩ := last (k6.trans (Kp.of s9)) (R5.same s9) (s9 _ _ el6) (t6.mono s9) (o6.mono s9) tu
         walk_at "g"
         refine q_append (s9 _ _ el6) (len_small (by omega)) ?_
         generalize hHd : upd (upd He q9 (.tup [.str "put", .str key, .str name, vd])) l (.lst (xs ++ [.ref q9])) = Hd at z1 z2 z3 z4 z5
         have el5 : Hd l = some (.lst (xs ++ [.ref q9])) := by rw [← hHd]; exact upd_same
         walk_at "g"
         refine q_lenL (.inl (.inl el5)) ?_
         walk_at "g"
         refine q_ixL (.inl (.inl el5)) atI_last ?_
         walk_at "g"
         refine fin z4 z5 eG (put_ok d) fun f' r2 H2 hf' s5 o5 => ?_
         refine ⟨r2, _, _, _, _, p4, _, es ++ [.put key name d], f', rfl, z1.trans (Kp.of s5), z2.same s5, by omega, by omega, s5 _ _ el5, z3.mono s5, (grow eG).1, (grow eG).2, o5.imp fun b e => ⟨z1.fresh z2.at_ e, fun z => ?_⟩, app hf'⟩
         rw [z, el5] at e
         cases e
     · cases e2 : lk t name with
       | none =>
         have := y4.nent (n := name) (by rw [lk_ord]; exact e2)
         rw [this] at hs
         cases hs
       | some d => exact mem_nms (lk_mem e2)
     · walk_at "g"
       refine q_ixK (.inr key) (.inl y1) y2 ?_
       refine q_inD (.inr name) (.inl y3) ?_
       exact ⟨_, rfl, hr⟩
   · rintro σ Hi ⟨g, v6, v7, v8, v9, pi, xs, es, f, rfl, ki, Ri, g1, g2, ei, ti, li, hes, oi, ai⟩
     walk_at "g"
     exact hq l Hi pi xs es ki Ri g1 (by omega) hl ei ti li hes ⟨f, ai⟩
  case len =>
   obtain ⟨N, j, a, r, p, h, many, rfl, _⟩ := h
   rfl

/-- _law_says(actual, due) -/
def spSays (K : PySem.W.Frag) : Sp := fun vs H Q _ => ∃ (x y : Bool), vs = [.bl x, .bl y] ∧ Q (.bl (decide (x = y))) H
theorem sc_law_says : FnScope ["actual", "due"] ["actual", "due"] (defScope s_law_says) := ⟨rfl, rfl, rfl, by decide +kernel, rfl, by decide +kernel, by decide +kernel⟩
theorem d_law_says (B : Bt mg) (F : TopF K mg "_law_says" s_law_says ["actual", "due"]) : Df P w K mg base "_law_says" ["actual", "due"] 1 (spSays K) := by
  refine F.df sc_law_says (fun vs H Q E h => ?len) (fun f cdv A outer s H vs Q E hr h => ?body)
  case body =>
   have hu := hr.units
   refine ⟨_, (pss_one (ps_ret (pe_and (pe_callB (k_isi (K := K) rfl) (by rfl) B.b_isinstance (by decide +kernel) (pa_cons (pv 0) (pa_cons (pe_bltn (v := .ty "bool") (by rfl) B.b_bool (by decide +kernel) rfl) pa_nil))) (pe_one (pe_cmpR (k_eq (K := K) rfl hu) (pv 0) (pv 1) (nomark _)))))), ?_⟩
   obtain ⟨x, y, rfl, hq⟩ := h
   walk_at "g"
   refine q_isiBl ?_
   walk_at "g"
   exact hq
  case len =>
   obtain ⟨x, y, rfl, _⟩ := h
   rfl
/-- a house that grew from another by drawn edits -/
structure Gr (h g : Hs) : Prop where
  wf : Wf g
  nm : nms g = nms h
  en : All Ent g
  na : Nam names5 g
  cp : cpH g = g
  fit : Fits 12 g
theorem HG.all {h : Hs} (g : HG h) : All Ent h := fun q hq x hx => ((g.ent q hq).2 x hx).2
theorem HG.nam {h : Hs} (g : HG h) : Nam names5 h := fun q hq x hx => by
  have := ((g.ent q hq).2 x hx).1
  have sub : ∀ n ∈ namesL, n ∈ names5 := by decide +kernel
  exact sub _ this
theorem EdG.all {h : Hs} {e : Ed} (g : EdG h e) : EdP Ent e := g.ent
theorem gr_of {h f : Hs} {es : List Ed} (hG : HG h) (heg : ∀ e ∈ es, EdG h e) (hl : es.length ≤ 8) (ha : appAll (cpH h) es = .ok f) : Gr h (cpH f) := by
  obtain ⟨wf, ft, nf⟩ := appAll_ok hG.wf.cp (fun e m => (heg e m).imm) hG.fit.cp ha
  rw [nms_cp] at nf
  exact ⟨wf.cp, by rw [nms_cp]; exact nf, (appAll_all hG.all.cp (fun e m => (heg e m).all) ha).cp, (appAll_nam hG.nam.cp (fun e m => (heg e m).name) ha).cp, cp_cp wf, fun q hq => Nat.le_trans (ft.cp q hq) (by omega)⟩
/-- _law_grown(jar, at, base, many) -/
def spGr (K : PySem.W.Frag) : Sp := fun vs H Q _ => ∃ (N : Addr → Prop) (j a r : Addr) (p : Int) (h : Hs) (many : Nat), vs = [.ref j, .ref a, .ref r, .int many] ∧ Rnd H j a p ∧ p + 100 ≤ lim ∧ many ≤ 8 ∧ (∀ b, N b → b ≠ a) ∧ Own K N H r h ∧ HG h ∧
  ∀ q H' p' g, Kp a H H' → Rnd H' j a p' → p ≤ p' → p' ≤ p + 100 → Own K (fun b => H b = none) H' q g → Gr h g → Q (.ref q) H'
-- _law_grown: 0 jar, 1 at, 2 base, 3 many, 4 house, 5 edit
theorem sc_law_grown : FnScope ["jar", "at", "base", "many", "house", "edit"] ["jar", "at", "base", "many"] (defScope s_law_grown) := ⟨rfl, rfl, rfl, by decide +kernel, rfl, by decide +kernel, by decide +kernel⟩
theorem d_law_grown (B : Bt mg) (F : TopF K mg "_law_grown" s_law_grown ["jar", "at", "base", "many"]) (D_law_edits : Df P w K mg base "_law_edits" ["jar", "at", "house", "many"] 4 (spEds K)) (D_law_after : Df P w K mg base "_law_after" ["house", "edit"] 3 (spAF K)) (D_law_copy : Df P w K mg base "_law_copy" ["house"] 1 (spCH K)) : Df P w K mg base "_law_grown" ["jar", "at", "base", "many"] 5 (spGr K) := by
  refine F.df sc_law_grown (fun vs H Q E h => ?len) (fun f cdv A outer s H vs Q E hr h => ?body)
  case body =>
   have hu := hr.units
   refine ⟨_, (pss_cons (ps_set (i := 4) sc_law_grown.nd rfl (Or.inl rfl) (pe_df D_law_copy (hr.mono (by decide)) (fun σ => passAt (takes_of rfl rfl rfl rfl) σ) (pa_cons (pv 2) pa_nil)))
      (pss_cons (ps_lockU (ps_for (passes_of rfl) rfl (k_walk (K := K) rfl (pe_df D_law_edits (hr.mono (by decide)) (fun σ => passAt (takes_of rfl rfl rfl rfl) σ) (pa_cons (pv 0) (pa_cons (pv 1) (pa_cons (pv 2) (pa_cons (pv 3) pa_nil)))))) (pg_name (i := 5) sc_law_grown.nd rfl (Or.inl rfl))
      (pss_one (ps_set (i := 4) sc_law_grown.nd rfl (Or.inl rfl) (pe_df D_law_after (hr.mono (by decide)) (fun σ => passAt (takes_of rfl rfl rfl rfl) σ) (pa_cons (pv 4) (pa_cons (pv 5) pa_nil)))))))
      (pss_one (ps_ret (pv 4))))), ?_⟩
   obtain ⟨N, j, a, r, p, h, many, rfl, hR, hp, hmany, hNa, ho, hG, hq⟩ := h
   obtain ⟨hl1, hl3⟩ := hG.len
   walk_at "g"
   refine ⟨N, r, h, rfl, ho.T, hG.wf, fun q hq => Nat.le_trans (hG.fit q hq) (by decide), by omega, fun q H1 s1 o1 => ?_⟩
   walk_at "g"
   refine .inl ?_
   walk_at "g"
   refine q_items ?_
   walk_at "g"
   have o1' := o1
   refine ⟨N, j, a, r, p, h, many, rfl, hR.same s1, hp, hmany, hNa, ho.mono s1, hG, fun l H2 p2 xs es k2 R2 p20 p21 hl0 hl ts el heg ⟨f, hf⟩ => ?_⟩
   have o2 := o1.kp k2 (s1 _ _ hR.at_) fun b e => (hR.ja e).2
   have k02 : Kp a H H2 := (Kp.of s1).trans k2
   refine q_itemsE (xs := xs) (.inl (.inl hl)) ?_
   have imm : ∀ e ∈ es, e.Imm := fun e m => (heg e m).imm
   have hxl : xs.length = es.length := by rw [ts.length, List.length_map]
   refine for_items (xs := xs) (fun i σ Hi => ∃ (q : Addr) (v5 : Option V) (fi : Hs), σ = [some (.ref j), some (.ref a), some (.ref r), some (.int many), some (.ref q), v5] ∧ Same H2 Hi ∧ appAll (cpH h) (es.take i) = .ok fi ∧ Own K (fun b => H b = none) Hi q (cpH fi)) ?_ ?_ ?_ ?_
   · exact ⟨q, none, cpH h, rfl, Same.refl', rfl, by rw [cp_cp hG.wf]; exact o2⟩
   · rintro i σ Hi _ ⟨q, v5, fi, rfl, si, _⟩
     exact .inl (.inl (si _ _ hl))
   · rintro i x σ Hi hx ⟨q, v5, fi, rfl, si, ai, oi⟩
     obtain ⟨d, gd, tx0⟩ := ts.gets hx
     obtain ⟨e, he, rfl⟩ := map_at gd
     have eG := heg e (mem_at he)
     have imt : ∀ e ∈ es.take i, e.Imm := fun e m => imm e (List.mem_of_mem_take m)
     obtain ⟨wi, fti, ni⟩ := appAll_ok hG.wf.cp imt hG.fit.cp ai
     have hlt : (es.take i).length ≤ 8 := by rw [List.length_take]; omega
     rw [nms_cp] at ni
     obtain ⟨f', hf'⟩ := appAll_next he ai hf
     obtain ⟨g, u, stp, hc, wg, wu, ng, nu⟩ := step_of wi eG.imm hf'
     walk_at "g"
     refine ⟨_, q, x, cpH fi, g, e, rfl, oi.T, tx0.mono si, wi.cp, eG.imm, fun q hq => Nat.le_trans (fti.cp q hq) (by omega), by rw [len_cp, len_of_nms ni]; omega, stp.a2, fun q2 H3 s3 o3 => ?_⟩
     refine ⟨q2, _, f', rfl, si.trans s3, ?_, ?_⟩
     · rw [appAll_more he ai]
       exact hf'
     · rw [hc]
       exact o3.imp fun b e => k02.fresh R2.at_ (si.free e)
   · rintro σ Hi ⟨q, v5, fi, rfl, si, ai, oi⟩
     rw [hxl, List.take_length] at ai
     walk_at "g"
     exact hq q Hi p2 _ (k02.trans (Kp.of si)) (R2.same si) p20 p21 oi (gr_of hG heg (by omega) ai)
  case len =>
   obtain ⟨N, j, a, r, p, h, many, rfl, _⟩ := h
   rfl
/-- _law_entry_at(house, key, name) -/
def spEA (K : PySem.W.Frag) : Sp := fun vs H Q _ => ∃ (N : Addr → Prop) (a : Addr) (k n : Str) (h : Hs) (t : Tab), vs = [.ref a, .str k, .str n] ∧ T K H N (.ref a) (.dic (hK h)) ∧ Wf h ∧ lk h k = some t ∧
  ∀ p xs H', Same H H' → H p = none → H' p = some (.lst xs) → Ts K H' ff xs (ent h k n).toList → Q (.ref p) H'
theorem sc_law_entry_at : FnScope ["house", "key", "name"] ["house", "key", "name"] (defScope s_law_entry_at) := ⟨rfl, rfl, rfl, by decide +kernel, rfl, by decide +kernel, by decide +kernel⟩
theorem d_law_entry_at (B : Bt mg) (F : TopF K mg "_law_entry_at" s_law_entry_at ["house", "key", "name"]) : Df P w K mg base "_law_entry_at" ["house", "key", "name"] 1 (spEA K) := by
  refine F.df sc_law_entry_at (fun vs H Q E h => ?len) (fun f cdv A outer s H vs Q E hr h => ?body)
  case body =>
   have hu := hr.units
   refine ⟨_, (pss_cons (ps_if (pt_cmpR (k_in (K := K) rfl hu) (pv 2) (pe_ix (k_ix (K := K) rfl hu) (pv 0) (pv 1) (fun _ _ => rfl)) (by rfl))
      (pss_one (ps_ret (pe_lst (pa_cons (pe_ix (k_ix (K := K) rfl hu) (pe_ix (k_ix (K := K) rfl hu) (pv 0) (pv 1) (fun _ _ => rfl)) (pv 2) (fun _ _ => rfl)) pa_nil))))
      pss_nil)
      (pss_one (ps_ret (pe_lst pa_nil)))), ?_⟩
   obtain ⟨N, a, k, n, h, t, rfl, ha, wf, hk, hq⟩ := h
   obtain ⟨a', kvs, ea, _, hr2, tk⟩ := ha.dicAt
   cases ea
   obtain ⟨q', es', h1, _, h2, h3⟩ := T.tab tk hk
   have he : ent h k n = lk t n := by
     unfold ent
     rw [hk]
     rfl
   walk_at "g"
   refine q_ixK (.inr k) hr2 h1 ?_
   refine q_inD (.inr n) h2 ?_
   walk_at "g"
   cases e2 : lk t n with
   | some d =>
     obtain ⟨vd, g1, g2⟩ := h3.ent e2
     have tq : T K H ff vd d := g2.imm (immT_lk (wf.tab _ (lk_mem hk)).2 e2)
     rw [g1]
     walk_at "g"
     refine q_ixK (.inr k) hr2 h1 ?_
     walk_at "g"
     refine q_ixK (.inr n) h2 g1 ?_
     walk_at "g"
     intro p hp
     refine hq p _ _ (same_new hp) hp upd_same ?_
     rw [he, e2]
     exact .cons (tq.mono (same_new hp)) .nil
   | none =>
     have g1 := h3.nent e2
     rw [g1]
     walk_at "g"
     intro p hp
     refine hq p _ _ (same_new hp) hp upd_same ?_
     rw [he, e2]
     exact .nil
  case len =>
   obtain ⟨N, a, k, n, h, t, rfl, _⟩ := h
   rfl
/-- _law_refusal(base, one, two), where the tables are not the same -/
def spRf (K : PySem.W.Frag) : Sp := fun vs H Q _ => ∃ (N : Addr → Prop) (a b c : Addr) (h o t : Hs), vs = [.ref a, .ref b, .ref c] ∧ T K H N (.ref a) (.dic (hK h)) ∧ T K H N (.ref b) (.dic (hK o)) ∧ T K H N (.ref c) (.dic (hK t)) ∧
  MOk h ∧ MOk o ∧ MOk t ∧ h.length ≤ 40 ∧ o.length ≤ 40 ∧ t.length ≤ 40 ∧ ¬ (srt (nms h) = srt (nms o) ∧ srt (nms h) = srt (nms t)) ∧
  ∀ p H', Same H H' → H' p = some (.tup [.str "house", .str "tables"]) → Q (.ref p) H'
theorem sc_law_refusal : FnScope ["base", "one", "two", "error"] ["base", "one", "two"] (defScope s_law_refusal) := ⟨rfl, rfl, rfl, by decide +kernel, rfl, by decide +kernel, by decide +kernel⟩
theorem d_law_refusal (B : Bt mg) (F : TopF K mg "_law_refusal" s_law_refusal ["base", "one", "two"]) (X_Misfit : Xc P w K mg base "Misfit" ["what", "name"] C_Misfit) (D_merge : Df P w K mg base "merge" ["base", "one", "two"] 5 (spMe K C_Misfit)) : Df P w K mg base "_law_refusal" ["base", "one", "two"] 7 (spRf K) := by
  refine F.df sc_law_refusal (fun vs H Q E h => ?len) (fun f cdv A outer s H vs Q E hr h => ?body)
  case body =>
   have hu := hr.units
   refine ⟨_, (pss_cons (ps_try_as (i := 3) rfl rfl sc_law_refusal.nd rfl rfl ⟨rfl, by decide, .inl X_Misfit.g⟩ (takes_of rfl rfl rfl rfl) (fun W pn xe tk po => (pss_one (ps_expr (pe_df D_merge (hr.mono (by decide)) (fun σ => passAt tk σ) (pa_cons (pv 0) (pa_cons (pv 1) (pa_cons (pv 2) pa_nil)))))))
      (fun a oe cls d pn hz hf => (pss_one (ps_ret (pe_tup (pa_cons (pe_xf X_Misfit.xf (X_Misfit.no _ (by decide)) hz hf (pv 3)) (pa_cons (pe_xf X_Misfit.xf (X_Misfit.no _ (by decide)) hz hf (pv 3)) pa_nil)))))))
      (pss_one (ps_ret (pe_tup (pa_cons pe_str (pa_cons pe_str pa_nil)))))), ?_⟩
   obtain ⟨N, a, b, c, h, o, t, rfl, ha, hb, hc, mh, mo, mt, l1, l2, l3, hk, hq⟩ := h
   walk_at "g"
   exact ⟨N, a, b, c, h, o, t, rfl, ha, hb, hc, mh, mo, mt, l1, l2, l3, fun z => absurd z hk, fun _ => catchU X_Misfit.te (show 3 < 4 by decide) fun p H' s e => hq p H' s e⟩
  case len =>
   obtain ⟨N, a, b, c, h, o, t, rfl, _⟩ := h
   rfl

abbrev names5s : List Str := ["a", "b10", "b9", "c", "e"]
theorem names5s_nd : names5s.Nodup := by decide +kernel
def mTab5 (b o t : Hs) (k : Str) : Tab := names5s.filterMap fun n => (mS b o t k n).2.map fun d => (n, d)
def mCon5 (b o t : Hs) (k : Str) : List SP := names5s.filterMap fun n => if (mS b o t k n).1 = true then some (k, n) else none
def mHs5 (b o t : Hs) : Hs := (nms b).map fun k => (k, mTab5 b o t k)
def mCs5 (b o t : Hs) : List SP := (nms b).flatMap fun k => mCon5 b o t k
theorem nms_mHs5 (b o t : Hs) : nms (mHs5 b o t) = nms b := by
  unfold mHs5 nms
  rw [List.map_map]
  exact List.map_id' _
theorem eqb_en (x y : En) : eqb (.lst x.toList) (.lst y.toList) = eqO x y := by
  cases x with
  | none => cases y with
    | none => rfl
    | some e => rfl
  | some d => cases y with
    | none => rfl
    | some e => rfl
theorem en_nod {e : En} (h : ∀ d, e = some d → imm d = true ∧ dep d ≤ 50) : TU.nod (.lst e.toList) = true ∧ TU.dep (.lst e.toList) ≤ 60 := by
  cases e with
  | none => exact ⟨rfl, (show 1 ≤ 60 by decide)⟩
  | some d =>
    obtain ⟨h1, h2⟩ := h d rfl
    have h3 := nod_of_imm h1
    refine ⟨by simp only [Option.toList, TU.nod, nods, h3, Bool.and_self], ?_⟩
    simp only [Option.toList, TU.dep, deps]
    omega
/-- _law_merge(base, one, two) -/
def spLM (K : PySem.W.Frag) : Sp := fun vs H Q _ => ∃ (N : Addr → Prop) (a b c : Addr) (h o t : Hs), vs = [.ref a, .ref b, .ref c] ∧ T K H N (.ref a) (.dic (hK h)) ∧ T K H N (.ref b) (.dic (hK o)) ∧ T K H N (.ref c) (.dic (hK t)) ∧
  MOk h ∧ MOk o ∧ MOk t ∧ h.length ≤ 40 ∧ nms o = nms h ∧ nms t = nms h ∧
  ∀ p r l ys H', Same H H' → SqT K H' p [.ref r, .ref l] → Own K (fun b => H b = none) H' r (mHs5 h o t) → H' l = some (.lst ys) → Ts K H' ff ys ((srtP (mCs5 h o t)).map pr) → Q (.ref p) H'
-- _law_merge: 0 base, 1 one, 2 two, 3 house, 4 met, 5 key, 6 name, 7 was, 8 left, 9 right, 10 stands
theorem sc_law_merge : FnScope ["base", "one", "two", "house", "met", "key", "name", "was", "left", "right", "stands"] ["base", "one", "two"] (defScope s_law_merge) := ⟨rfl, rfl, rfl, by decide +kernel, rfl, by decide +kernel, by decide +kernel⟩
theorem d_law_merge (B : Bt mg) (F : TopF K mg "_law_merge" s_law_merge ["base", "one", "two"]) (D_law_entry_at : Df P w K mg base "_law_entry_at" ["house", "key", "name"] 1 (spEA K)) : Df P w K mg base "_law_merge" ["base", "one", "two"] 2 (spLM K) := by
  refine F.df sc_law_merge (fun vs H Q E h => ?len) (fun f cdv A outer s H vs Q E hr h => ?body)
  case body =>
   have hu := hr.units
   refine ⟨_, (pss_cons (ps_set (i := 3) sc_law_merge.nd rfl (Or.inl rfl) pe_dnewK)
      (pss_cons (ps_set (i := 4) sc_law_merge.nd rfl (Or.inl rfl) (pe_lst pa_nil))
      (pss_cons (ps_lockU (ps_for (passes_of rfl) rfl (k_walk (K := K) rfl (pv 0)) (pg_name (i := 5) sc_law_merge.nd rfl (Or.inl rfl))
      (pss_cons (ps_asg pe_dnewK (pg_sub (pv 3) (pv 5) (set_any hu)))
      (pss_one (ps_lockU (ps_for (passes_of rfl) rfl (k_walk (K := K) rfl (pe_lst (pa_cons pe_str (pa_cons pe_str (pa_cons pe_str (pa_cons pe_str (pa_cons pe_str pa_nil))))))) (pg_name (i := 6) sc_law_merge.nd rfl (Or.inl rfl))
      (pss_cons (ps_set (i := 7) sc_law_merge.nd rfl (Or.inl rfl) (pe_df D_law_entry_at (hr.mono (by decide)) (fun σ => passAt (takes_of rfl rfl rfl rfl) σ) (pa_cons (pv 0) (pa_cons (pv 5) (pa_cons (pv 6) pa_nil)))))
      (pss_cons (ps_set (i := 8) sc_law_merge.nd rfl (Or.inl rfl) (pe_df D_law_entry_at (hr.mono (by decide)) (fun σ => passAt (takes_of rfl rfl rfl rfl) σ) (pa_cons (pv 1) (pa_cons (pv 5) (pa_cons (pv 6) pa_nil)))))
      (pss_cons (ps_set (i := 9) sc_law_merge.nd rfl (Or.inl rfl) (pe_df D_law_entry_at (hr.mono (by decide)) (fun σ => passAt (takes_of rfl rfl rfl rfl) σ) (pa_cons (pv 2) (pa_cons (pv 5) (pa_cons (pv 6) pa_nil)))))
      (pss_cons (ps_set (i := 10) sc_law_merge.nd rfl (Or.inl rfl) (pv 7))
      (pss_cons (ps_if (PW.pt (pw_or (pt_cmpR (k_eq (K := K) rfl hu) (pv 8) (pv 9) (nomark _)) (pw_or1 (pt_cmpR (k_eq (K := K) rfl hu) (pv 9) (pv 7) (nomark _)))))
      (pss_one (ps_set (i := 10) sc_law_merge.nd rfl (Or.inl rfl) (pv 8)))
      (pss_one (ps_if (pt_cmpR (k_eq (K := K) rfl hu) (pv 8) (pv 7) (nomark _))
      (pss_one (ps_set (i := 10) sc_law_merge.nd rfl (Or.inl rfl) (pv 9)))
      (pss_one (ps_expr (k_append (K := K) rfl (pv 4) (pa_cons (pe_tup (pa_cons (pv 5) (pa_cons (pv 6) pa_nil))) pa_nil)))))))
      (pss_one (ps_if (k_tr (K := K) rfl (pv 10))
      (pss_one (ps_asg (pe_ix (k_ix (K := K) rfl hu) (pv 10) pe_int (fun _ _ => rfl)) (pg_sub (pe_ix (k_ix (K := K) rfl hu) (pv 3) (pv 5) (fun _ _ => rfl)) (pv 6) (set_any hu))))
      pss_nil)))))))))))))
      (pss_one (ps_ret (pe_tup (pa_cons (pv 3) (pa_cons (pe_callB (k_sortP (K := K) rfl) (by rfl) B.b_sorted (by decide +kernel) (pa_cons (pv 4) pa_nil)) pa_nil)))))))), ?_⟩
   obtain ⟨N, a, b, c, h, o, t, rfl, ha, hb, hc, mh, mo, mt, l1, no, nt, hq⟩ := h
   walk_at "g"
   intro r hr0
   have s2 := same_new (o := .dK []) hr0
   walk_at "g"
   intro l hl
   have s3 := same_new (o := .lst []) hl
   have s03 := s2.trans s3
   have hl0 : H l = none := s2.free hl
   walk_at "g"
   obtain ⟨a', kvs, ea, _, hra, tka⟩ := ha.dicAt
   cases ea
   have hlen : kvs.length = h.length := by rw [tka.length]; exact List.length_map _
   refine q_lockS (Sm.rd s03 hra) fun Hl od un D' lkd hD' => ?_
   walk_at "g"
   refine q_keys ?_
   walk_at "g"
   refine q_keysE lkd.at_ ?_
   have L0 : Lk1 H a kvs od Hl := ⟨fun b o e n => lkd.l1.keep b o (s03 b o e) n, lkd.at_⟩
   have hrl : r ≠ l := ne_of_none (H := upd H r (.dK [])) upd_same hl
   have er : Hl r = some (.dK []) := by
     rw [lkd.el r (L0.ne hra hr0)]
     exact s3 _ _ upd_same
   have el : Hl l = some (.lst []) := by
     rw [lkd.el l (L0.ne hra hl0)]
     exact upd_same
   refine for_keysS (kvs := kvs) (fun i σ Hi => ∃ (v5 v6 v7 v8 v9 v10 : Option V) (ys : List V), σ = [some (.ref a), some (.ref b), some (.ref c), some (.ref r), some (.ref l), v5, v6, v7, v8, v9, v10] ∧ Lk1 H a kvs od Hi ∧ Own K (fun b => H b = none ∧ b ≠ l) Hi r ((mHs5 h o t).take i) ∧
     Hi l = some (.lst ys) ∧ Ts K Hi ff ys ((((nms h).take i).flatMap fun k => mCon5 h o t k).map pr) ∧ ys.length ≤ 5 * i) ?_ ?_ ?_ ?_
   · exact ⟨none, none, none, none, none, none, [], rfl, L0, Own.nil er ⟨hr0, hrl⟩, el, .nil, Nat.le_refl _⟩
   · rintro i σ Hi _ ⟨v5, v6, v7, v8, v9, v10, ys, rfl, l1', _⟩
     exact l1'.at_
   · rintro i k v σ Hi hkv ⟨v5, v6, v7, v8, v9, v10, ys, rfl, li, oi, ei, ti, yl⟩
     obtain ⟨d0, g1, g2⟩ := Tk.at tka hkv
     obtain ⟨n, t0, hn, rfl, rfl⟩ := hK_at g1
     have hnm : n ∈ nms h := mem_nms (mem_at hn)
     have e0 : lk h n = some t0 := lk_of_mem mh.1.nd (mem_at hn)
     obtain ⟨t1, e1⟩ := lk_mem_nms (show n ∈ nms o by rw [no]; exact hnm)
     obtain ⟨t2, e2⟩ := lk_mem_nms (show n ∈ nms t by rw [nt]; exact hnm)
     have hi40 : i < 40 := by
       have := (List.getElem?_eq_some_iff.mp hkv).1
       omega
     have nk : n ∉ nms ((mHs5 h o t).take i) := by
       rw [nms_take, nms_mHs5]
       exact nd_at mh.1.nd (nms_at hn)
     walk_at "g"
     intro q hq0
     have hqH : H q = none := li.fresh hq0
     have hql : q ≠ l := fun z => by rw [z, ei] at hq0; cases hq0
     obtain ⟨kr, c1, c2, c3⟩ := oi.push (t := []) nk hq0 ⟨hqH, hql⟩ (same_new hq0) upd_same .nil
     walk_at "g"
     refine q_setD (.inr n) c1 (by rw [c2, List.length_take]; exact len_small (by omega)) ?_
     have lj := (li.same (same_new (o := .dK []) hq0)).upd hra hr0 (o := .dK (putK kr (.inr n) (.ref q)))
     have ej : (upd (upd Hi q (.dK [])) r (.dK (putK kr (.inr n) (.ref q)))) l = some (.lst ys) := by
       rw [upd_ne (Ne.symm hrl)]
       exact same_new (o := .dK []) hq0 _ _ ei
     have tj := (ti.mono (same_new (o := .dK []) hq0)).upd c1 (fun _ z => nomatch z) (fun _ _ z => nomatch z) (fun _ z => z.elim) (o' := .dK (putK kr (.inr n) (.ref q)))
     generalize upd (upd Hi q (.dK [])) r (.dK (putK kr (.inr n) (.ref q))) = Hj at c3 lj ej tj
     walk_at "g"
     refine .inl ?_
     walk_at "g"
     refine q_items ?_
     walk_at "g"
     intro p1 hp1
     rw [show [V.str (PySem.Str.ofString "a"), V.str (PySem.Str.ofString "b10"), V.str (PySem.Str.ofString "b9"), V.str (PySem.Str.ofString "c"), V.str (PySem.Str.ofString "e")] = names5s.map V.str from rfl]
     have s4 := same_new (o := .lst (names5s.map V.str)) hp1
     have hpl : p1 ≠ l := fun z => by rw [z, ej] at hp1; cases hp1
     refine q_itemsE (xs := names5s.map V.str) sq_new ?_
     refine for_items (xs := names5s.map V.str) (fun j σ Hm => ∃ (v6 v7 v8 v9 v10 : Option V) (ys : List V), σ = [some (.ref a), some (.ref b), some (.ref c), some (.ref r), some (.ref l), some (.str n), v6, v7, v8, v9, v10] ∧ Lk1 H a kvs od Hm ∧
       Own K (fun b => H b = none ∧ b ≠ l) Hm r ((mHs5 h o t).take i ++ [(n, (names5s.take j).filterMap fun x => (mS h o t n x).2.map fun d => (x, d))]) ∧ Hm p1 = some (.lst (names5s.map V.str)) ∧ Hm l = some (.lst ys) ∧
       Ts K Hm ff ys (((((nms h).take i).flatMap fun k => mCon5 h o t k) ++ (names5s.take j).filterMap fun x => if (mS h o t n x).1 = true then some (n, x) else none).map pr) ∧ ys.length ≤ 5 * i + j) ?_ ?_ ?_ ?_
     · exact ⟨v6, v7, v8, v9, v10, ys, rfl, lj.same s4, c3.mono s4, upd_same, s4 _ _ ej, by rw [List.take_zero, List.filterMap_nil, List.append_nil]; exact tj.mono s4, by omega⟩
     · rintro j σ Hm _ ⟨v6, v7, v8, v9, v10, ys, rfl, _, _, e, _⟩
       exact .inl (.inl e)
     · rintro j y σ Hm hy ⟨v6, v7, v8, v9, v10, ys, rfl, lm, om, pm, em, cm, yl2⟩
       obtain ⟨x, hx', rfl⟩ := hlist_at hy
       have hj5 : j < 5 := (List.getElem?_eq_some_iff.mp hx').1
       have enOk : ∀ {g : Hs} {tg : Tab}, MOk g → lk g n = some tg → ∀ d, ent g n x = some d → imm d = true ∧ dep d ≤ 50 := fun {g tg} mg eg d ed => by
         unfold ent at ed
         rw [eg] at ed
         have ed2 : lk tg x = some d := ed
         exact ⟨immT_lk (mg.1.tab _ (lk_mem eg)).2 ed2, mg.2.2.lk eg ed2⟩
       have n0 := en_nod (enOk mh e0)
       have n1 := en_nod (enOk mo e1)
       have n2 := en_nod (enOk mt e2)
       have rs0 := lm.rs hra
       walk_at "g"
       refine ⟨N, a, n, x, h, t0, rfl, ha.rs rs0, mh.1, e0, fun pw xw Hw sw pw0 ew tw => ?_⟩
       walk_at "g"
       refine ⟨N, b, n, x, o, t1, rfl, (hb.rs rs0).mono sw, mo.1, e1, fun pl xl Hx sx pl0 exl tl => ?_⟩
       walk_at "g"
       refine ⟨N, c, n, x, t, t2, rfl, ((hc.rs rs0).mono sw).mono sx, mt.1, e2, fun pr1 xr Hy sy pr0 exr tr => ?_⟩
       have sxy := (sw.trans sx).trans sy
       have ew2 := (sx.trans sy) _ _ ew
       have el2 := sy _ _ exl
       have tw2 := tw.mono (sx.trans sy)
       have tl2 := tl.mono sy
       have Tw : T K Hy (fun _ => True) (.ref pw) (.lst (ent h n x).toList) := .lst trivial (.inl (.inl ew2)) (tw2.imp fun _ z => z.elim)
       have Tl : T K Hy (fun _ => True) (.ref pl) (.lst (ent o n x).toList) := .lst trivial (.inl (.inl el2)) (tl2.imp fun _ z => z.elim)
       have Tr' : T K Hy (fun _ => True) (.ref pr1) (.lst (ent t n x).toList) := .lst trivial (.inl (.inl exr)) (tr.imp fun _ z => z.elim)
       have hpw : pw ≠ l := fun z => by rw [z, em] at pw0; cases pw0
       walk_at "g1"
       walk_at "g1"
       walk_at "g1"
       walk_at "g1"
       walk_at "g1"
       walk_at "g1"
       refine q_then (P := fun σ' Hv => ∃ (x10 : Addr) (x6 v7 v8 v9 : Option V) (xs10 ysw : List V), σ' = [some (.ref a), some (.ref b), some (.ref c), some (.ref r), some (.ref l), some (.str n), some (.str x), v7, v8, v9, some (.ref x10)] ∧ Lk1 H a kvs od Hv ∧
         Own K (fun b => H b = none ∧ b ≠ l) Hv r ((mHs5 h o t).take i ++ [(n, (names5s.take j).filterMap fun x => (mS h o t n x).2.map fun d => (x, d))]) ∧ Hv p1 = some (.lst (names5s.map V.str)) ∧ Hv l = some (.lst ysw) ∧
         Ts K Hv ff ysw (((((nms h).take i).flatMap fun k => mCon5 h o t k) ++ (names5s.take (j + 1)).filterMap fun x => if (mS h o t n x).1 = true then some (n, x) else none).map pr) ∧ ysw.length ≤ 5 * i + j + 1 ∧ Hv x10 = some (.lst xs10) ∧ Ts K Hv ff xs10 (mS h o t n x).2.toList) ?_ ?_
       · rintro σ' Hv ⟨x10, x6, v7, v8, v9, xs10, ysw, rfl, lv, ov, pv, ev, cv, yv, e10, t10⟩
         have fm1 : (names5s.take (j + 1)).filterMap (fun x => (mS h o t n x).2.map fun d => (x, d)) = ((names5s.take j).filterMap fun x => (mS h o t n x).2.map fun d => (x, d)) ++ ((mS h o t n x).2.map fun d => (x, d)).toList := by
           rw [take_more hx', List.filterMap_append]
           exact congrArg _ (fm_one _ _)
         walk_at "g"
         refine q_trL (.inl (.inl e10)) ?_
         cases e5 : (mS h o t n x).2 with
         | some dd =>
           rw [e5] at t10 fm1
           cases t10 with
           | @cons v0 _ _ _ t0' t1' =>
           cases t1'
           refine q_t ?_
           walk_at "g"
           refine q_ixL (.inl (.inl e10)) (atI_nat (j := 0) rfl) ?_
           walk_at "g"
           obtain ⟨kv7, q7, es7, a1, a2, a3, a4, a5, a6, a7, back⟩ := ov.at (lk_snoc nk)
           refine q_ixK (.inr n) (.inl a1) a2 ?_
           walk_at "g"
           have nkx : (Sum.inr x : Key) ∉ es7.map (·.1) := by
             rw [a4.keys, keys_tK]
             intro z
             exact nd_at names5s_nd hx' ((nms_fm (fun x => (mS h o t n x).2) _).subset (inr_mem.mp z))
           have esl : es7.length ≤ 5 := by
             have z1 := a4.length
             rw [show (tK ((names5s.take j).filterMap fun x => (mS h o t n x).2.map fun d => (x, d))).length = ((names5s.take j).filterMap fun x => (mS h o t n x).2.map fun d => (x, d)).length from List.length_map _] at z1
             have z2 := List.length_filterMap_le (fun x => (mS h o t n x).2.map fun d => (x, d)) (names5s.take j)
             rw [List.length_take] at z2
             omega
           refine q_setD (.inr x) a3 (len_small (by omega)) ?_
           have t8 : Tk K Hv ff (putK es7 (.inr x) v0) (tK (((names5s.take j).filterMap fun x => (mS h o t n x).2.map fun d => (x, d)) ++ [(x, dd)])) := by
             rw [putK_fresh nkx, tK_snoc]
             exact a4.append (Tk.cons (k := Sum.inr x) t0' .nil)
           have o8 := back _ _ t8
           rw [put_snoc nk] at o8
           refine ⟨_, _, _, _, _, ysw, rfl, lv.upd hra a5.1, ?_, sqL_dk a3 pv, sqL_dk a3 ev, cv.upd a3 (fun _ z => nomatch z) (fun _ _ z => nomatch z) (fun _ z => z.elim), by omega⟩
           rw [fm1]
           exact o8
         | none =>
           rw [e5] at t10 fm1
           cases t10
           refine q_f ?_
           walk_at "g"
           refine ⟨_, _, _, _, _, ysw, rfl, lv, ?_, pv, ev, cv, by omega⟩
           rw [fm1]
           show Own K _ Hv r (_ ++ [(n, _ ++ [])])
           rw [List.append_nil]
           exact ov
       · intro rest
         have fin : ∀ {x10 : Addr} {xs10 : List V} {en : En}, mS h o t n x = (false, en) → Hy x10 = some (.lst xs10) → Ts K Hy ff xs10 en.toList → _ := fun {x10 xs10 en} e ex tx => rest [some (.ref a), some (.ref b), some (.ref c), some (.ref r), some (.ref l), some (.str n), some (.str x), some (.ref pw), some (.ref pl), some (.ref pr1), some (.ref x10)] Hy
           ⟨x10, none, _, _, _, xs10, ys, rfl, lm.same sxy, om.mono sxy, sxy _ _ pm, sxy _ _ em, by
             rw [take_more hx', List.filterMap_append]
             have e6 : List.filterMap (fun x => if (mS h o t n x).1 = true then some (n, x) else none) [x] = [] := by
               rw [List.filterMap_cons, e, if_neg Bool.false_ne_true]
               rfl
             rw [e6, List.append_nil]
             exact cm.mono sxy, by omega, ex, by rw [e]; exact tx⟩
         walk_at "g"
         refine q_eqT Tl Tr' n1.1 n2.1 n1.2 ?_
         rw [eqb_en]
         walk_at "g"
         refine q_ite (fun c1 => ?_) (fun c1 => ?_)
         · repeat (first | exact fin (if_pos (.inl c1)) el2 tl2 | walk_at "g1")
         · walk_at "g"
           refine q_eqT Tr' Tw n2.1 n0.1 n2.2 ?_
           rw [eqb_en]
           walk_at "g"
           refine q_ite (fun c2 => ?_) (fun c2 => ?_)
           · repeat (first | exact fin (if_pos (.inr c2)) el2 tl2 | walk_at "g1")
           · have nn : ¬ (eqO (ent o n x) (ent t n x) = true ∨ eqO (ent t n x) (ent h n x) = true) := fun z => z.elim (fun z => by rw [c1] at z; cases z) (fun z => by rw [c2] at z; cases z)
             walk_at "g"
             refine q_eqT Tl Tw n1.1 n0.1 n1.2 ?_
             rw [eqb_en]
             walk_at "g"
             refine q_ite (fun c3 => ?_) (fun c3 => ?_)
             · repeat (first | exact fin ((if_neg nn).trans (if_pos c3)) exr tr | walk_at "g1")
             · have e9 : mS h o t n x = (true, ent h n x) := (if_neg nn).trans (if_neg (by rw [c3]; exact Bool.false_ne_true))
               walk_at "g"
               refine tyL (sxy _ _ em) ?_
               walk_at "g"
               intro p6 hp6
               have s8 := same_new (o := .tup [.str n, .str x]) hp6
               have s68 := sxy.trans s8
               walk_at "g"
               refine q_append (s68 _ _ em) (len_small (by omega)) ?_
               have upds : ∀ {ds : List Tr} {vs : List V}, Ts K (upd Hy p6 (.tup [.str n, .str x])) ff vs ds → Ts K (upd (upd Hy p6 (.tup [.str n, .str x])) l (.lst (ys ++ [.ref p6]))) ff vs ds := fun z => z.upd (s68 _ _ em) (fun _ z => nomatch z) (fun _ _ z => nomatch z) fun _ z => z.elim
               refine rest _ _ ⟨pw, none, _, _, _, xw, ys ++ [.ref p6], rfl, ((lm.same sxy).same s8).upd hra hl0, (om.mono s68).keep (keeps_upd (p := l)) (nt_of (s68 _ _ em) (fun _ z => nomatch z) fun _ _ z => nomatch z) (fun b z => z.2), ?_, upd_same, ?_, ?_, ?_, ?_⟩
               · rw [upd_ne hpl]
                 exact s68 _ _ pm
               · rw [take_more hx', List.filterMap_append, ← List.append_assoc, List.map_append]
                 have e6 : List.map pr (List.filterMap (fun x => if (mS h o t n x).1 = true then some (n, x) else none) [x]) = [pr (n, x)] := by
                   rw [List.filterMap_cons, e9, if_pos rfl]
                   rfl
                 rw [e6]
                 exact upds ((cm.mono s68).append (.cons (.tup st_new (.cons (.str _) (.cons (.str _) .nil))) .nil))
               · rw [List.length_append]
                 show ys.length + 1 ≤ _
                 omega
               · rw [upd_ne hpw]
                 exact s8 _ _ ew2
               · rw [e9]
                 exact upds (tw2.mono s8)
     · rintro σ Hm ⟨v6, v7, v8, v9, v10, ys, rfl, lm, om, pm, em, cm, yl2⟩
       rw [List.length_map, List.take_length] at om cm
       have yl3 : ys.length ≤ 5 * i + 5 := yl2
       have hni : (mHs5 h o t)[i]? = some (n, mTab5 h o t n) := by
         unfold mHs5
         rw [List.getElem?_map, nms_at hn]
         rfl
       have hnn : (nms h)[i]? = some n := nms_at hn
       refine ⟨_, _, _, _, _, _, ys, rfl, lm, ?_, em, ?_, by omega⟩
       · rw [take_more hni]
         exact om
       · rw [take_more hnn, List.flatMap_append]
         have e7 : List.flatMap (fun k => mCon5 h o t k) [n] = mCon5 h o t n := by simp
         rw [e7]
         exact cm
   · rintro σ Hi ⟨v5, v6, v7, v8, v9, v10, ys, rfl, li, oi, ei, ti, yl⟩
     refine hD'.nx _ _ li.at_ ?_
     have hm1 : (mHs5 h o t).take kvs.length = mHs5 h o t := by
       rw [hlen]
       refine List.take_of_length_le ?_
       rw [← nms_len, nms_mHs5, nms_len]
       exact Nat.le_refl _
     have hm2 : (nms h).take kvs.length = nms h := by
       rw [hlen, ← nms_len h]
       exact List.take_length
     rw [hm1] at oi
     rw [hm2] at ti
     have su := li.out lkd s03
     have eu : un Hi l = some (.lst ys) := by rw [lkd.un _ _ (L0.ne hra hl0)]; exact ei
     have ou := lkd.own (fun b z => L0.ne hra z.1) li.at_ oi
     have tu := ti.rs (lkd.unrs li.at_)
     generalize un Hi = Ho at su eu ou tu
     walk_at "g"
     refine q_sortP (.inl (.inl eu)) tu fun zs p tz hp => ?_
     have s9 := same_new (o := .lst zs) hp
     walk_at "g"
     intro p9 hp9
     have s10 := same_new (o := .tup [.ref r, .ref p]) hp9
     refine hq p9 r p zs _ (su.trans (s9.trans s10)) st_new ((ou.imp fun b z => z.1).mono (s9.trans s10)) (s10 _ _ upd_same) ((tz.mono s9).mono s10)
  case len =>
   obtain ⟨N, a, b, c, h, o, t, rfl, _⟩ := h
   rfl

/-- entries of these scripts -/
def Ent2 (d : Tr) : Prop := Ent d ∨ d = .tup [.str "same", .int 1]
theorem Ent2.imm {d : Tr} (h : Ent2 d) : TU.imm d = true := by
  rcases h with h | h
  · exact h.imm
  · rw [h]
    rfl
theorem Ent2.dep {d : Tr} (h : Ent2 d) : TU.dep d ≤ 50 := by
  rcases h with h | h
  · cases h with
    | int i => exact Nat.zero_le _
    | tup k => exact (show 1 ≤ 50 by decide)
    | word => exact Nat.zero_le _
  · rw [h]
    exact (show 1 ≤ 50 by decide)
theorem eqb_ent {d e : Tr} (hd : Ent2 d) (he : Ent2 e) : eqb d e = true ↔ d = e := by
  have key : ∀ {s t : Str} {i j : Int}, eqb (.tup [.str s, .int i]) (.tup [.str t, .int j]) = true ↔ (Tr.tup [.str s, .int i] = Tr.tup [.str t, .int j]) := by
    intro s t i j
    show ((s == t) && ((i == j) && true)) = true ↔ _
    simp
  have ki : ∀ {i j : Int}, eqb (.int i) (.int j) = true ↔ Tr.int i = Tr.int j := by
    intro i j
    show (i == j) = true ↔ _
    simp
  rcases hd with hd | hd
  · cases hd with
    | int i =>
      rcases he with he | he
      · cases he with
        | int j => exact ki
        | tup k => exact ⟨(fun z => by cases z), fun z => by cases z⟩
        | word => exact ⟨(fun z => by cases z), fun z => by cases z⟩
      · rw [he]
        exact ⟨(fun z => by cases z), fun z => by cases z⟩
    | tup k =>
      rcases he with he | he
      · cases he with
        | int j => exact ⟨(fun z => by cases z), fun z => by cases z⟩
        | tup k => exact key
        | word => exact ⟨(fun z => by cases z), fun z => by cases z⟩
      · rw [he]
        exact key
    | word =>
      rcases he with he | he
      · cases he with
        | int j => exact ⟨(fun z => by cases z), fun z => by cases z⟩
        | tup k => exact ⟨(fun z => by cases z), fun z => by cases z⟩
        | word => exact ⟨fun _ => rfl, fun _ => rfl⟩
      · rw [he]
        exact ⟨(fun z => by cases z), fun z => by cases z⟩
  · rw [hd]
    rcases he with he | he
    · cases he with
      | int j => exact ⟨(fun z => by cases z), fun z => by cases z⟩
      | tup k => exact key
      | word => exact ⟨(fun z => by cases z), fun z => by cases z⟩
    · rw [he]
      exact key
def EnOk (x : En) : Prop := ∀ d, x = some d → Ent2 d
theorem eqO_iff {x y : En} (hx : EnOk x) (hy : EnOk y) : eqO x y = true ↔ x = y := by
  cases x with
  | none => cases y with
    | none => exact ⟨fun _ => rfl, fun _ => rfl⟩
    | some e => exact ⟨(fun z => by cases z), fun z => by cases z⟩
  | some d => cases y with
    | none => exact ⟨(fun z => by cases z), fun z => by cases z⟩
    | some e =>
      have : eqO (some d) (some e) = (eqb d e && true) := rfl
      rw [this, Bool.and_true, eqb_ent (hx d rfl) (hy e rfl), Option.some.injEq]
/-- a house of these scripts, its tables those of another -/
structure Gs (h g : Hs) : Prop where
  wf : Wf g
  nm : nms g = nms h
  en : All Ent2 g
  na : Nam names5 g
  fit : Fits 13 g
theorem Gr.gs {h g : Hs} (x : Gr h g) : Gs h g := ⟨x.wf, x.nm, fun q hq y hy => .inl (x.en q hq y hy), x.na, fun q hq => Nat.le_trans (x.fit q hq) (by decide)⟩
theorem HG.gs {h : Hs} (x : HG h) : Gs h h := ⟨x.wf, rfl, fun q hq y hy => .inl (x.all q hq y hy), x.nam, fun q hq => Nat.le_trans (x.fit q hq) (by decide)⟩
theorem Gs.ok {h g : Hs} (x : Gs h g) : MOk g := ⟨x.wf, fun q hq => Nat.le_trans (x.fit q hq) (by decide), fun q hq y hy => (x.en q hq y hy).dep⟩
theorem Gs.sml {h g : Hs} (x : Gs h g) : Sml g := fun q hq y hy => Nat.le_trans (x.en q hq y hy).dep (by decide)
theorem Gs.at {h g : Hs} (x : Gs h g) (k n : Str) : EnOk (ent g k n) := fun d e => by
  unfold ent at e
  cases q : lk g k with
  | none =>
    rw [q] at e
    cases e
  | some t =>
    rw [q] at e
    exact x.en.lk q e
theorem Gs.in5 {h g : Hs} (x : Gs h g) {k n : Str} (c : n ∉ names5) : ent g k n = none := by
  unfold ent
  cases q : lk g k with
  | none => rfl
  | some t =>
    show lk t n = none
    refine lk_none.mpr fun m => ?_
    obtain ⟨y, hy, e⟩ := List.mem_map.mp m
    rw [← e] at c
    exact c (x.na _ (lk_mem q) y hy)
theorem n5 : ∀ n, n ∈ names5s ↔ n ∈ names5 := by
  have h1 : ∀ n ∈ names5s, n ∈ names5 := by decide +kernel
  have h2 : ∀ n ∈ names5, n ∈ names5s := by decide +kernel
  exact fun n => ⟨h1 n, h2 n⟩
theorem asc5 : Asc names5s := by
  have e : srt names5s = names5s := by decide +kernel
  rw [← e]
  exact srt_asc _
theorem fm_filter {α : Type} (f : Str → Option α) (p : Str → Bool) : ∀ (l : List Str), (∀ n ∈ l, p n = false → f n = none) → (l.filter p).filterMap f = l.filterMap f
  | [], _ => rfl
  | n :: l, h => by
    have ih := fm_filter f p l fun x hx => h x (List.mem_cons_of_mem _ hx)
    cases e : p n with
    | true => rw [List.filter_cons_of_pos e, List.filterMap_cons, List.filterMap_cons, ih]
    | false =>
      rw [List.filter_cons_of_neg (by rw [e]; exact Bool.false_ne_true), ih, List.filterMap_cons, h n List.mem_cons_self e]
theorem fm_congr {α β : Type} {f g : α → List β} : ∀ {l : List α}, (∀ x ∈ l, f x = g x) → l.flatMap f = l.flatMap g
  | [], _ => rfl
  | x :: l, h => by
    rw [List.flatMap_cons, List.flatMap_cons, h x List.mem_cons_self, fm_congr fun y hy => h y (List.mem_cons_of_mem _ hy)]
theorem set1_none : set1 none none none = (false, none) := if_pos (.inl rfl)
theorem mN_fm {α : Type} {h b o t : Hs} (gb : Gs h b) (go : Gs h o) (gt : Gs h t) (k : Str) (f : Str → Option α) (hf : ∀ n, ent b k n = none → ent o k n = none → ent t k n = none → f n = none) : (mN b o t k).filterMap f = names5s.filterMap f := by
  have hN : ∀ n, n ∈ mN b o t k ↔ ∃ g ∈ [b, o, t], n ∈ nms ((lk g k).getD []) := fun n => by
    unfold mN
    rw [(srt_perm _).mem_iff, uni_mem]
    unfold tabs
    constructor
    · rintro ⟨u, hu, m⟩
      obtain ⟨g, hg, rfl⟩ := List.mem_map.mp hu
      exact ⟨g, hg, m⟩
    · rintro ⟨g, hg, m⟩
      exact ⟨_, List.mem_map.mpr ⟨g, hg, rfl⟩, m⟩
  have noEnt : ∀ g n, n ∉ nms ((lk g k).getD []) → ent g k n = none := fun g n c => by
    unfold ent
    cases q : lk g k with
    | none => rfl
    | some u =>
      rw [q] at c
      exact lk_none.mpr c
  have sub : ∀ n ∈ mN b o t k, n ∈ names5s := fun n m => by
    obtain ⟨g, hg, m⟩ := (hN n).mp m
    have gg : Gs h g := by
      rcases List.mem_cons.mp hg with e | hg
      · rw [e]
        exact gb
      · rcases List.mem_cons.mp hg with e | hg
        · rw [e]
          exact go
        · rw [List.mem_singleton.mp hg]
          exact gt
    cases q : lk g k with
    | none =>
      rw [q] at m
      exact nomatch m
    | some u =>
      rw [q] at m
      obtain ⟨y, hy, e⟩ := List.mem_map.mp (show n ∈ nms u from m)
      rw [← e]
      exact (n5 _).mpr (gg.na _ (lk_mem q) y hy)
  have e : mN b o t k = names5s.filter fun n => decide (n ∈ mN b o t k) := by
    refine asc_unique ?_ (srt_asc _) (asc5.filter _)
    refine (List.perm_ext_iff_of_nodup (mN_nd b o t k) (names5s_nd.filter _)).mpr fun n => ?_
    rw [List.mem_filter]
    exact ⟨fun m => ⟨sub n m, decide_eq_true m⟩, fun z => of_decide_eq_true z.2⟩
  rw [e]
  refine fm_filter f _ _ fun n _ c => ?_
  have c' : n ∉ mN b o t k := of_decide_eq_false c
  have c2 : ∀ g ∈ [b, o, t], n ∉ nms ((lk g k).getD []) := fun g hg m => c' ((hN n).mpr ⟨g, hg, m⟩)
  exact hf n (noEnt b n (c2 b (by simp))) (noEnt o n (c2 o (by simp))) (noEnt t n (c2 t (by simp)))
theorem mHs_5 {h b o t : Hs} (gb : Gs h b) (go : Gs h o) (gt : Gs h t) : mHs b o t = mHs5 b o t ∧ mCs b o t = mCs5 b o t := by
  have e : ∀ k n, ent b k n = none → ent o k n = none → ent t k n = none → mS b o t k n = (false, none) := fun k n e1 e2 e3 => by
    unfold mS
    rw [e1, e2, e3]
    exact set1_none
  refine ⟨List.map_congr_left fun k _ => ?_, fm_congr fun k _ => ?_⟩
  · refine congrArg (Prod.mk k) (mN_fm gb go gt k _ fun n e1 e2 e3 => ?_)
    rw [e k n e1 e2 e3]
    rfl
  · refine mN_fm gb go gt k _ fun n e1 e2 e3 => ?_
    rw [e k n e1 e2 e3]
    rfl
theorem set1_symm {b o t : En} (hb : EnOk b) (ho : EnOk o) (ht : EnOk t) : set1 b o t = set1 b t o := by
  unfold set1
  by_cases c1 : o = t
  · rw [if_pos (.inl ((eqO_iff ho ht).mpr c1)), if_pos (.inl ((eqO_iff ht ho).mpr c1.symm)), c1]
  · by_cases c2 : t = b
    · have c3 : ¬ o = b := fun z => c1 (z.trans c2.symm)
      rw [if_pos (.inr ((eqO_iff ht hb).mpr c2)), if_neg (fun z => z.elim (fun z => c1 ((eqO_iff ht ho).mp z).symm) fun z => c3 ((eqO_iff ho hb).mp z)), if_pos ((eqO_iff ht hb).mpr c2)]
    · by_cases c3 : o = b
      · rw [if_neg (fun z => z.elim (fun z => c1 ((eqO_iff ho ht).mp z)) fun z => c2 ((eqO_iff ht hb).mp z)), if_pos ((eqO_iff ho hb).mpr c3), if_pos (.inr ((eqO_iff ho hb).mpr c3))]
      · rw [if_neg (fun z => z.elim (fun z => c1 ((eqO_iff ho ht).mp z)) fun z => c2 ((eqO_iff ht hb).mp z)), if_neg (fun z => c3 ((eqO_iff ho hb).mp z)),
          if_neg (fun z => z.elim (fun z => c1 ((eqO_iff ht ho).mp z).symm) fun z => c3 ((eqO_iff ho hb).mp z)), if_neg (fun z => c2 ((eqO_iff ht hb).mp z))]
theorem m5_symm {h b o t : Hs} (gb : Gs h b) (go : Gs h o) (gt : Gs h t) : mHs5 b o t = mHs5 b t o ∧ mCs5 b o t = mCs5 b t o := by
  have e : ∀ k n, mS b o t k n = mS b t o k n := fun k n => set1_symm (gb.at k n) (go.at k n) (gt.at k n)
  refine ⟨List.map_congr_left fun k _ => ?_, fm_congr fun k _ => ?_⟩
  · unfold mTab5
    simp only [e]
  · unfold mCon5
    simp only [e]
/-- where the merge of each pair is the third's entry -/
theorem m5_one {h b o t g : Hs} (gb : Gs h b) (gg : Gs h g) (hs : ∀ k n, mS b o t k n = (false, ent g k n)) : cpH (mHs5 b o t) = cpH g ∧ mCs5 b o t = [] := by
  constructor
  · refine cp_eq (by rw [nms_mHs5]; exact gb.wf.nd) (by rw [nms_mHs5, gb.nm, gg.nm]) fun k => ?_
    by_cases m : k ∈ nms b
    · have e1 : lk (mHs5 b o t) k = some (mTab5 b o t k) := by
        refine lk_of_mem (by rw [nms_mHs5]; exact gb.wf.nd) ?_
        exact List.mem_map.mpr ⟨k, m, rfl⟩
      obtain ⟨u, e2⟩ := lk_mem_nms (show k ∈ nms g by rw [gg.nm, ← gb.nm]; exact m)
      rw [e1, e2]
      refine congrArg some (ord_perm ?_ (gg.wf.tab _ (lk_mem e2)).1 fun n => ?_)
      · exact names5s_nd.sublist (nms_fm _ _)
      · have en : ent g k n = lk u n := by
          unfold ent
          rw [e2]
          rfl
        have key : ∀ l : List Str, l.Nodup → lk (l.filterMap fun n => (mS b o t k n).2.map fun d => (n, d)) n = if n ∈ l then lk u n else none := by
          intro l
          induction l with
          | nil => exact fun _ => rfl
          | cons x l ih =>
            intro nd
            have nd2 := List.nodup_cons.mp nd
            have ih2 := ih nd2.2
            rw [List.filterMap_cons, hs k x]
            have ex : ent g k x = lk u x := by
              unfold ent
              rw [e2]
              rfl
            rw [ex]
            cases q : lk u x with
            | none =>
              show lk (l.filterMap _) n = _
              rw [ih2]
              by_cases c : n = x
              · rw [c, if_neg nd2.1, if_pos List.mem_cons_self, q]
              · by_cases c2 : n ∈ l
                · rw [if_pos c2, if_pos (List.mem_cons_of_mem _ c2)]
                · rw [if_neg c2, if_neg fun z => (List.mem_cons.mp z).elim c c2]
            | some d =>
              show lk ((x, d) :: l.filterMap _) n = _
              rw [lk_cons, ih2]
              by_cases c : x = n
              · rw [if_pos c, ← c, if_pos List.mem_cons_self, q]
              · rw [if_neg c]
                by_cases c2 : n ∈ l
                · rw [if_pos c2, if_pos (List.mem_cons_of_mem _ c2)]
                · rw [if_neg c2, if_neg fun z => (List.mem_cons.mp z).elim (fun z => c z.symm) c2]
        unfold mTab5
        rw [key names5s names5s_nd]
        by_cases c : n ∈ names5s
        · rw [if_pos c]
        · rw [if_neg c, ← en, gg.in5 fun z => c ((n5 n).mpr z)]
    · rw [lk_none.mpr (by rw [nms_mHs5]; exact m), lk_none.mpr (by rw [gg.nm, ← gb.nm]; exact m)]
  · unfold mCs5
    rw [List.flatMap_eq_nil_iff]
    intro k _
    unfold mCon5
    rw [List.filterMap_eq_nil_iff]
    intro n _
    rw [hs k n]
    rfl
theorem mS_bbh {h b g : Hs} (gb : Gs h b) (gg : Gs h g) (k n : Str) : mS b b g k n = (false, ent g k n) := by
  unfold mS set1
  by_cases c : ent b k n = ent g k n
  · rw [if_pos (.inl ((eqO_iff (gb.at k n) (gg.at k n)).mpr c)), c]
  · rw [if_neg (fun z => z.elim (fun z => c ((eqO_iff (gb.at k n) (gg.at k n)).mp z)) fun z => c ((eqO_iff (gg.at k n) (gb.at k n)).mp z).symm), if_pos ((eqO_iff (gb.at k n) (gb.at k n)).mpr rfl)]
theorem mS_bhb {h b g : Hs} (gb : Gs h b) (gg : Gs h g) (k n : Str) : mS b g b k n = (false, ent g k n) := if_pos (.inr ((eqO_iff (gb.at k n) (gb.at k n)).mpr rfl))
theorem mS_bhh {h b g : Hs} (gg : Gs h g) (k n : Str) : mS b g g k n = (false, ent g k n) := if_pos (.inl ((eqO_iff (gg.at k n) (gg.at k n)).mpr rfl))
/-- what is merged is a house of these scripts -/
theorem m5_gs {h b o t : Hs} (gb : Gs h b) (go : Gs h o) (gt : Gs h t) : Gs h (mHs5 b o t) ∧ AscH (mHs5 b o t) ∧ Fits 5 (mHs5 b o t) := by
  have en : ∀ k n d, (mS b o t k n).2 = some d → Ent2 d := fun k n d e => by
    unfold mS set1 at e
    split at e
    · exact go.at k n d e
    · split at e
      · exact gt.at k n d e
      · exact gb.at k n d e
  have tab : ∀ q ∈ mHs5 b o t, (nms q.2).Sublist names5s ∧ ∀ x ∈ q.2, Ent2 x.2 := fun q hq => by
    obtain ⟨k, hk, rfl⟩ := List.mem_map.mp hq
    refine ⟨nms_fm _ _, fun x hx => ?_⟩
    obtain ⟨n, hn, e⟩ := List.mem_filterMap.mp (show x ∈ names5s.filterMap fun n => (mS b o t k n).2.map fun d => (n, d) from hx)
    cases e2 : (mS b o t k n).2 with
    | none =>
      rw [e2] at e
      cases e
    | some d =>
      rw [e2] at e
      cases e
      exact en k n d e2
  refine ⟨⟨⟨by rw [nms_mHs5]; exact gb.wf.nd, fun q hq => ⟨names5s_nd.sublist (tab q hq).1, fun x hx => ((tab q hq).2 x hx).imm⟩⟩, by rw [nms_mHs5, gb.nm], fun q hq x hx => (tab q hq).2 x hx, fun q hq x hx => (n5 _).mp ((tab q hq).1.subset (mem_nms hx)), fun q hq => ?_⟩, fun q hq => asc5.sublist (tab q hq).1, fun q hq => ?_⟩
  · have := (tab q hq).1.length_le
    rw [nms_len] at this
    exact Nat.le_trans this (by decide)
  · have := (tab q hq).1.length_le
    rw [nms_len] at this
    exact this
theorem eqk_len {ks ls : List (Key × Tr)} (h : eqk ks ls = true) : ks.length = ls.length := by
  unfold eqk at h
  rw [Bool.and_eq_true] at h
  simpa using h.1
theorem eqk_get {ks ls : List (Key × Tr)} (h : eqk ks ls = true) {p : Key × Tr} (hp : p ∈ ks) : ∃ e, getD ls p.1 = some e ∧ eqb p.2 e = true := by
  unfold eqk at h
  rw [Bool.and_eq_true, List.all_eq_true] at h
  have := h.2 p hp
  cases q : getD ls p.1 with
  | none =>
    rw [q] at this
    cases this
  | some e =>
    rw [q] at this
    exact ⟨e, rfl, this⟩
theorem eqHs_get {h g : Hs} (e : eqHs h g = true) (w : Wf h) {k : Str} {t : Tab} (hk : lk h k = some t) : ∃ u, lk g k = some u ∧ eqk (tK t) (tK u) = true := by
  unfold eqHs at e
  rw [Bool.and_eq_true, List.all_eq_true] at e
  have := e.2 _ (lk_mem hk)
  unfold eqTb at this
  cases q : lk g k with
  | none =>
    rw [show lk g (k, t).1 = none from q] at this
    cases this
  | some u =>
    rw [show lk g (k, t).1 = some u from q] at this
    exact ⟨u, rfl, this⟩
theorem eqk_ord {t u : Tab} (wt : (nms t).Nodup) (wu : (nms u).Nodup) (e : ord t = ord u) (h : ∀ x ∈ t, TU.nod x.2 = true) : eqk (tK t) (tK u) = true := by
  unfold eqk
  rw [Bool.and_eq_true, List.all_eq_true]
  constructor
  · have z : (tK t).length = (tK u).length := by
      rw [show (tK t).length = t.length from List.length_map _, show (tK u).length = u.length from List.length_map _, ← len_ord t, e, len_ord]
    rw [z]
    simp
  · intro p hp
    obtain ⟨q, hq, rfl⟩ := List.mem_map.mp hp
    have l1 : lk t q.1 = some q.2 := lk_of_mem wt hq
    rw [ord_lk e] at l1
    show (match getD (tK u) (.inr q.1) with | some u => eqb q.2 u | none => false) = true
    rw [get_tK, l1]
    exact eqb_refl (h q hq)
theorem eqHs_cp {h : Hs} (w : Wf h) : eqHs h (cpH h) = true := by
  unfold eqHs
  rw [nms_cp, decide_eq_true rfl, Bool.true_and, List.all_eq_true]
  intro p hp
  have l1 : lk (cpH h) p.1 = some (ord p.2) := by rw [lk_cp, lk_of_mem w.nd hp]; rfl
  unfold eqTb
  rw [l1]
  have wt := w.tab p hp
  exact eqk_ord wt.1 (nd_ord wt.1) (ord_ord wt.1).symm fun x hx => nod_of_imm (wt.2 x hx)
/-- an entry that is put is another one -/
theorem eqHs_put {h g : Hs} {k n : Str} {t : Tab} {d : Tr} (wg : Gs h g) (e : lk g k = some t) (hd : ¬ Ent2 d) (hi : ∀ x, Ent2 x → eqb x d = false) : eqHs g (put (cpH g) k (put (ord t) n d)) = false := by
  cases q : eqHs g (put (cpH g) k (put (ord t) n d)) with
  | false => rfl
  | true =>
    obtain ⟨u, h1, h2⟩ := eqHs_get q wg.wf e
    rw [lk_put, if_pos rfl] at h1
    cases h1
    have wt := wg.wf.tab _ (lk_mem e)
    by_cases c : n ∈ nms t
    · obtain ⟨x, hx⟩ := lk_mem_nms c
      obtain ⟨y, h3, h4⟩ := eqk_get h2 (p := (.inr n, x)) (List.mem_map.mpr ⟨(n, x), lk_mem hx, rfl⟩)
      rw [get_tK, lk_put, if_pos rfl] at h3
      cases h3
      rw [hi x (wg.en.lk e hx)] at h4
      cases h4
    · have := eqk_len h2
      rw [show (tK t).length = t.length from List.length_map _, show (tK (put (ord t) n d)).length = (put (ord t) n d).length from List.length_map _, ← nms_len, ← nms_len, nms_put, if_neg, List.length_append, nms_len, nms_len, len_ord] at this
      · exact absurd this (by simp)
      · rw [nms_ord]
        exact fun z => c ((srt_perm _).mem_iff.mp z)
theorem eqHs_del {h g : Hs} {k n : Str} {t u : Tab} (wg : Gs h g) (e : lk g k = some t) (hl : u.length < t.length) : eqHs g (put (cpH g) k u) = false := by
  cases q : eqHs g (put (cpH g) k u) with
  | false => rfl
  | true =>
    obtain ⟨u', h1, h2⟩ := eqHs_get q wg.wf e
    rw [lk_put, if_pos rfl] at h1
    cases h1
    have := eqk_len h2
    rw [show (tK t).length = t.length from List.length_map _, show (tK u).length = u.length from List.length_map _] at this
    omega
theorem eqHs_nms {h g : Hs} (e : srt (nms h) ≠ srt (nms g)) : eqHs h g = false := by
  unfold eqHs
  rw [decide_eq_false e, Bool.false_and]
theorem srt_ne {h g : Hs} (e : h.length ≠ g.length) : srt (nms h) ≠ srt (nms g) := fun z => e (by
  have h1 := (srt_perm (nms h)).length_eq
  have h2 := (srt_perm (nms g)).length_eq
  rw [z, h2, nms_len, nms_len] at h1
  exact h1.symm)
theorem eqHs_no {h g g' : Hs} {k : Str} {t u : Tab} (wg : Gs h g) (e : lk g k = some t) (h1 : lk g' k = some u) (hl : eqk (tK t) (tK u) = false) : eqHs g g' = false := by
  cases q : eqHs g g' with
  | false => rfl
  | true =>
    obtain ⟨u', h2, h3⟩ := eqHs_get q wg.wf e
    rw [h1] at h2
    cases h2
    rw [hl] at h3
    cases h3
theorem eqk_put {t : Tab} {n : Str} {d : Tr} (wt : (nms t).Nodup) (al : ∀ x ∈ t, Ent2 x.2) (hi : ∀ x, Ent2 x → eqb x d = false) : eqk (tK t) (tK (put (ord t) n d)) = false := by
  cases q : eqk (tK t) (tK (put (ord t) n d)) with
  | false => rfl
  | true =>
    by_cases c : n ∈ nms t
    · obtain ⟨x, hx⟩ := lk_mem_nms c
      obtain ⟨y, h3, h4⟩ := eqk_get q (p := (.inr n, x)) (List.mem_map.mpr ⟨(n, x), lk_mem hx, rfl⟩)
      rw [get_tK, lk_put, if_pos rfl] at h3
      cases h3
      rw [hi x (al _ (lk_mem hx))] at h4
      cases h4
    · have := eqk_len q
      rw [show (tK t).length = t.length from List.length_map _, show (tK (put (ord t) n d)).length = (put (ord t) n d).length from List.length_map _, ← nms_len, ← nms_len, nms_put, if_neg, List.length_append, nms_len, nms_len, len_ord] at this
      · exact absurd this (by simp)
      · rw [nms_ord]
        exact fun z => c ((srt_perm _).mem_iff.mp z)
theorem eqk_pop {t : Tab} {n : Str} {d : Tr} (c : n ∈ nms t) : eqk (tK t) (tK (del (put (ord t) n d) n)) = false := by
  cases q : eqk (tK t) (tK (del (put (ord t) n d) n)) with
  | false => rfl
  | true =>
    have := eqk_len q
    have c2 : n ∈ nms (ord t) := by
      rw [nms_ord]
      exact (srt_perm _).mem_iff.mpr c
    rw [show (tK t).length = t.length from List.length_map _, show (tK (del (put (ord t) n d) n)).length = (del (put (ord t) n d) n).length from List.length_map _, ← nms_len (del _ _), nms_del, nms_put_of c2, List.length_erase_of_mem c2, nms_len, len_ord] at this
    have hp : 0 < t.length := by
      rw [← nms_len]
      exact List.length_pos_of_mem c
    omega
theorem gs_same {h g : Hs} {k : Str} {t : Tab} (x : Gr h g) (e : lk g k = some t) : Gs h (put g k (put t "e" (.tup [.str "same", .int 1]))) := by
  have m : k ∈ nms g := mem_nms (lk_mem e)
  have wt := x.wf.tab _ (lk_mem e)
  have ft : t.length ≤ 12 := x.fit _ (lk_mem e)
  have pl := len_put_le t "e" (.tup [.str "same", .int 1])
  refine ⟨x.wf.set (nd_put wt.1 _ _) (immT_put wt.2 _ rfl), by rw [nms_put_of m]; exact x.nm, fun q hq y hy => ?_, fun q hq y hy => ?_, x.fit.set (by decide) (by omega)⟩
  · rcases mem_put hq with c | c
    · exact .inl (x.en q c y hy)
    · rw [c] at hy
      rcases mem_put hy with c2 | c2
      · exact .inl (x.en _ (lk_mem e) y c2)
      · rw [c2]
        exact .inr rfl
  · rcases mem_put hq with c | c
    · exact x.na q c y hy
    · rw [c] at hy
      rcases mem_put hy with c2 | c2
      · exact x.na _ (lk_mem e) y c2
      · rw [c2]
        exact (by decide +kernel : ("e" : Str) ∈ names5)
theorem keysL_pla : ∀ n ∈ keysL, Pla 5 n := by decide +kernel
theorem names5_pla : ∀ n ∈ names5, Pla 3 n := by decide +kernel
theorem Ent2.vw {d : Tr} {j : Bool} (h : Ent2 d) : Vw 6 1 j d := by
  rcases h with h | h
  · cases h with
    | int i h1 h2 => exact (Vw.int (sho_of (by omega) (by omega))).le (by decide) (by decide)
    | tup k h1 h2 => exact (Vw.tup (.cons (.str (n := 1) (by decide +kernel)) (.cons (.int (sho_of h1 (by omega))) .nil))).le (by decide) (by decide)
    | word => exact (Vw.str (n := 4) (by decide +kernel)).le (by decide) (by decide)
  · rw [h]
    exact (Vw.tup (.cons (.str (n := 4) (by decide +kernel)) (.cons (.int (sho_of (by decide) (by decide))) .nil))).le (by decide) (by decide)
theorem HG.in_keys {h : Hs} (g : HG h) {n : Str} (m : n ∈ nms h) : n ∈ keysL := by
  obtain ⟨k, _, _, e⟩ := g.keys
  rw [e] at m
  exact List.mem_of_mem_take m
theorem Gs.vw {h g : Hs} (hG : HG h) (x : Gs h g) : Vw 700 3 true (.dic (hK g)) := by
  have hl := hG.len
  have gl : g.length = h.length := len_of_nms x.nm
  have vk : Vwk ((5 + 150 + 2) * (hK g).length) 2 true (hK g) := Vwk.all fun p hp => by
    obtain ⟨q, hq, rfl⟩ := List.mem_map.mp hp
    refine ⟨⟨q.1, rfl, keysL_pla _ (hG.in_keys (by rw [← x.nm]; exact mem_nms hq))⟩, ?_⟩
    have vt : Vwk ((3 + 6 + 2) * (tK q.2).length) 1 true (tK q.2) := Vwk.all fun y hy => by
      obtain ⟨z, hz, rfl⟩ := List.mem_map.mp hy
      exact ⟨⟨z.1, rfl, names5_pla _ (x.na q hq z hz)⟩, (x.en q hq z hz).vw⟩
    have e : (tK q.2).length = q.2.length := List.length_map _
    exact (Vw.dic vt).le (by rw [e]; have := x.fit q hq; omega) (by decide)
  have e : (hK g).length = g.length := List.length_map _
  exact (Vw.dic vk).le (by rw [e]; omega) (by decide)
theorem HG.head {h : Hs} (g : HG h) : ∃ k rest, nms h = k :: rest := by
  have := g.len
  cases e : nms h with
  | nil =>
    have e2 := nms_len h
    rw [e] at e2
    have : h.length = 0 := e2.symm
    omega
  | cons k rest => exact ⟨k, rest, rfl⟩
/-- (merged, conflicts) != (house, []), both equal -/
theorem q_cmpH {K : PySem.W.Frag} {H : Hp} {Q : VK} {p q rt l rz pl : Addr} {ys : List V} {m g : Hs} {N1 N2 : Addr → Prop} (hp : SqT K H p [.ref rt, .ref l]) (hq : SqT K H q [.ref rz, .ref pl]) (tm : T K H N1 (.ref rt) (.dic (hK m))) (tg : T K H N2 (.ref rz) (.dic (hK g)))
    (hl : H l = some (.lst ys)) (ty : Ts K H ff ys []) (hpl : H pl = some (.lst [])) (dis : ∀ z, N1 z → ¬ N2 z) (wm : Wf m) (wg : Wf g) (sm : Sml m) (e : cpH m = cpH g) (k : Q (.bl false) H) : rNeV K (.ref p) (.ref q) H Q :=
  .inr ⟨p, q, rt, rz, .ref l, .ref pl, m, g, .lst [], N1, N2, fun _ => True, fun _ => True, rfl, rfl, hp, hq, tm, tg, dis, wm, wg, sm, e, .lst trivial (.inl (.inl hl)) (ty.imp fun _ z => z.elim), .lst trivial (.inl (.inl hpl)) .nil, rfl, (show 1 ≤ 60 by decide), k⟩
theorem q_neII {K : PySem.W.Frag} {H : Hp} {Q : VK} {a b : Int} (h : a = b) (k : Q (.bl false) H) : rNeU K (.int a) (.int b) H Q := q_neI (by rw [decide_eq_true h]; exact k)

abbrev wx9 : Hs := [(("x9" : Str), ([] : Tab))]
-- law: 0 script, 1 jar, 2 at, 3 base, 4 one, 5 two, 6 key, 7 before, 8 due, 9 met, 10 told, 11 house, 12 name, 13 bent, 14 wider
theorem sc_law : FnScope ["script", "jar", "at", "base", "one", "two", "key", "before", "due", "met", "told", "house", "name", "bent", "wider"] ["script"] (defScope s_law) := ⟨rfl, rfl, rfl, by decide +kernel, rfl, by decide +kernel, by decide +kernel⟩
theorem d_law (B : Bt mg) (F : TopF K mg "law" s_law ["script"]) (D_law_same : Df P w K mg base "_law_same" ["told", "house"] 1 (spSame K)) (D_merge : Df P w K mg base "merge" ["base", "one", "two"] 5 (spMe K C_Misfit)) (D_is_merge : Df P w K mg base "is_merge" ["base", "one", "two", "house"] 6 (spIM K)) (D_law_refusal : Df P w K mg base "_law_refusal" ["base", "one", "two"] 7 (spRf K)) (D_law_copy : Df P w K mg base "_law_copy" ["house"] 1 (spCH K)) (D_law_says : Df P w K mg base "_law_says" ["actual", "due"] 1 (spSays K)) (D_conflicts : Df P w K mg base "conflicts" ["base", "one", "two"] 6 (spCo K)) (D_law_merge : Df P w K mg base "_law_merge" ["base", "one", "two"] 2 (spLM K)) (D_law_draw : Df P w K mg base "_law_draw" ["jar", "at", "many"] 1 (spDraw)) (D_law_grown : Df P w K mg base "_law_grown" ["jar", "at", "base", "many"] 5 (spGr K)) (D_law_house : Df P w K mg base "_law_house" ["jar", "at"] 3 (spHouse K)) (D_law_jar : Df P w K mg base "_law_jar" ["script"] 1 (spJar K)) : ∃ fa, mg "law" = some (.ref fa) ∧ TopOk P w K mg base fa (spLaw K) := by
  refine top_ok (k := 8) F sc_law ⟨rfl, by decide, by decide⟩ (fun f cdv A s H vs Q E hg hr h => ?body)
  case body =>
   have hu := hr.units
   have hgd : (A.deeper (envOfC "law" (defScope s_law) s.heap.objs.size f cdv)).guards = some [] := hg
   refine ⟨_, (pss_cons (ps_set (i := 1) sc_law.nd rfl (Or.inl rfl) (pe_df D_law_jar (hr.mono (by decide)) (fun σ => passAt (takes_of rfl rfl rfl rfl) σ) (pa_cons (pv 0) pa_nil)))
      (pss_cons (ps_set (i := 2) sc_law.nd rfl (Or.inl rfl) (pe_lst (pa_cons pe_int pa_nil)))
      (pss_cons (ps_set (i := 3) sc_law.nd rfl (Or.inl rfl) (pe_df D_law_house (hr.mono (by decide)) (fun σ => passAt (takes_of rfl rfl rfl rfl) σ) (pa_cons (pv 1) (pa_cons (pv 2) pa_nil))))
      (pss_cons (ps_set (i := 4) sc_law.nd rfl (Or.inl rfl) (pe_df D_law_grown (hr.mono (by decide)) (fun σ => passAt (takes_of rfl rfl rfl rfl) σ) (pa_cons (pv 1) (pa_cons (pv 2) (pa_cons (pv 3) (pa_cons (pe_df D_law_draw (hr.mono (by decide)) (fun σ => passAt (takes_of rfl rfl rfl rfl) σ) (pa_cons (pv 1) (pa_cons (pv 2) (pa_cons pe_int pa_nil)))) pa_nil))))))
      (pss_cons (ps_set (i := 5) sc_law.nd rfl (Or.inl rfl) (pe_df D_law_grown (hr.mono (by decide)) (fun σ => passAt (takes_of rfl rfl rfl rfl) σ) (pa_cons (pv 1) (pa_cons (pv 2) (pa_cons (pv 3) (pa_cons (pe_df D_law_draw (hr.mono (by decide)) (fun σ => passAt (takes_of rfl rfl rfl rfl) σ) (pa_cons (pv 1) (pa_cons (pv 2) (pa_cons pe_int pa_nil)))) pa_nil))))))
      (pss_cons (ps_if (pt_cmpR (k_eq (K := K) rfl hu) (pe_df D_law_draw (hr.mono (by decide)) (fun σ => passAt (takes_of rfl rfl rfl rfl) σ) (pa_cons (pv 1) (pa_cons (pv 2) (pa_cons pe_int pa_nil)))) pe_int (nomark _))
      (pss_cons (ps_set (i := 6) sc_law.nd rfl (Or.inl rfl) (pe_ix (k_ix (K := K) rfl hu) (pe_callTy (k_list (K := K) rfl rfl) (by rfl) B.b_list (by decide +kernel) (pa_cons (pv 3) pa_nil)) pe_int (fun _ _ => rfl)))
      (pss_cons (ps_asg (pe_tup (pa_cons pe_str (pa_cons pe_int pa_nil))) (pg_sub (pe_ix (k_ix (K := K) rfl hu) (pv 4) (pv 6) (fun _ _ => rfl)) pe_str (set_any hu)))
      (pss_one (ps_asg (pe_tup (pa_cons pe_str (pa_cons pe_int pa_nil))) (pg_sub (pe_ix (k_ix (K := K) rfl hu) (pv 5) (pv 6) (fun _ _ => rfl)) pe_str (set_any hu))))))
      pss_nil)
      (pss_cons (ps_set (i := 7) sc_law.nd rfl (Or.inl rfl) (pe_callB (k_repr (K := K) rfl hgd hu) (by rfl) B.b_repr (by decide +kernel) (pa_cons (pe_tup (pa_cons (pv 3) (pa_cons (pv 4) (pa_cons (pv 5) pa_nil)))) pa_nil)))
      (pss_cons (ps_asg (pe_df D_law_merge (hr.mono (by decide)) (fun σ => passAt (takes_of rfl rfl rfl rfl) σ) (pa_cons (pv 3) (pa_cons (pv 4) (pa_cons (pv 5) pa_nil)))) (k_tup (K := K) rfl (by rfl) (pgs_cons (pg_name (i := 8) sc_law.nd rfl (Or.inl rfl)) (pgs_cons (pg_name (i := 9) sc_law.nd rfl (Or.inl rfl)) pgs_nil))))
      (pss_cons (ps_set (i := 10) sc_law.nd rfl (Or.inl rfl) (pe_df D_merge (hr.mono (by decide)) (fun σ => passAt (takes_of rfl rfl rfl rfl) σ) (pa_cons (pv 3) (pa_cons (pv 4) (pa_cons (pv 5) pa_nil)))))
      (pss_cons (ps_if (PW.pt (pw_or (pt_not (k_tr (K := K) rfl (pe_callB (k_isi (K := K) rfl) (by rfl) B.b_isinstance (by decide +kernel) (pa_cons (pv 10) (pa_cons (pe_bltn (v := .ty "tuple") (by rfl) B.b_tuple (by decide +kernel) rfl) pa_nil))))) (pw_or (pt_cmpR (k_neV (K := K) rfl hu) (pe_callB (k_len (K := K) rfl) (by rfl) B.b_len (by decide +kernel) (pa_cons (pv 10) pa_nil)) pe_int (nomark _)) (pw_or (pt_not (k_tr (K := K) rfl (pe_df D_law_same (hr.mono (by decide)) (fun σ => passAt (takes_of rfl rfl rfl rfl) σ) (pa_cons (pe_ix (k_ix (K := K) rfl hu) (pv 10) pe_int (fun _ _ => rfl)) (pa_cons (pv 8) pa_nil))))) (pw_or (pt_cmpR (k_neV (K := K) rfl hu) (pe_ix (k_ix (K := K) rfl hu) (pv 10) pe_int (fun _ _ => rfl)) (pv 9) (nomark _)) (pw_or1 (pt_not (k_tr (K := K) rfl (pe_callB (k_isi (K := K) rfl) (by rfl) B.b_isinstance (by decide +kernel) (pa_cons (pe_ix (k_ix (K := K) rfl hu) (pv 10) pe_int (fun _ _ => rfl)) (pa_cons (pe_bltn (v := .ty "list") (by rfl) B.b_list (by decide +kernel) rfl) pa_nil)))))))))))
      (pss_one (ps_ret pe_bl))
      pss_nil)
      (pss_cons (ps_if (PW.pt (pw_or (pt_cmpR (k_neV (K := K) rfl hu) (pe_df D_conflicts (hr.mono (by decide)) (fun σ => passAt (takes_of rfl rfl rfl rfl) σ) (pa_cons (pv 3) (pa_cons (pv 4) (pa_cons (pv 5) pa_nil)))) (pv 9) (nomark _)) (pw_or (pt_cmpR (k_neV (K := K) rfl hu) (pe_df D_conflicts (hr.mono (by decide)) (fun σ => passAt (takes_of rfl rfl rfl rfl) σ) (pa_cons (pv 3) (pa_cons (pv 5) (pa_cons (pv 4) pa_nil)))) (pv 9) (nomark _)) (pw_or1 (pt_not (k_tr (K := K) rfl (pe_df D_law_same (hr.mono (by decide)) (fun σ => passAt (takes_of rfl rfl rfl rfl) σ) (pa_cons (pe_ix (k_ix (K := K) rfl hu) (pe_df D_merge (hr.mono (by decide)) (fun σ => passAt (takes_of rfl rfl rfl rfl) σ) (pa_cons (pv 3) (pa_cons (pv 5) (pa_cons (pv 4) pa_nil)))) pe_int (fun _ _ => rfl)) (pa_cons (pv 8) pa_nil)))))))))
      (pss_one (ps_ret pe_bl))
      pss_nil)
      (pss_cons (ps_lockU (ps_for (passes_of rfl) rfl (k_walk (K := K) rfl (pe_lst (pa_cons (pv 4) (pa_cons (pv 5) pa_nil)))) (pg_name (i := 11) sc_law.nd rfl (Or.inl rfl))
      (pss_one (ps_if (PW.pt (pw_or (pt_cmpR (k_neV (K := K) rfl hu) (pe_df D_merge (hr.mono (by decide)) (fun σ => passAt (takes_of rfl rfl rfl rfl) σ) (pa_cons (pv 3) (pa_cons (pv 3) (pa_cons (pv 11) pa_nil)))) (pe_tup (pa_cons (pv 11) (pa_cons (pe_lst pa_nil) pa_nil))) (nomark _)) (pw_or (pt_cmpR (k_neV (K := K) rfl hu) (pe_df D_merge (hr.mono (by decide)) (fun σ => passAt (takes_of rfl rfl rfl rfl) σ) (pa_cons (pv 3) (pa_cons (pv 11) (pa_cons (pv 3) pa_nil)))) (pe_tup (pa_cons (pv 11) (pa_cons (pe_lst pa_nil) pa_nil))) (nomark _)) (pw_or1 (pt_cmpR (k_neV (K := K) rfl hu) (pe_df D_merge (hr.mono (by decide)) (fun σ => passAt (takes_of rfl rfl rfl rfl) σ) (pa_cons (pv 3) (pa_cons (pv 11) (pa_cons (pv 11) pa_nil)))) (pe_tup (pa_cons (pv 11) (pa_cons (pe_lst pa_nil) pa_nil))) (nomark _))))))
      (pss_one (ps_ret pe_bl))
      pss_nil))))
      (pss_cons (ps_if (pt_not (k_tr (K := K) rfl (pe_df D_law_says (hr.mono (by decide)) (fun σ => passAt (takes_of rfl rfl rfl rfl) σ) (pa_cons (pe_df D_is_merge (hr.mono (by decide)) (fun σ => passAt (takes_of rfl rfl rfl rfl) σ) (pa_cons (pv 3) (pa_cons (pv 4) (pa_cons (pv 5) (pa_cons (pe_df D_law_copy (hr.mono (by decide)) (fun σ => passAt (takes_of rfl rfl rfl rfl) σ) (pa_cons (pv 8) pa_nil)) pa_nil))))) (pa_cons (pe_cmpR (k_eq (K := K) rfl hu) (pv 9) (pe_lst pa_nil) (nomark _)) pa_nil)))))
      (pss_one (ps_ret pe_bl))
      pss_nil)
      (pss_cons (ps_lockU (ps_for (passes_of rfl) rfl (k_walk (K := K) rfl (pv 3)) (pg_name (i := 6) sc_law.nd rfl (Or.inl rfl))
      (pss_one (ps_lockU (ps_for (passes_of rfl) rfl (k_walk (K := K) rfl (pe_lst (pa_cons pe_str (pa_cons pe_str pa_nil)))) (pg_name (i := 12) sc_law.nd rfl (Or.inl rfl))
      (pss_cons (ps_set (i := 13) sc_law.nd rfl (Or.inl rfl) (pe_df D_law_copy (hr.mono (by decide)) (fun σ => passAt (takes_of rfl rfl rfl rfl) σ) (pa_cons (pv 8) pa_nil)))
      (pss_cons (ps_asg (pe_tup (pa_cons pe_str (pa_cons pe_int pa_nil))) (pg_sub (pe_ix (k_ix (K := K) rfl hu) (pv 13) (pv 6) (fun _ _ => rfl)) (pv 12) (set_any hu)))
      (pss_cons (ps_if (pt_cmpR op_notBl (pe_df D_is_merge (hr.mono (by decide)) (fun σ => passAt (takes_of rfl rfl rfl rfl) σ) (pa_cons (pv 3) (pa_cons (pv 4) (pa_cons (pv 5) (pa_cons (pv 13) pa_nil))))) pe_bl (nomark _))
      (pss_one (ps_ret pe_bl))
      pss_nil)
      (pss_one (ps_if (pt_cmpR (k_in (K := K) rfl hu) (pv 12) (pe_ix (k_ix (K := K) rfl hu) (pv 8) (pv 6) (fun _ _ => rfl)) (by rfl))
      (pss_cons (ps_expr (pe_dpop1 (pe_ix (k_ix (K := K) rfl hu) (pv 13) (pv 6) (fun _ _ => rfl)) (pv 12) ⟨rfl, rfl, rfl, rfl⟩))
      (pss_one (ps_if (pt_cmpR op_notBl (pe_df D_is_merge (hr.mono (by decide)) (fun σ => passAt (takes_of rfl rfl rfl rfl) σ) (pa_cons (pv 3) (pa_cons (pv 4) (pa_cons (pv 5) (pa_cons (pv 13) pa_nil))))) pe_bl (nomark _))
      (pss_one (ps_ret pe_bl))
      pss_nil)))
      pss_nil))))))))))
      (pss_cons (ps_set (i := 14) sc_law.nd rfl (Or.inl rfl) (pe_df D_law_copy (hr.mono (by decide)) (fun σ => passAt (takes_of rfl rfl rfl rfl) σ) (pa_cons (pv 4) pa_nil)))
      (pss_cons (ps_asg pe_dnewK (pg_sub (pv 14) pe_str (set_any hu)))
      (pss_cons (ps_if (PW.pt (pw_or (pt_cmpR (k_neV (K := K) rfl hu) (pe_df D_law_refusal (hr.mono (by decide)) (fun σ => passAt (takes_of rfl rfl rfl rfl) σ) (pa_cons (pv 3) (pa_cons (pv 14) (pa_cons (pv 5) pa_nil)))) (pe_tup (pa_cons pe_str (pa_cons pe_str pa_nil))) (nomark _)) (pw_or1 (pt_cmpR (k_neV (K := K) rfl hu) (pe_df D_law_refusal (hr.mono (by decide)) (fun σ => passAt (takes_of rfl rfl rfl rfl) σ) (pa_cons (pv 3) (pa_cons (pv 5) (pa_cons (pv 14) pa_nil)))) (pe_tup (pa_cons pe_str (pa_cons pe_str pa_nil))) (nomark _)))))
      (pss_one (ps_ret pe_bl))
      pss_nil)
      (pss_cons (ps_if (PW.pt (pw_or (pt_cmpR (k_neV (K := K) rfl hu) (pe_df D_law_refusal (hr.mono (by decide)) (fun σ => passAt (takes_of rfl rfl rfl rfl) σ) (pa_cons (pv 14) (pa_cons (pv 4) (pa_cons (pv 5) pa_nil)))) (pe_tup (pa_cons pe_str (pa_cons pe_str pa_nil))) (nomark _)) (pw_or1 (pt_cmpR op_notBl (pe_df D_is_merge (hr.mono (by decide)) (fun σ => passAt (takes_of rfl rfl rfl rfl) σ) (pa_cons (pv 3) (pa_cons (pv 4) (pa_cons (pv 5) (pa_cons (pv 14) pa_nil))))) pe_bl (nomark _)))))
      (pss_one (ps_ret pe_bl))
      pss_nil)
      (pss_cons (ps_lockU (ps_for (passes_of rfl) rfl (k_walk (K := K) rfl (pv 3)) (pg_name (i := 6) sc_law.nd rfl (Or.inl rfl))
      (pss_one (ps_asg pe_int (pg_sub (pe_ix (k_ix (K := K) rfl hu) (pe_ix (k_ix (K := K) rfl hu) (pv 10) pe_int (fun _ _ => rfl)) (pv 6) (fun _ _ => rfl)) pe_str (set_any hu))))))
      (pss_one (ps_ret (pe_and (pe_cmpR (k_eq (K := K) rfl hu) (pe_callB (k_repr (K := K) rfl hgd hu) (by rfl) B.b_repr (by decide +kernel) (pa_cons (pe_tup (pa_cons (pv 3) (pa_cons (pv 4) (pa_cons (pv 5) pa_nil)))) pa_nil)) (pv 7) (nomark _)) (pe_one (pe_df D_law_same (hr.mono (by decide)) (fun σ => passAt (takes_of rfl rfl rfl rfl) σ) (pa_cons (pe_ix (k_ix (K := K) rfl hu) (pe_df D_merge (hr.mono (by decide)) (fun σ => passAt (takes_of rfl rfl rfl rfl) σ) (pa_cons (pv 3) (pa_cons (pv 4) (pa_cons (pv 5) pa_nil)))) pe_int (fun _ _ => rfl)) (pa_cons (pv 8) pa_nil)))))))))))))))))))))))))), ?_⟩
   obtain ⟨a0, ns, rfl, hns, hlen, hq⟩ := h
   walk_at "g"
   refine ⟨a0, ns, rfl, hns, hlen, fun j H1 ms s1 hj0 hj ml mb => ?_⟩
   walk_at "g"
   intro a ha
   have hja : j ≠ a := ne_of_none hj ha
   have s2 := same_new (o := .lst [.int 0]) ha
   have R0 : Rnd (upd H1 a (.lst [.int 0])) j a 0 := ⟨⟨ms, s2 _ _ hj, ml, mb⟩, upd_same, hja, Int.le_refl _⟩
   generalize upd H1 a (.lst [.int 0]) = H2 at R0
   clear s1 s2
   walk_at "g"
   refine ⟨j, a, 0, rfl, R0, by decide, fun r b H3 p3 k3 R3 p30 p31 hr0 o3 hG => ?_⟩
   have nb : ∀ {Hx : Hp} {p : Int}, Rnd Hx j a p → ∀ z, Hx z = none → z ≠ a := fun R z e => (R.ja e).2
   walk_at "g"
   refine ⟨j, a, p3, 7, rfl, R3, Int.le_trans (show p3 ≤ 400 by omega) (by decide), by decide, fun v p4 v0 v1 p40 p41 => ?_⟩
   obtain ⟨many, rfl⟩ : ∃ n : Nat, v = n := ⟨v.toNat, by omega⟩
   have R4 := R3.set (p' := p4) (by omega)
   have o4 := o3.kp (Kp.upd (a := a) (o := .lst [.int p4])) R3.at_ (nb R0)
   generalize upd H3 a (.lst [.int p4]) = H4 at R4 o4
   refine ⟨_, j, a, r, p4, b, many, rfl, R4, Int.le_trans (show p4 + 100 ≤ 600 by omega) (by decide), by omega, nb R0, o4, hG, fun r1 H5 p5 o k5 R5 p50 p51 o5 go => ?_⟩
   have ob5 := (o4.live).kp k5 R4.at_ fun z e => nb R0 z e.1
   walk_at "g"
   refine ⟨j, a, p5, 7, rfl, R5, Int.le_trans (show p5 ≤ 800 by omega) (by decide), by decide, fun v p6 v0 v1 p60 p61 => ?_⟩
   obtain ⟨many2, rfl⟩ : ∃ n : Nat, v = n := ⟨v.toNat, by omega⟩
   have R6 := R5.set (p' := p6) (by omega)
   have ob6 := ob5.kp (Kp.upd (a := a) (o := .lst [.int p6])) R5.at_ fun z e => nb R0 z e.1
   have o6 := o5.kp (Kp.upd (a := a) (o := .lst [.int p6])) R5.at_ (nb R4)
   have k6 : Kp a H4 (upd H5 a (.lst [.int p6])) := Kp.trans k5 Kp.upd
   generalize upd H5 a (.lst [.int p6]) = H6 at R6 ob6 o6 k6
   refine ⟨_, j, a, r, p6, b, many2, rfl, R6, Int.le_trans (show p6 + 100 ≤ 1000 by omega) (by decide), by omega, fun z e => nb R0 z e.1, ob6, hG, fun r2 H7 p7 t k7 R7 p70 p71 o7 gt => ?_⟩
   have ob7 := ob6.kp k7 R6.at_ fun z e => nb R0 z e.1
   have oo7 := (o6.live).kp k7 R6.at_ fun z e => nb R4 z e.1
   walk_at "g1"
   walk_at "g1"
   refine q_then (P := fun σ' G => ∃ (v6 : Option V) (o t : Hs), σ' = [some (.ref a0), some (.ref j), some (.ref a), some (.ref r), some (.ref r1), some (.ref r2), v6, none, none, none, none, none, none, none, none] ∧ Own K (fun _ => True) G r b ∧ Own K (fun _ => True) G r1 o ∧ Own K (fun _ => True) G r2 t ∧ Gs b o ∧ Gs b t) ?_ ?_
   · rintro σ' G ⟨v6, o, t, rfl, ob, oo, ot, go, gt⟩
     obtain ⟨hl1, hl3⟩ := hG.len
     have gb : Gs b b := hG.gs
     have lo : o.length = b.length := len_of_nms go.nm
     have lt : t.length = b.length := len_of_nms gt.nm
     have same2 : srt (nms b) = srt (nms o) ∧ srt (nms b) = srt (nms t) := ⟨by rw [go.nm], by rw [gt.nm]⟩
     have same2' : srt (nms b) = srt (nms t) ∧ srt (nms b) = srt (nms o) := ⟨same2.2, same2.1⟩
     obtain ⟨e5H, e5C⟩ := mHs_5 gb go gt
     obtain ⟨e5H', e5C'⟩ := mHs_5 gb gt go
     obtain ⟨sH, sC⟩ := m5_symm gb go gt
     rw [← sH] at e5H'
     rw [← sC] at e5C'
     obtain ⟨gD, aD, fD⟩ := m5_gs gb go gt
     have lD : (mHs5 b o t).length = b.length := by rw [← nms_len, nms_mHs5, nms_len]
     -- what stands, readable at every later heap
     have tb0 : T K G (fun z => G z ≠ none) (.ref r) (.dic (hK b)) := (ob.live.imp fun z e => e.2).T
     have to0 : T K G (fun z => G z ≠ none) (.ref r1) (.dic (hK o)) := (oo.live.imp fun z e => e.2).T
     have tt0 : T K G (fun z => G z ≠ none) (.ref r2) (.dic (hK t)) := (ot.live.imp fun z e => e.2).T
     clear ob oo ot
     have vB : Vw (700 + 1 + (700 + 1 + (700 + 1 + 0))) 4 true (.tup [.dic (hK b), .dic (hK o), .dic (hK t)]) := Vw.tup (.cons (gb.vw hG) (.cons (go.vw hG) (.cons (gt.vw hG) .nil)))
     obtain ⟨before, hbef⟩ : ∃ x, x = (py (.tup [.dic (hK b), .dic (hK o), .dic (hK t)])).shown := ⟨_, rfl⟩
     have rep : ∀ {Hx : Hp} {NX : Addr → Prop} {p : Addr} {Q5 : VK}, T K Hx NX (.ref r) (.dic (hK b)) → T K Hx NX (.ref r1) (.dic (hK o)) → T K Hx NX (.ref r2) (.dic (hK t)) → Hx p = none → Q5 (.str before) (upd Hx p (.tup [.ref r, .ref r1, .ref r2])) →
         rReprT K [.ref p] (upd Hx p (.tup [.ref r, .ref r1, .ref r2])) Q5 := fun {Hx NX p Q5} x1 x2 x3 hp k => by
       have s := same_new (o := .tup [.ref r, .ref r1, .ref r2]) hp
       refine q_reprN (T.tup st_new (.cons (x1.mono s) (.cons (x2.mono s) (.cons (x3.mono s) .nil)))) vB (by decide) (by decide) ?_
       rw [← hbef]
       exact k
     walk_at "g"
     intro p0 hp0
     walk_at "g"
     refine rep tb0 to0 tt0 hp0 ?_
     have s0 := same_new (o := .tup [.ref r, .ref r1, .ref r2]) hp0
     have tb1 := tb0.mono s0
     have to1 := to0.mono s0
     have tt1 := tt0.mono s0
     have nG1 : ∀ z, G z ≠ none → (upd G p0 (.tup [.ref r, .ref r1, .ref r2])) z ≠ none := fun z e e2 => e (s0.free e2)
     generalize upd G p0 (.tup [.ref r, .ref r1, .ref r2]) = G1 at tb1 to1 tt1 nG1
     walk_at "g"
     -- due, met
     refine ⟨_, r, r1, r2, b, o, t, rfl, tb1, to1, tt1, gb.ok, go.ok, gt.ok, by omega, go.nm, gt.nm, fun p2 rd ld yd G2 s2 hp2 od hld tld => ?_⟩
     walk_at "g"
     refine q_gtup hp2 rfl (q_gcons ?_)
     walk_at "g"
     refine q_gcons ?_
     walk_at "g"
     refine q_gnil ?_
     walk_at "g"
     -- all of it at the heap Z, ahead of told
     have tb2 : T K G2 (fun z => G2 z ≠ none) (.ref r) (.dic (hK b)) := (tb1.mono s2).imp fun z e e2 => nG1 z e (s2.free e2)
     have to2 : T K G2 (fun z => G2 z ≠ none) (.ref r1) (.dic (hK o)) := (to1.mono s2).imp fun z e e2 => nG1 z e (s2.free e2)
     have tt2 : T K G2 (fun z => G2 z ≠ none) (.ref r2) (.dic (hK t)) := (tt1.mono s2).imp fun z e e2 => nG1 z e (s2.free e2)
     have td2 : T K G2 (fun z => G2 z ≠ none) (.ref rd) (.dic (hK (mHs5 b o t))) := (od.live.imp fun z e => e.2).T
     clear tb0 to0 tt0 tb1 to1 tt1 od
     refine ⟨_, r, r1, r2, b, o, t, rfl, tb2, to2, tt2, gb.ok, go.ok, gt.ok, by omega, by omega, by omega, fun _ pt rt lt' yt G3 s3 hpt otd hlt _ tlt => ?_, fun z => absurd same2 z⟩
     rw [e5H] at otd
     rw [e5C] at tlt
     walk_at "g"
     refine q_isiT hpt ?_
     walk_at "g"
     refine q_lenT hpt ?_
     refine .inl (q_neII rfl ?_)
     walk_at "g"
     refine q_ixT hpt (atI_nat (j := 0) rfl) ?_
     walk_at "g"
     refine ⟨_, _, rt, rd, mHs5 b o t, rfl, otd.T, td2.mono s3, gD.wf, gD.sml, aD, fun q hq => Nat.le_trans (fD q hq) (by decide), by omega, fun G4 s4 => ?_⟩
     have s24 := s3.trans s4
     have otd4 := otd.mono s4
     have tC : ∀ {Hx : Hp} {lx : Addr} {yx : List V}, Hx lx = some (.lst yx) → Ts K Hx ff yx ((srtP (mCs5 b o t)).map pr) → T K Hx (fun _ => True) (.ref lx) (.lst ((srtP (mCs5 b o t)).map pr)) := fun {Hx lx yx} e t => .lst trivial (.inl (.inl e)) (t.imp fun _ z => z.elim)
     have td4 := tC (s24 _ _ hld) ((tld.mono s24))
     walk_at "g"
     refine q_ixT (Sm.sqT s4 hpt) (atI_nat (j := 1) rfl) ?_
     walk_at "g"
     refine .inl (q_neT (tC (s4 _ _ hlt) (tlt.mono s4)) td4 (nod_prs _) (nod_prs _) (dep_prs _) ?_)
     rw [eqb_refl (nod_prs _)]
     walk_at "g"
     refine q_ixT (Sm.sqT s4 hpt) (atI_nat (j := 1) rfl) ?_
     walk_at "g"
     refine q_isiL (.inl (.inl (s4 _ _ hlt))) ?_
     walk_at "g"
     -- conflicts
     have NX : ∀ {Hx : Hp} {rx : Addr} {g : Hs}, Same G2 Hx → T K G2 (fun z => G2 z ≠ none) (.ref rx) (.dic (hK g)) → T K Hx (fun z => G2 z ≠ none) (.ref rx) (.dic (hK g)) := fun {Hx rx g} s t => t.mono s
     refine ⟨_, r, r1, r2, b, o, t, rfl, NX s24 tb2, NX s24 to2, NX s24 tt2, gb.ok, go.ok, gt.ok, by omega, by omega, by omega, same2, fun l5 y5 G5 s5 hl5 t5 => ?_⟩
     rw [e5C] at t5
     have s25 := s24.trans s5
     walk_at "g"
     refine .inl (q_neT (tC hl5 t5) (tC (s25 _ _ hld) (tld.mono s25)) (nod_prs _) (nod_prs _) (dep_prs _) ?_)
     rw [eqb_refl (nod_prs _)]
     walk_at "g"
     refine ⟨_, r, r2, r1, b, t, o, rfl, NX s25 tb2, NX s25 tt2, NX s25 to2, gb.ok, gt.ok, go.ok, by omega, by omega, by omega, same2', fun l6 y6 G6 s6 hl6 t6 => ?_⟩
     rw [e5C'] at t6
     have s26 := s25.trans s6
     walk_at "g"
     refine .inl (q_neT (tC hl6 t6) (tC (s26 _ _ hld) (tld.mono s26)) (nod_prs _) (nod_prs _) (dep_prs _) ?_)
     rw [eqb_refl (nod_prs _)]
     walk_at "g"
     refine ⟨_, r, r2, r1, b, t, o, rfl, NX s26 tb2, NX s26 tt2, NX s26 to2, gb.ok, gt.ok, go.ok, by omega, by omega, by omega, fun _ p7 rt7 l7 y7 G7 s7 hp7 ot7 _ _ _ => ?_, fun z => absurd same2' z⟩
     rw [e5H'] at ot7
     have s27 := s26.trans s7
     walk_at "g"
     refine q_ixT hp7 (atI_nat (j := 0) rfl) ?_
     walk_at "g"
     refine ⟨_, _, rt7, rd, mHs5 b o t, rfl, ot7.T, td2.mono s27, gD.wf, gD.sml, aD, fun q hq => Nat.le_trans (fD q hq) (by decide), by omega, fun G8 s8 => ?_⟩
     have s28 := s27.trans s8
     walk_at "g"
     -- for house in [one, two]
     refine .inl ?_
     walk_at "g"
     refine q_items ?_
     walk_at "g"
     intro pz hpz
     have s9 := s28.trans (same_new (o := .lst [.ref r1, .ref r2]) hpz)
     have otd9 := (otd4.mono (((s5.trans s6).trans s7).trans s8)).mono (same_new (o := .lst [.ref r1, .ref r2]) hpz)
     have hpt9 := Sm.sqT (((((s4.trans s5).trans s6).trans s7).trans s8).trans (same_new (o := .lst [.ref r1, .ref r2]) hpz)) hpt
     have hpz9 : (upd G8 pz (.lst [.ref r1, .ref r2])) pz = some (.lst (([(r1, o), (r2, t)] : List (Addr × Hs)).map fun z => V.ref z.1)) := upd_same
     refine q_itemsE (xs := ([(r1, o), (r2, t)] : List (Addr × Hs)).map fun z => V.ref z.1) sq_new ?_
     generalize upd G8 pz (.lst [.ref r1, .ref r2]) = G9 at s9 otd9 hpt9 hpz9
     clear otd otd4 ot7 hpt
     refine for_items (xs := ([(r1, o), (r2, t)] : List (Addr × Hs)).map fun z => V.ref z.1) (fun i σ Hi => ∃ (v11 : Option V), σ = [some (.ref a0), some (.ref j), some (.ref a), some (.ref r), some (.ref r1), some (.ref r2), v6, some (.str before), some (.ref rd), some (.ref ld), some (.ref pt), v11, none, none, none] ∧ Same G9 Hi) ?_ ?_ ?_ ?_
     · exact ⟨none, rfl, Same.refl'⟩
     · rintro i σ Hi _ ⟨v11, rfl, si⟩
       exact .inl (.inl (si _ _ hpz9))
     · rintro i x σ Hi hx ⟨v11, rfl, si⟩
       obtain ⟨z, hz, rfl⟩ := map_at hx
       have zz : T K G2 (fun z => G2 z ≠ none) (.ref z.1) (.dic (hK z.2)) ∧ Gs b z.2 := by
         rcases List.mem_cons.mp (mem_at hz) with e | mz
         · rw [e]
           exact ⟨to2, go⟩
         · rw [List.mem_singleton.mp mz]
           exact ⟨tt2, gt⟩
       obtain ⟨tz, gz⟩ := zz
       have lz : z.2.length = b.length := len_of_nms gz.nm
       have s9i := s9.trans si
       walk_at "g"
       refine ⟨_, r, r, z.1, b, b, z.2, rfl, NX s9i tb2, NX s9i tb2, NX s9i tz, gb.ok, gb.ok, gz.ok, by omega, by omega, by omega, fun _ pm rm lm ym MA smA hpm om hlm _ tlm => ?_, fun c => absurd ⟨by rw [gb.nm], by rw [gz.nm]⟩ c⟩
       rw [(mHs_5 gb gb gz).1] at om
       rw [(mHs_5 gb gb gz).2, (m5_one gb gz (mS_bbh gb gz)).2] at tlm
       have sxA := s9i.trans smA
       walk_at "g"
       intro plA hplA
       have slA := same_new (o := .lst []) hplA
       walk_at "g"
       intro pqA hpqA
       have sqA := same_new (o := .tup [.ref z.1, .ref plA]) hpqA
       have swA := slA.trans sqA
       refine q_cmpH (N1 := fun c => Hi c = none) (N2 := fun c => G2 c ≠ none) (Sm.sqT swA hpm) st_new ((om.mono swA).T) (NX (sxA.trans swA) tz) (swA _ _ hlm) (tlm.mono swA) (sqA _ _ upd_same) (fun c e1 e2 => e2 (s9i.free e1)) (m5_gs gb gb gz).1.wf gz.wf (m5_gs gb gb gz).1.sml (m5_one gb gz (mS_bbh gb gz)).1 ?_
       have stA := sxA.trans swA
       have ssA := si.trans (smA.trans swA)
       generalize upd (upd MA plA (.lst [])) pqA (.tup [.ref z.1, .ref plA]) = WA at stA ssA
       clear smA sxA slA sqA swA om tlm hpm hlm
       walk_at "g"
       refine ⟨_, r, z.1, r, b, z.2, b, rfl, NX stA tb2, NX stA tz, NX stA tb2, gb.ok, gz.ok, gb.ok, by omega, by omega, by omega, fun _ pm rm lm ym MB smB hpm om hlm _ tlm => ?_, fun c => absurd ⟨by rw [gz.nm], by rw [gb.nm]⟩ c⟩
       rw [(mHs_5 gb gz gb).1] at om
       rw [(mHs_5 gb gz gb).2, (m5_one gb gz (mS_bhb gb gz)).2] at tlm
       have sxB := stA.trans smB
       walk_at "g"
       intro plB hplB
       have slB := same_new (o := .lst []) hplB
       walk_at "g"
       intro pqB hpqB
       have sqB := same_new (o := .tup [.ref z.1, .ref plB]) hpqB
       have swB := slB.trans sqB
       refine q_cmpH (N1 := fun c => WA c = none) (N2 := fun c => G2 c ≠ none) (Sm.sqT swB hpm) st_new ((om.mono swB).T) (NX (sxB.trans swB) tz) (swB _ _ hlm) (tlm.mono swB) (sqB _ _ upd_same) (fun c e1 e2 => e2 (stA.free e1)) (m5_gs gb gz gb).1.wf gz.wf (m5_gs gb gz gb).1.sml (m5_one gb gz (mS_bhb gb gz)).1 ?_
       have stB := sxB.trans swB
       have ssB := ssA.trans (smB.trans swB)
       generalize upd (upd MB plB (.lst [])) pqB (.tup [.ref z.1, .ref plB]) = WB at stB ssB
       clear smB sxB slB sqB swB om tlm hpm hlm
       walk_at "g"
       refine ⟨_, r, z.1, z.1, b, z.2, z.2, rfl, NX stB tb2, NX stB tz, NX stB tz, gb.ok, gz.ok, gz.ok, by omega, by omega, by omega, fun _ pm rm lm ym MC smC hpm om hlm _ tlm => ?_, fun c => absurd ⟨by rw [gz.nm], by rw [gz.nm]⟩ c⟩
       rw [(mHs_5 gb gz gz).1] at om
       rw [(mHs_5 gb gz gz).2, (m5_one gb gz (mS_bhh gz)).2] at tlm
       have sxC := stB.trans smC
       walk_at "g"
       intro plC hplC
       have slC := same_new (o := .lst []) hplC
       walk_at "g"
       intro pqC hpqC
       have sqC := same_new (o := .tup [.ref z.1, .ref plC]) hpqC
       have swC := slC.trans sqC
       refine q_cmpH (N1 := fun c => WB c = none) (N2 := fun c => G2 c ≠ none) (Sm.sqT swC hpm) st_new ((om.mono swC).T) (NX (sxC.trans swC) tz) (swC _ _ hlm) (tlm.mono swC) (sqC _ _ upd_same) (fun c e1 e2 => e2 (stB.free e1)) (m5_gs gb gz gz).1.wf gz.wf (m5_gs gb gz gz).1.sml (m5_one gb gz (mS_bhh gz)).1 ?_
       have stC := sxC.trans swC
       have ssC := ssB.trans (smC.trans swC)
       generalize upd (upd MC plC (.lst [])) pqC (.tup [.ref z.1, .ref plC]) = WC at stC ssC
       clear smC sxC slC sqC swC om tlm hpm hlm
       walk_at "g"
       exact ⟨_, rfl, ssC⟩
     · rintro σ Hi ⟨v11, rfl, si⟩
       walk_at "g"
       have sA := s9.trans si
       have otdA := otd9.mono si
       have hptA := Sm.sqT si hpt9
       clear s9 si otd9 hpt9 hpz9
       -- is_merge of a copy
       refine ⟨_, rd, mHs5 b o t, rfl, NX sA td2, gD.wf, fun q hq => Nat.le_trans (fD q hq) (by decide), by omega, fun rc Hc sc oc => ?_⟩
       walk_at "g"
       refine ⟨_, _, r, r1, r2, rc, b, o, t, cpH (mHs5 b o t), rfl, NX (sA.trans sc) tb2, NX (sA.trans sc) to2, NX (sA.trans sc) tt2, oc.T, gb.ok, go.ok, gt.ok, by omega, by omega, by omega, same2, gD.wf.cp, by rw [len_cp]; omega, by rw [e5H]; exact gD.wf, by rw [e5H]; exact gD.sml, fun Hd sd => ?_⟩
       rw [e5H, e5C, eqHs_cp gD.wf, Bool.and_true]
       have sB := (sA.trans sc).trans sd
       walk_at "g"
       intro pe hpe
       have se := same_new (o := .lst []) hpe
       refine q_eqT (P := fun _ => True) (d := .lst ((srtP (mCs5 b o t)).map pr)) (e := .lst []) (tC ((sB.trans se) _ _ hld) (tld.mono (sB.trans se))) (.lst trivial sq_new .nil) (nod_prs _) rfl (dep_prs _) ?_
       rw [eqb_prs]
       have e1 : decide (srtP (mCs5 b o t) = []) = decide (mCs5 b o t = []) := by
         rw [decide_eq_decide]
         exact srtP_nil
       rw [e1]
       have sC2 := sB.trans se
       have otdC := otdA.mono ((sc.trans sd).trans se)
       have hptC := Sm.sqT ((sc.trans sd).trans se) hptA
       clear otdA hptA oc
       generalize upd Hd pe (.lst []) = GA at sC2 otdC hptC
       walk_at "g"
       refine ⟨_, _, rfl, ?_⟩
       rw [decide_eq_true rfl]
       walk_at "g"
       -- for key in base: for name in [..]
       obtain ⟨a', kvs, ea, _, hra2, tka2⟩ := tb2.dicAt
       cases ea
       obtain ⟨rd', kd, ed, _, hrd2, tkd2⟩ := td2.dicAt
       cases ed
       have hra := Sm.rd sC2 hra2
       have hrd := Sm.rd sC2 hrd2
       have tkA := tka2.mono sC2
       have tkD := tkd2.mono sC2
       have tbA := NX sC2 tb2
       have toA := NX sC2 to2
       have ttA := NX sC2 tt2
       have tdA := NX sC2 td2
       have hkl : kvs.length = b.length := by rw [tkA.length]; exact List.length_map _
       refine q_lockS hra fun Hl od un D' lkd hD' => ?_
       walk_at "g"
       refine q_keys ?_
       walk_at "g"
       refine q_keysE lkd.at_ ?_
       refine for_keysS (kvs := kvs) (fun i σ Hi => ∃ (v6 v12 v13 : Option V), σ = [some (.ref a0), some (.ref j), some (.ref a), some (.ref r), some (.ref r1), some (.ref r2), v6, some (.str before), some (.ref rd), some (.ref ld), some (.ref pt), v11, v12, v13, none] ∧ Lk1 GA r kvs od Hi) ?_ ?_ ?_ ?_
       · exact ⟨_, none, none, rfl, lkd.l1⟩
       · rintro i σ Hi _ ⟨v6, v12, v13, rfl, l1⟩
         exact l1.at_
       · rintro i k v σ Hi hkv ⟨v6, v12, v13, rfl, li⟩
         obtain ⟨d0, g1, g2⟩ := Tk.at tkA hkv
         obtain ⟨n, t0, hn, rfl, rfl⟩ := hK_at g1
         have hnD : n ∈ nms (mHs5 b o t) := by rw [nms_mHs5]; exact mem_nms (mem_at hn)
         obtain ⟨tD, eD⟩ := lk_mem_nms hnD
         have wD := gD.wf.tab _ (lk_mem eD)
         have fD' : tD.length ≤ 5 := fD _ (lk_mem eD)
         have eD2 : lk (cpH (mHs5 b o t)) n = some (ord tD) := by rw [lk_cp, eD]; rfl
         walk_at "g"
         refine .inl ?_
         walk_at "g"
         refine q_items ?_
         walk_at "g"
         intro pn hpn
         rw [show [V.str (PySem.Str.ofString "a"), V.str (PySem.Str.ofString "e")] = (["a", "e"] : List Str).map V.str from rfl]
         have li2 := li.same (same_new (o := .lst ((["a", "e"] : List Str).map V.str)) hpn)
         have hpn2 : (upd Hi pn (.lst ((["a", "e"] : List Str).map V.str))) pn = some (.lst ((["a", "e"] : List Str).map V.str)) := upd_same
         refine q_itemsE (xs := (["a", "e"] : List Str).map V.str) sq_new ?_
         generalize upd Hi pn (.lst ((["a", "e"] : List Str).map V.str)) = Hj at li2 hpn2
         refine for_items (xs := (["a", "e"] : List Str).map V.str) (fun k σ Hk => ∃ (v12 v13 : Option V), σ = [some (.ref a0), some (.ref j), some (.ref a), some (.ref r), some (.ref r1), some (.ref r2), some (.str n), some (.str before), some (.ref rd), some (.ref ld), some (.ref pt), v11, v12, v13, none] ∧ Lk1 GA r kvs od Hk ∧ Hk pn = some (.lst ((["a", "e"] : List Str).map V.str))) ?_ ?_ ?_ ?_
         · exact ⟨v12, v13, rfl, li2, hpn2⟩
         · rintro k σ Hk _ ⟨v12, v13, rfl, _, e⟩
           exact .inl (.inl e)
         · rintro k y σ Hm hy ⟨v12, v13, rfl, lm, pnm⟩
           obtain ⟨name, hname, rfl⟩ := hlist_at hy
           have rs := lm.rs hra
           walk_at "g"
           refine ⟨_, rd, mHs5 b o t, rfl, tdA.rs rs, gD.wf, fun q hq => Nat.le_trans (fD q hq) (by decide), by omega, fun rb Hb sb obn => ?_⟩
           walk_at "g"
           intro px hpx
           have sx := same_new (o := .tup [.str "other", .int 2]) hpx
           have sbx := sb.trans sx
           have tx : T K (upd Hb px (.tup [.str "other", .int 2])) ff (.ref px) (.tup [.str "other", .int 2]) := .tup st_new (.cons (.str _) (.cons (.int _) .nil))
           have obx := obn.mono sx
           generalize upd Hb px (.tup [.str "other", .int 2]) = Hx at sbx tx obx
           obtain ⟨kw, qw, ew, y1, y2, y3, y4, yq, _, _, yback⟩ := obx.at eD2
           walk_at "g"
           refine q_ixK (.inr n) (.inl y1) y2 ?_
           walk_at "g"
           refine q_setD (.inr name) y3 ?_ ?_
           · rw [y4.length]
             unfold tK
             rw [List.length_map, len_ord]
             exact len_small (by omega)
           have ob2 := yback (putK ew (.inr name) (.ref px)) (put (ord tD) name (.tup [.str "other", .int 2])) (by
             rw [← put_tK (nd_ord wD.1)]
             exact y4.put tx)
           have l2 := (lm.same sbx).upd hra (lm.fresh yq) (o := .dK (putK ew (.inr name) (.ref px)))
           have pn2 : (upd Hx qw (.dK (putK ew (.inr name) (.ref px)))) pn = some (.lst ((["a", "e"] : List Str).map V.str)) := sqL_dk y3 (sbx _ _ pnm)
           generalize upd Hx qw (.dK (putK ew (.inr name) (.ref px))) = Hn at ob2 l2 pn2
           have rs2 := l2.rs hra
           have hi : ∀ x, Ent2 x → eqb x (.tup [.str "other", .int 2]) = false := fun x hx => by
             rcases hx with hx | hx
             · cases hx <;> rfl
             · rw [hx]
               rfl
           have wg2 : Wf (put (cpH (mHs5 b o t)) n (put (ord tD) name (.tup [.str "other", .int 2]))) := gD.wf.cp.set (nd_put (nd_ord wD.1) _ _) (immT_put (immT_ord wD.2) _ rfl)
           have lg2 : (put (cpH (mHs5 b o t)) n (put (ord tD) name (.tup [.str "other", .int 2]))).length ≤ 40 := by
             rw [len_put_of (mem_nms (lk_mem eD2)), len_cp]
             omega
           have n1 : eqHs (mHs5 b o t) (put (cpH (mHs5 b o t)) n (put (ord tD) name (.tup [.str "other", .int 2]))) = false := eqHs_no gD eD (by rw [lk_put, if_pos rfl]) (eqk_put wD.1 (fun x hx => gD.en _ (lk_mem eD) x hx) hi)
           walk_at "g"
           refine ⟨_, _, r, r1, r2, rb, b, o, t, _, rfl, tbA.rs rs2, toA.rs rs2, ttA.rs rs2, ob2.T, gb.ok, go.ok, gt.ok, by omega, by omega, by omega, same2, wg2, lg2, by rw [e5H]; exact gD.wf, by rw [e5H]; exact gD.sml, fun Ho so => ?_⟩
           rw [e5H, n1, Bool.and_false]
           walk_at "g"
           refine q_notB ?_
           rw [show (!decide (false = false)) = false from rfl]
           have l3 := l2.same so
           have rs3 := l3.rs hra
           walk_at "g"
           obtain ⟨qd, ed2, z1, _, z2, z3⟩ := T.tab tkD eD
           refine q_ixK (.inr n) (rs3.dk hrd) z1 ?_
           refine q_inD (.inr name) (rs3.dk z2) ?_
           walk_at "g"
           cases e2 : lk tD name with
           | some dd =>
             obtain ⟨vd, w1, w2⟩ := z3.ent e2
             rw [w1]
             walk_at "g"
             refine q_dpop1 ?_
             have eN : lk (put (cpH (mHs5 b o t)) n (put (ord tD) name (.tup [.str "other", .int 2]))) n = some (put (ord tD) name (.tup [.str "other", .int 2])) := by rw [lk_put, if_pos rfl]
             have cD : name ∈ nms tD := mem_nms (lk_mem e2)
             obtain ⟨ku, qu, eu, u1, u2, u3, u4, uq, _, _, uback⟩ := (ob2.mono so).at eN
             have lkn : lk (put (ord tD) name (.tup [.str "other", .int 2])) name = some (.tup [.str "other", .int 2]) := by rw [lk_put, if_pos rfl]
             obtain ⟨vo, r8, r9⟩ := u4.ent lkn
             walk_at "g"
             refine q_ixK (.inr n) (.inl u1) u2 ?_
             refine ⟨qu, rfl, .inl ⟨eu, .inl u3⟩, ?_⟩
             walk_at "g"
             refine ⟨eu, .inr name, vo, u3, rfl, r8, ?_⟩
             have wtn : (nms (put (ord tD) name (.tup [.str "other", .int 2]))).Nodup := nd_put (nd_ord wD.1) _ _
             have ob3 := uback (dropK eu (.inr name)) (del (put (ord tD) name (.tup [.str "other", .int 2])) name) (by
               rw [← del_tK wtn]
               exact u4.del _)
             have l4 := l3.upd hra (lm.fresh uq) (o := .dK (dropK eu (.inr name)))
             have pn4 : (upd Ho qu (.dK (dropK eu (.inr name)))) pn = some (.lst ((["a", "e"] : List Str).map V.str)) := sqL_dk u3 (so _ _ pn2)
             generalize upd Ho qu (.dK (dropK eu (.inr name))) = Hq at ob3 l4 pn4
             have rs4 := l4.rs hra
             have n2 : eqHs (mHs5 b o t) (put (put (cpH (mHs5 b o t)) n (put (ord tD) name (.tup [.str "other", .int 2]))) n (del (put (ord tD) name (.tup [.str "other", .int 2])) name)) = false := eqHs_no gD eD (by rw [lk_put, if_pos rfl]) (eqk_pop cD)
             walk_at "g"
             refine ⟨_, _, r, r1, r2, rb, b, o, t, _, rfl, tbA.rs rs4, toA.rs rs4, ttA.rs rs4, ob3.T, gb.ok, go.ok, gt.ok, by omega, by omega, by omega, same2, wg2.set (nd_del wtn _) (immT_del (immT_put (immT_ord wD.2) _ rfl) _), by rw [len_put_of (mem_nms (lk_mem eN))]; exact lg2, by rw [e5H]; exact gD.wf, by rw [e5H]; exact gD.sml, fun Hr sr => ?_⟩
             rw [e5H, n2, Bool.and_false]
             walk_at "g"
             refine q_notB ?_
             rw [show (!decide (false = false)) = false from rfl]
             walk_at "g"
             exact ⟨_, _, rfl, l4.same sr, sr _ _ pn4⟩
           | none =>
             rw [z3.nent e2]
             walk_at "g"
             exact ⟨_, _, rfl, l3, so _ _ pn2⟩
         · rintro σ Hm ⟨v12, v13, rfl, lm, pnm⟩
           walk_at "g"
           exact ⟨_, _, _, rfl, lm⟩
       · rintro σ Hi ⟨v6, v12, v13, rfl, li⟩
         refine hD'.nx _ _ li.at_ ?_
         have sD := li.out lkd Same.refl'
         have sE := sC2.trans sD
         have otdE := otdC.mono sD
         have hptE := Sm.sqT sD hptC
         clear otdC hptC li hD' lkd
         generalize un Hi = Hw at sE otdE hptE
         walk_at "g"
         -- wider = _law_copy(one)
         refine ⟨_, r1, o, rfl, NX sE to2, go.wf, fun q hq => Nat.le_trans (go.fit q hq) (by decide), by omega, fun wi Hx sx ow => ?_⟩
         walk_at "g"
         intro qx hqx
         have x9 : ("x9" : Str) ∉ nms (cpH o) := by
           rw [nms_cp, go.nm]
           exact fun m => (by decide +kernel : ("x9" : Str) ∉ keysL) (hG.in_keys m)
         obtain ⟨kr, c1, c2, c3⟩ := ow.push (t := []) x9 hqx (sx.free hqx) (same_new hqx) upd_same .nil
         have wi0 := ow.nr
         walk_at "g"
         refine q_setD (.inr "x9") c1 (by rw [c2, len_cp]; exact len_small (by omega)) ?_
         have sF : Same Hw (upd (upd Hx qx (.dK [])) wi (.dK (putK kr (.inr "x9") (.ref qx)))) := fun z u e => by
           rw [upd_ne (ne_of_none e wi0), upd_ne (ne_of_none (sx _ _ e) hqx)]
           exact sx _ _ e
         generalize upd (upd Hx qx (.dK [])) wi (.dK (putK kr (.inr "x9") (.ref qx))) = Hy at c3 sF
         have sG := sE.trans sF
         have wW : Wf (cpH o ++ wx9) := ⟨by
           rw [nms_append]
           exact List.nodup_append.mpr ⟨go.wf.cp.nd, by simp [nms], fun a ha b hb e => x9 (by
             have hb2 : b = "x9" := by simpa [nms] using hb
             rw [← hb2, ← e]
             exact ha)⟩, fun q hq => by
           rcases List.mem_append.mp hq with m | m
           · exact go.wf.cp.tab q m
           · rw [List.mem_singleton.mp m]
             exact ⟨List.nodup_nil, fun x hx => nomatch hx⟩⟩
         have mW : MOk (cpH o ++ wx9) := ⟨wW, fun q hq => by
           rcases List.mem_append.mp hq with m | m
           · exact Nat.le_trans (go.fit.cp q m) (by decide)
           · rw [List.mem_singleton.mp m]
             exact Nat.zero_le _, fun q hq x hx => by
           rcases List.mem_append.mp hq with m | m
           · exact (go.en.cp q m x hx).dep
           · rw [List.mem_singleton.mp m] at hx
             exact nomatch hx⟩
         have lW : (cpH o ++ wx9).length = b.length + 1 := by
           rw [List.length_append, len_cp, lo]
           rfl
         have lW40 : (cpH o ++ wx9).length ≤ 40 := by rw [lW]; omega
         have ne1 : srt (nms b) ≠ srt (nms (cpH o ++ wx9)) := srt_ne (by rw [lW]; omega)
         have ne2 : srt (nms (cpH o ++ wx9)) ≠ srt (nms o) := srt_ne (by rw [lW]; omega)
         have tW := c3.T
         have anyN : ∀ {Hz : Hp} {N5 : Addr → Prop} {x : Addr} {g : Hs}, T K Hz N5 (.ref x) (.dic (hK g)) → T K Hz (fun _ => True) (.ref x) (.dic (hK g)) := fun t => t.imp fun _ _ => trivial
         walk_at "g"
         refine ⟨_, r, wi, r2, b, _, t, rfl, anyN (NX sG tb2), anyN tW, anyN (NX sG tt2), gb.ok, mW, gt.ok, by omega, lW40, by omega, fun z => ne1 z.1, fun pa Ha sa ea => ?_⟩
         walk_at "g"
         intro pa2 hpa2
         have sa2 := same_new (o := .tup [.str "house", .str "tables"]) hpa2
         refine .inl (q_neP (Sm.sqT sa2 (.inl (.inl ea))) st_new ?_)
         have sH1 := (sG.trans sa).trans sa2
         have sW1 := sa.trans sa2
         generalize upd Ha pa2 (.tup [.str "house", .str "tables"]) = Hb at sH1 sW1
         walk_at "g"
         refine ⟨_, r, r2, wi, b, t, _, rfl, anyN (NX sH1 tb2), anyN (NX sH1 tt2), anyN (tW.mono sW1), gb.ok, gt.ok, mW, by omega, by omega, lW40, fun z => ne1 z.2, fun pb Hc sb eb => ?_⟩
         walk_at "g"
         intro pb2 hpb2
         have sb2 := same_new (o := .tup [.str "house", .str "tables"]) hpb2
         refine .inl (q_neP (Sm.sqT sb2 (.inl (.inl eb))) st_new ?_)
         have sH2 := (sH1.trans sb).trans sb2
         have sW2 := (sW1.trans sb).trans sb2
         generalize upd Hc pb2 (.tup [.str "house", .str "tables"]) = Hd2 at sH2 sW2
         walk_at "g"
         refine ⟨_, wi, r1, r2, _, o, t, rfl, anyN (tW.mono sW2), anyN (NX sH2 to2), anyN (NX sH2 tt2), mW, go.ok, gt.ok, lW40, by omega, by omega, fun z => ne2 z.1, fun pc He sc3 ec => ?_⟩
         walk_at "g"
         intro pc2 hpc2
         have sc4 := same_new (o := .tup [.str "house", .str "tables"]) hpc2
         refine .inl (q_neP (Sm.sqT sc4 (.inl (.inl ec))) st_new ?_)
         have sH3 := (sH2.trans sc3).trans sc4
         have sW3 := (sW2.trans sc3).trans sc4
         generalize upd He pc2 (.tup [.str "house", .str "tables"]) = Hf at sH3 sW3
         walk_at "g"
         refine ⟨_, _, r, r1, r2, wi, b, o, t, _, rfl, NX sH3 tb2, NX sH3 to2, NX sH3 tt2, tW.mono sW3, gb.ok, go.ok, gt.ok, by omega, by omega, by omega, same2, wW, lW40, by rw [e5H]; exact gD.wf, by rw [e5H]; exact gD.sml, fun Hg sg => ?_⟩
         have n3 : eqHs (mHs5 b o t) (cpH o ++ wx9) = false := eqHs_nms (srt_ne (by rw [lW]; omega))
         rw [e5H, n3, Bool.and_false]
         walk_at "g"
         refine q_notB ?_
         rw [show (!decide (false = false)) = false from rfl]
         have sI := sH3.trans sg
         have otdI := otdE.mono ((sF.trans sW3).trans sg)
         have hptI := Sm.sqT ((sF.trans sW3).trans sg) hptE
         clear otdE hptE
         walk_at "g"
         -- told is spoilt
         refine q_lockS (Sm.rd sI hra2) fun Hl2 od2 un2 D2 lkd2 hD2 => ?_
         walk_at "g"
         refine q_keys ?_
         walk_at "g"
         refine q_keysE lkd2.at_ ?_
         have L0 : Lk1 G2 r kvs od2 Hl2 := ⟨fun b o e n => lkd2.l1.keep b o (sI b o e) n, lkd2.at_⟩
         have ntr : ∀ z xs, z = r → ¬ Rd Hg z (.tup xs) := fun z xs e rd => by
           subst e
           exact nt_rd (Sm.rd sI hra2) rd
         have kr2 : Keeps (fun z => z = r) Hg Hl2 := fun z u n e => by rw [lkd2.el z n]; exact e
         refine for_keysS (kvs := kvs) (fun i σ H1 => ∃ (v6 : Option V) (ht : Hs), σ = [some (.ref a0), some (.ref j), some (.ref a), some (.ref r), some (.ref r1), some (.ref r2), v6, some (.str before), some (.ref rd), some (.ref ld), some (.ref pt), v11, v12, v13, some (.ref wi)] ∧ Lk1 G2 r kvs od2 H1 ∧ SqT K H1 pt [.ref rt, .ref lt'] ∧
           Own K (fun z => G2 z = none) H1 rt ht ∧ nms ht = nms b ∧ Wf ht ∧ Fits (5 + i) ht) ?_ ?_ ?_ ?_
         · exact ⟨_, _, rfl, L0, sqT_keep kr2 ntr hptI, otdI.keep kr2 ntr fun z e => L0.ne hra2 e, nms_mHs5 b o t, gD.wf, fD⟩
         · rintro i σ H1 _ ⟨v6, ht, rfl, l1, _⟩
           exact l1.at_
         · rintro i k v σ H1 hkv ⟨v6, ht, rfl, l1, ptq, ot, nt, wt, ft⟩
           obtain ⟨d0, g1, g2⟩ := Tk.at tka2 hkv
           obtain ⟨n, t0, hn, rfl, rfl⟩ := hK_at g1
           have hnm : n ∈ nms b := mem_nms (mem_at hn)
           have hi3 : i < 3 := by
             have := (List.getElem?_eq_some_iff.mp hkv).1
             omega
           obtain ⟨t2, e2⟩ := lk_mem_nms (show n ∈ nms ht by rw [nt]; exact hnm)
           obtain ⟨kt, qt, et, z1, z2, z3, z4, zq, _, _, zback⟩ := ot.at e2
           have wt2 := wt.tab _ (lk_mem e2)
           have f2 : t2.length ≤ 5 + i := ft _ (lk_mem e2)
           walk_at "g"
           refine q_ixT ptq (atI_nat (j := 0) rfl) ?_
           walk_at "g"
           refine q_ixK (.inr n) (.inl z1) z2 ?_
           walk_at "g"
           refine q_setD (.inr "x7") z3 ?_ ?_
           · rw [z4.length]
             unfold tK
             rw [List.length_map]
             exact len_small (by omega)
           have ot2 := zback (putK et (.inr "x7") (.int 7)) (put t2 "x7" (.int 7)) (by
             rw [← put_tK wt2.1]
             exact z4.put (.int 7))
           have p2 := len_put_le t2 "x7" (.int 7)
           exact ⟨_, _, rfl, l1.upd hra2 zq, sqT_keep (keeps_upd (p := qt)) (no_tup z3) ptq, ot2, (nms_put_of (mem_nms (lk_mem e2))).trans nt, wt.set (nd_put wt2.1 _ _) (immT_put wt2.2 _ rfl), ft.set (by omega) (by omega)⟩
         · rintro σ H1 ⟨v6, ht, rfl, l1, _⟩
           refine hD2.nx _ _ l1.at_ ?_
           have so := l1.out lkd2 sI
           generalize un2 H1 = Ho at so
           walk_at "g"
           intro p5 hp5
           walk_at "g"
           refine rep (NX so tb2) (NX so to2) (NX so tt2) hp5 ?_
           have sp := so.trans (same_new (o := .tup [.ref r, .ref r1, .ref r2]) hp5)
           walk_at "g"
           rw [decide_eq_true rfl]
           walk_at "g"
           refine ⟨_, r, r1, r2, b, o, t, rfl, NX sp tb2, NX sp to2, NX sp tt2, gb.ok, go.ok, gt.ok, by omega, by omega, by omega, fun _ p6 r6 l6 y6 Hs6 s6' hp6 o6 _ _ _ => ?_, fun z => absurd same2 z⟩
           rw [e5H] at o6
           walk_at "g"
           refine q_ixT hp6 (atI_nat (j := 0) rfl) ?_
           walk_at "g"
           refine ⟨_, _, r6, rd, mHs5 b o t, rfl, o6.T, NX (sp.trans s6') td2, gD.wf, gD.sml, aD, fun q hq => Nat.le_trans (fD q hq) (by decide), by omega, fun Hs7 s7' => ?_⟩
           exact hq _
   · intro rest
     walk_at "g"
     refine ⟨j, a, p7, 3, rfl, R7, Int.le_trans (show p7 ≤ 1200 by omega) (by decide), by decide, fun v p8 v0 v1 p80 p81 => ?_⟩
     have R8 := R7.set (p' := p8) (by omega)
     have ob8 := ob7.kp (Kp.upd (a := a) (o := .lst [.int p8])) R7.at_ fun z e => nb R0 z e.1
     have oo8 := oo7.kp (Kp.upd (a := a) (o := .lst [.int p8])) R7.at_ fun z e => nb R4 z e.1
     have ot8 := o7.kp (Kp.upd (a := a) (o := .lst [.int p8])) R7.at_ (nb R6)
     generalize upd H7 a (.lst [.int p8]) = H8 at ob8 oo8 ot8
     walk_at "g"
     refine q_dec (fun c => ?_) (fun c => ?_)
     · obtain ⟨k0, rk, hk0⟩ := hG.head
       have m0 : k0 ∈ nms b := by rw [hk0]; exact List.mem_cons_self
       obtain ⟨t1, e1⟩ := lk_mem_nms (show k0 ∈ nms o by rw [go.nm]; exact m0)
       obtain ⟨t2, e2⟩ := lk_mem_nms (show k0 ∈ nms t by rw [gt.nm]; exact m0)
       obtain ⟨kb, eb, ekb⟩ := ob8.key
       walk_at "g"
       refine q_listK (.inl eb) fun q hq1 => ?_
       rw [keysV ekb, hk0]
       have s9 := same_new (o := .lst ((k0 :: rk).map V.str)) hq1
       walk_at "g"
       refine q_ixL sq_new (atI_nat (j := 0) (v := .str k0) rfl) ?_
       walk_at "g"
       intro p9 hp9
       have s10 := s9.trans (same_new (o := .tup [.str "same", .int 1]) hp9)
       have st9 : SqT K (upd (upd H8 q (.lst ((k0 :: rk).map V.str))) p9 (.tup [.str "same", .int 1])) p9 [.str "same", .int 1] := st_new
       have ob9 := ob8.mono s10
       have oo9 := oo8.mono s10
       have ot9 := ot8.mono s10
       generalize upd (upd H8 q (.lst ((k0 :: rk).map V.str))) p9 (.tup [.str "same", .int 1]) = H9 at st9 ob9 oo9 ot9
       have f1 : t1.length ≤ 12 := go.fit _ (lk_mem e1)
       have f2 : t2.length ≤ 12 := gt.fit _ (lk_mem e2)
       obtain ⟨kw, qw, ew, y1, y2, y3, y4, yq, _, _, yback⟩ := oo9.at e1
       walk_at "g"
       refine q_ixK (.inr k0) (.inl y1) y2 ?_
       walk_at "g"
       refine q_setD (.inr "e") y3 ?_ ?_
       · rw [y4.length]
         unfold tK
         rw [List.length_map]
         exact len_small (by omega)
       have same9 : T K H9 ff (.ref p9) (.tup [.str "same", .int 1]) := .tup st9 (.cons (.str _) (.cons (.int _) .nil))
       have oo10 := yback (putK ew (.inr "e") (.ref p9)) (put t1 "e" (.tup [.str "same", .int 1])) (by
         rw [← put_tK (go.wf.tab _ (lk_mem e1)).1]
         exact y4.put same9)
       have ob10 := ob9.keep (keeps_upd (p := qw) (o := .dK (putK ew (.inr "e") (.ref p9)))) (no_tup y3) fun z e h => e.2 (by rw [h]; exact yq.1)
       have ot10 := ot9.keep (keeps_upd (p := qw) (o := .dK (putK ew (.inr "e") (.ref p9)))) (no_tup y3) fun z e h => yq.2 (by rw [← h]; exact e)
       generalize upd H9 qw (.dK (putK ew (.inr "e") (.ref p9))) = H10 at oo10 ob10 ot10
       walk_at "g"
       intro p11 hp11
       have s11 := same_new (o := .tup [.str "same", .int 1]) hp11
       have same11 : T K (upd H10 p11 (.tup [.str "same", .int 1])) ff (.ref p11) (.tup [.str "same", .int 1]) := .tup st_new (.cons (.str _) (.cons (.int _) .nil))
       have ob11 := ob10.mono s11
       have oo11 := oo10.mono s11
       have ot11 := ot10.mono s11
       generalize upd H10 p11 (.tup [.str "same", .int 1]) = H11 at same11 ob11 oo11 ot11
       obtain ⟨kv, qv, ev, x1, x2, x3, x4, xq, _, _, xback⟩ := ot11.at e2
       walk_at "g"
       refine q_ixK (.inr k0) (.inl x1) x2 ?_
       walk_at "g"
       refine q_setD (.inr "e") x3 ?_ ?_
       · rw [x4.length]
         unfold tK
         rw [List.length_map]
         exact len_small (by omega)
       have ot12 := xback (putK ev (.inr "e") (.ref p11)) (put t2 "e" (.tup [.str "same", .int 1])) (by
         rw [← put_tK (gt.wf.tab _ (lk_mem e2)).1]
         exact x4.put same11)
       have ob12 := ob11.keep (keeps_upd (p := qv) (o := .dK (putK ev (.inr "e") (.ref p11)))) (no_tup x3) fun z e h => e.2 (by
         cases q : H4 z with
         | none => rfl
         | some u =>
           have w := k6 z u (nb R0 z e.1) q
           rw [h, show H6 qv = none from xq] at w
           cases w)
       have oo12 := oo11.keep (keeps_upd (p := qv) (o := .dK (putK ev (.inr "e") (.ref p11)))) (no_tup x3) fun z e h => e.2 (by rw [h]; exact xq)
       exact rest _ _ ⟨_, _, _, rfl, ob12.imp fun _ _ => trivial, oo12.imp fun _ _ => trivial, ot12.imp fun _ _ => trivial, gs_same go e1, gs_same gt e2⟩
     · exact rest _ _ ⟨_, o, t, rfl, ob8.imp fun _ _ => trivial, oo8.imp fun _ _ => trivial, ot8.imp fun _ _ => trivial, go.gs, gt.gs⟩

end
end K80
open PySem PySem.W PyProof.Rows
set_option maxRecDepth 100000 in
set_option maxHeartbeats 0 in
theorem PySem.Challenge.cw_trundleyard_k80_three_way_merges_holds : PySem.Challenge.rw_trundleyard_k80_three_way_merges.Holds := by
  w_on; o_law; k_head; (case hw => w_witness2)
  k_fill
  refine TU.top_walk (l := PySem.Challenge.rw_trundleyard_k80_three_way_merges) rfl rfl (fun w h Y => PySem.W.kIn_of Y) ?F
  case F =>
    intro w mg fa h KX G hmg base KB GB
    have z_len : mg "len" = none := PySem.W.mg_none_of KX G (by k_is)
    have z_abs : mg "abs" = none := PySem.W.mg_none_of KX G (by k_is)
    have z_repr : mg "repr" = none := PySem.W.mg_none_of KX G (by k_is)
    have z_isinstance : mg "isinstance" = none := PySem.W.mg_none_of KX G (by k_is)
    have z_sorted : mg "sorted" = none := PySem.W.mg_none_of KX G (by k_is)
    have z_all : mg "all" = none := PySem.W.mg_none_of KX G (by k_is)
    have z_any : mg "any" = none := PySem.W.mg_none_of KX G (by k_is)
    have z_sum : mg "sum" = none := PySem.W.mg_none_of KX G (by k_is)
    have z_max : mg "max" = none := PySem.W.mg_none_of KX G (by k_is)
    have z_min : mg "min" = none := PySem.W.mg_none_of KX G (by k_is)
    have z_range : mg "range" = none := PySem.W.mg_none_of KX G (by k_is)
    have z_enumerate : mg "enumerate" = none := PySem.W.mg_none_of KX G (by k_is)
    have z_zip : mg "zip" = none := PySem.W.mg_none_of KX G (by k_is)
    have z_reversed : mg "reversed" = none := PySem.W.mg_none_of KX G (by k_is)
    have z_int : mg "int" = none := PySem.W.mg_none_of KX G (by k_is)
    have z_bool : mg "bool" = none := PySem.W.mg_none_of KX G (by k_is)
    have z_str : mg "str" = none := PySem.W.mg_none_of KX G (by k_is)
    have z_list : mg "list" = none := PySem.W.mg_none_of KX G (by k_is)
    have z_dict : mg "dict" = none := PySem.W.mg_none_of KX G (by k_is)
    have z_tuple : mg "tuple" = none := PySem.W.mg_none_of KX G (by k_is)
    have z_set : mg "set" = none := PySem.W.mg_none_of KX G (by k_is)
    have B : TU.Bt mg := ⟨z_len, z_abs, z_repr, z_isinstance, z_sorted, z_all, z_any, z_sum, z_max, z_min, z_range, z_enumerate, z_zip, z_reversed, z_int, z_bool, z_str, z_list, z_dict, z_tuple, z_set⟩
    obtain ⟨C_Unknown, X_Unknown⟩ : ∃ C, TU.Xc PySem.Challenge.rw_trundleyard_k80_three_way_merges.prog w (L2.KOf KX) mg base "Unknown" ["what", "name"] C := by
      unfold L2.KOf
      refine' ⟨_, TU.xc_mk2 (qual := "Unknown.__init__") (st := K80.s_Unknown___init) KX G ?zxUnknownaC ?zxUnknownxL ?zxUnknownxb ?zxUnknownsa ?zxUnknownga ?zxUnknowngg ?zxUnknownn1 ?zxUnknownn2 ?zxUnknowna1 ?zxUnknownt1 ?zxUnknownl1 ?zxUnknownc1 ?zxUnknownk1 ?zxUnknownkC ?zxUnknowneC ?zxUnknowntC ?zxUnknownhC ?zxUnknowniC ?zxUnknownsC ⟨rfl, rfl, rfl, by decide +kernel, rfl, by decide +kernel, by decide +kernel⟩ rfl (by decide +kernel) (by decide +kernel) (by decide +kernel) (by decide +kernel) (.inl rfl) (.inl rfl) (.inl rfl) (fun _ _ _ _ _ _ us hl => match us, hl with | [_, _, _], _ => rfl)⟩
      (case zxUnknownaC => first | k_is | rfl | decide +kernel)
      (case zxUnknownxL => first | k_is | rfl | decide +kernel)
      (case zxUnknownxb => first | k_is | rfl | decide +kernel)
      (case zxUnknownsa => first | k_is | rfl | decide +kernel)
      (case zxUnknownga => first | k_is | rfl | decide +kernel)
      (case zxUnknowngg => first | k_is | rfl | decide +kernel)
      (case zxUnknownn1 => first | k_is | rfl | decide +kernel)
      (case zxUnknownn2 => first | k_is | rfl | decide +kernel)
      (case zxUnknowna1 => first | k_is | rfl | decide +kernel)
      (case zxUnknownt1 => first | k_is | rfl | decide +kernel)
      (case zxUnknownl1 => first | k_is | rfl | decide +kernel)
      (case zxUnknownc1 => first | k_is | rfl | decide +kernel)
      (case zxUnknownk1 => first | k_is | rfl | decide +kernel)
      (case zxUnknownkC => first | k_is | rfl | decide +kernel)
      (case zxUnknowneC => first | k_is | rfl | decide +kernel)
      (case zxUnknowntC => first | k_is | rfl | decide +kernel)
      (case zxUnknownhC => first | k_is | rfl | decide +kernel)
      (case zxUnknowniC => first | k_is | rfl | decide +kernel)
      (case zxUnknownsC => first | k_is | rfl | decide +kernel)
    obtain ⟨C_Misfit, X_Misfit⟩ : ∃ C, TU.Xc PySem.Challenge.rw_trundleyard_k80_three_way_merges.prog w (L2.KOf KX) mg base "Misfit" ["what", "name"] C := by
      unfold L2.KOf
      refine' ⟨_, TU.xc_mk2 (qual := "Misfit.__init__") (st := K80.s_Misfit___init) KX G ?zxMisfitaC ?zxMisfitxL ?zxMisfitxb ?zxMisfitsa ?zxMisfitga ?zxMisfitgg ?zxMisfitn1 ?zxMisfitn2 ?zxMisfita1 ?zxMisfitt1 ?zxMisfitl1 ?zxMisfitc1 ?zxMisfitk1 ?zxMisfitkC ?zxMisfiteC ?zxMisfittC ?zxMisfithC ?zxMisfitiC ?zxMisfitsC ⟨rfl, rfl, rfl, by decide +kernel, rfl, by decide +kernel, by decide +kernel⟩ rfl (by decide +kernel) (by decide +kernel) (by decide +kernel) (by decide +kernel) (.inl rfl) (.inl rfl) (.inl rfl) (fun _ _ _ _ _ _ us hl => match us, hl with | [_, _, _], _ => rfl)⟩
      (case zxMisfitaC => first | k_is | rfl | decide +kernel)
      (case zxMisfitxL => first | k_is | rfl | decide +kernel)
      (case zxMisfitxb => first | k_is | rfl | decide +kernel)
      (case zxMisfitsa => first | k_is | rfl | decide +kernel)
      (case zxMisfitga => first | k_is | rfl | decide +kernel)
      (case zxMisfitgg => first | k_is | rfl | decide +kernel)
      (case zxMisfitn1 => first | k_is | rfl | decide +kernel)
      (case zxMisfitn2 => first | k_is | rfl | decide +kernel)
      (case zxMisfita1 => first | k_is | rfl | decide +kernel)
      (case zxMisfitt1 => first | k_is | rfl | decide +kernel)
      (case zxMisfitl1 => first | k_is | rfl | decide +kernel)
      (case zxMisfitc1 => first | k_is | rfl | decide +kernel)
      (case zxMisfitk1 => first | k_is | rfl | decide +kernel)
      (case zxMisfitkC => first | k_is | rfl | decide +kernel)
      (case zxMisfiteC => first | k_is | rfl | decide +kernel)
      (case zxMisfittC => first | k_is | rfl | decide +kernel)
      (case zxMisfithC => first | k_is | rfl | decide +kernel)
      (case zxMisfitiC => first | k_is | rfl | decide +kernel)
      (case zxMisfitsC => first | k_is | rfl | decide +kernel)
    have F_check_key : TU.TopF (L2.KOf KX) mg "check_key" K80.s_check_key ["house", "key"] := by
      unfold L2.KOf
      refine' TU.top_mk KX G ?zqcheck_keya ?zqcheck_keyl ?zqcheck_keyc ?zqcheck_keyk (fun _ _ _ _ _ _ us hl => match us, hl with | [_, _], _ => rfl)
      (case zqcheck_keya => k_is); (case zqcheck_keyl => k_is); (case zqcheck_keyc => k_is); (case zqcheck_keyk => k_is)
    have F_entry_in : TU.TopF (L2.KOf KX) mg "entry_in" K80.s_entry_in ["house", "key", "name"] := by
      unfold L2.KOf
      refine' TU.top_mk KX G ?zqentry_ina ?zqentry_inl ?zqentry_inc ?zqentry_ink (fun _ _ _ _ _ _ us hl => match us, hl with | [_, _, _], _ => rfl)
      (case zqentry_ina => k_is); (case zqentry_inl => k_is); (case zqentry_inc => k_is); (case zqentry_ink => k_is)
    have F_same_keys : TU.TopF (L2.KOf KX) mg "same_keys" K80.s_same_keys ["house", "other"] := by
      unfold L2.KOf
      refine' TU.top_mk KX G ?zqsame_keysa ?zqsame_keysl ?zqsame_keysc ?zqsame_keysk (fun _ _ _ _ _ _ us hl => match us, hl with | [_, _], _ => rfl)
      (case zqsame_keysa => k_is); (case zqsame_keysl => k_is); (case zqsame_keysc => k_is); (case zqsame_keysk => k_is)
    have F_check_keys : TU.TopF (L2.KOf KX) mg "check_keys" K80.s_check_keys ["base", "houses"] := by
      unfold L2.KOf
      refine' TU.top_mk KX G ?zqcheck_keysa ?zqcheck_keysl ?zqcheck_keysc ?zqcheck_keysk (fun _ _ _ _ _ _ us hl => match us, hl with | [_, _], _ => rfl)
      (case zqcheck_keysa => k_is); (case zqcheck_keysl => k_is); (case zqcheck_keysc => k_is); (case zqcheck_keysk => k_is)
    have F_names_of : TU.TopF (L2.KOf KX) mg "names_of" K80.s_names_of ["houses", "key"] := by
      unfold L2.KOf
      refine' TU.top_mk KX G ?zqnames_ofa ?zqnames_ofl ?zqnames_ofc ?zqnames_ofk (fun _ _ _ _ _ _ us hl => match us, hl with | [_, _], _ => rfl)
      (case zqnames_ofa => k_is); (case zqnames_ofl => k_is); (case zqnames_ofc => k_is); (case zqnames_ofk => k_is)
    have F_settled : TU.TopF (L2.KOf KX) mg "settled" K80.s_settled ["base", "one", "two"] := by
      unfold L2.KOf
      refine' TU.top_mk KX G ?zqsettleda ?zqsettledl ?zqsettledc ?zqsettledk (fun _ _ _ _ _ _ us hl => match us, hl with | [_, _, _], _ => rfl)
      (case zqsettleda => k_is); (case zqsettledl => k_is); (case zqsettledc => k_is); (case zqsettledk => k_is)
    have F_merge : TU.TopF (L2.KOf KX) mg "merge" K80.s_merge ["base", "one", "two"] := by
      unfold L2.KOf
      refine' TU.top_mk KX G ?zqmergea ?zqmergel ?zqmergec ?zqmergek (fun _ _ _ _ _ _ us hl => match us, hl with | [_, _, _], _ => rfl)
      (case zqmergea => k_is); (case zqmergel => k_is); (case zqmergec => k_is); (case zqmergek => k_is)
    have F_same_house : TU.TopF (L2.KOf KX) mg "same_house" K80.s_same_house ["house", "other"] := by
      unfold L2.KOf
      refine' TU.top_mk KX G ?zqsame_housea ?zqsame_housel ?zqsame_housec ?zqsame_housek (fun _ _ _ _ _ _ us hl => match us, hl with | [_, _], _ => rfl)
      (case zqsame_housea => k_is); (case zqsame_housel => k_is); (case zqsame_housec => k_is); (case zqsame_housek => k_is)
    have F_conflicts : TU.TopF (L2.KOf KX) mg "conflicts" K80.s_conflicts ["base", "one", "two"] := by
      unfold L2.KOf
      refine' TU.top_mk KX G ?zqconflictsa ?zqconflictsl ?zqconflictsc ?zqconflictsk (fun _ _ _ _ _ _ us hl => match us, hl with | [_, _, _], _ => rfl)
      (case zqconflictsa => k_is); (case zqconflictsl => k_is); (case zqconflictsc => k_is); (case zqconflictsk => k_is)
    have F_is_merge : TU.TopF (L2.KOf KX) mg "is_merge" K80.s_is_merge ["base", "one", "two", "house"] := by
      unfold L2.KOf
      refine' TU.top_mk KX G ?zqis_mergea ?zqis_mergel ?zqis_mergec ?zqis_mergek (fun _ _ _ _ _ _ us hl => match us, hl with | [_, _, _, _], _ => rfl)
      (case zqis_mergea => k_is); (case zqis_mergel => k_is); (case zqis_mergec => k_is); (case zqis_mergek => k_is)
    have F_law_jar : TU.TopF (L2.KOf KX) mg "_law_jar" K80.s_law_jar ["script"] := by
      unfold L2.KOf
      refine' TU.top_mk KX G ?zqlaw_jara ?zqlaw_jarl ?zqlaw_jarc ?zqlaw_jark (fun _ _ _ _ _ _ us hl => match us, hl with | [_], _ => rfl)
      (case zqlaw_jara => k_is); (case zqlaw_jarl => k_is); (case zqlaw_jarc => k_is); (case zqlaw_jark => k_is)
    have F_law_draw : TU.TopF (L2.KOf KX) mg "_law_draw" K80.s_law_draw ["jar", "at", "many"] := by
      unfold L2.KOf
      refine' TU.top_mk KX G ?zqlaw_drawa ?zqlaw_drawl ?zqlaw_drawc ?zqlaw_drawk (fun _ _ _ _ _ _ us hl => match us, hl with | [_, _, _], _ => rfl)
      (case zqlaw_drawa => k_is); (case zqlaw_drawl => k_is); (case zqlaw_drawc => k_is); (case zqlaw_drawk => k_is)
    have F_law_entry : TU.TopF (L2.KOf KX) mg "_law_entry" K80.s_law_entry ["jar", "at"] := by
      unfold L2.KOf
      refine' TU.top_mk KX G ?zqlaw_entrya ?zqlaw_entryl ?zqlaw_entryc ?zqlaw_entryk (fun _ _ _ _ _ _ us hl => match us, hl with | [_, _], _ => rfl)
      (case zqlaw_entrya => k_is); (case zqlaw_entryl => k_is); (case zqlaw_entryc => k_is); (case zqlaw_entryk => k_is)
    have F_law_copy : TU.TopF (L2.KOf KX) mg "_law_copy" K80.s_law_copy ["house"] := by
      unfold L2.KOf
      refine' TU.top_mk KX G ?zqlaw_copya ?zqlaw_copyl ?zqlaw_copyc ?zqlaw_copyk (fun _ _ _ _ _ _ us hl => match us, hl with | [_], _ => rfl)
      (case zqlaw_copya => k_is); (case zqlaw_copyl => k_is); (case zqlaw_copyc => k_is); (case zqlaw_copyk => k_is)
    have F_law_after : TU.TopF (L2.KOf KX) mg "_law_after" K80.s_law_after ["house", "edit"] := by
      unfold L2.KOf
      refine' TU.top_mk KX G ?zqlaw_aftera ?zqlaw_afterl ?zqlaw_afterc ?zqlaw_afterk (fun _ _ _ _ _ _ us hl => match us, hl with | [_, _], _ => rfl)
      (case zqlaw_aftera => k_is); (case zqlaw_afterl => k_is); (case zqlaw_afterc => k_is); (case zqlaw_afterk => k_is)
    have F_law_same : TU.TopF (L2.KOf KX) mg "_law_same" K80.s_law_same ["told", "house"] := by
      unfold L2.KOf
      refine' TU.top_mk KX G ?zqlaw_samea ?zqlaw_samel ?zqlaw_samec ?zqlaw_samek (fun _ _ _ _ _ _ us hl => match us, hl with | [_, _], _ => rfl)
      (case zqlaw_samea => k_is); (case zqlaw_samel => k_is); (case zqlaw_samec => k_is); (case zqlaw_samek => k_is)
    have F_law_house : TU.TopF (L2.KOf KX) mg "_law_house" K80.s_law_house ["jar", "at"] := by
      unfold L2.KOf
      refine' TU.top_mk KX G ?zqlaw_housea ?zqlaw_housel ?zqlaw_housec ?zqlaw_housek (fun _ _ _ _ _ _ us hl => match us, hl with | [_, _], _ => rfl)
      (case zqlaw_housea => k_is); (case zqlaw_housel => k_is); (case zqlaw_housec => k_is); (case zqlaw_housek => k_is)
    have F_law_edits : TU.TopF (L2.KOf KX) mg "_law_edits" K80.s_law_edits ["jar", "at", "house", "many"] := by
      unfold L2.KOf
      refine' TU.top_mk KX G ?zqlaw_editsa ?zqlaw_editsl ?zqlaw_editsc ?zqlaw_editsk (fun _ _ _ _ _ _ us hl => match us, hl with | [_, _, _, _], _ => rfl)
      (case zqlaw_editsa => k_is); (case zqlaw_editsl => k_is); (case zqlaw_editsc => k_is); (case zqlaw_editsk => k_is)
    have F_law_says : TU.TopF (L2.KOf KX) mg "_law_says" K80.s_law_says ["actual", "due"] := by
      unfold L2.KOf
      refine' TU.top_mk KX G ?zqlaw_saysa ?zqlaw_saysl ?zqlaw_saysc ?zqlaw_saysk (fun _ _ _ _ _ _ us hl => match us, hl with | [_, _], _ => rfl)
      (case zqlaw_saysa => k_is); (case zqlaw_saysl => k_is); (case zqlaw_saysc => k_is); (case zqlaw_saysk => k_is)
    have F_law_grown : TU.TopF (L2.KOf KX) mg "_law_grown" K80.s_law_grown ["jar", "at", "base", "many"] := by
      unfold L2.KOf
      refine' TU.top_mk KX G ?zqlaw_growna ?zqlaw_grownl ?zqlaw_grownc ?zqlaw_grownk (fun _ _ _ _ _ _ us hl => match us, hl with | [_, _, _, _], _ => rfl)
      (case zqlaw_growna => k_is); (case zqlaw_grownl => k_is); (case zqlaw_grownc => k_is); (case zqlaw_grownk => k_is)
    have F_law_entry_at : TU.TopF (L2.KOf KX) mg "_law_entry_at" K80.s_law_entry_at ["house", "key", "name"] := by
      unfold L2.KOf
      refine' TU.top_mk KX G ?zqlaw_entry_ata ?zqlaw_entry_atl ?zqlaw_entry_atc ?zqlaw_entry_atk (fun _ _ _ _ _ _ us hl => match us, hl with | [_, _, _], _ => rfl)
      (case zqlaw_entry_ata => k_is); (case zqlaw_entry_atl => k_is); (case zqlaw_entry_atc => k_is); (case zqlaw_entry_atk => k_is)
    have F_law_refusal : TU.TopF (L2.KOf KX) mg "_law_refusal" K80.s_law_refusal ["base", "one", "two"] := by
      unfold L2.KOf
      refine' TU.top_mk KX G ?zqlaw_refusala ?zqlaw_refusall ?zqlaw_refusalc ?zqlaw_refusalk (fun _ _ _ _ _ _ us hl => match us, hl with | [_, _, _], _ => rfl)
      (case zqlaw_refusala => k_is); (case zqlaw_refusall => k_is); (case zqlaw_refusalc => k_is); (case zqlaw_refusalk => k_is)
    have F_law_merge : TU.TopF (L2.KOf KX) mg "_law_merge" K80.s_law_merge ["base", "one", "two"] := by
      unfold L2.KOf
      refine' TU.top_mk KX G ?zqlaw_mergea ?zqlaw_mergel ?zqlaw_mergec ?zqlaw_mergek (fun _ _ _ _ _ _ us hl => match us, hl with | [_, _, _], _ => rfl)
      (case zqlaw_mergea => k_is); (case zqlaw_mergel => k_is); (case zqlaw_mergec => k_is); (case zqlaw_mergek => k_is)
    have F_law : TU.TopF (L2.KOf KX) mg "law" K80.s_law ["script"] := by
      unfold L2.KOf
      refine' TU.top_mk KX G ?zqlawa ?zqlawl ?zqlawc ?zqlawk (fun _ _ _ _ _ _ us hl => match us, hl with | [_], _ => rfl)
      (case zqlawa => k_is); (case zqlawl => k_is); (case zqlawc => k_is); (case zqlawk => k_is)
    have D_check_key := K80.d_check_key (P := PySem.Challenge.rw_trundleyard_k80_three_way_merges.prog) (w := w) (base := base) B F_check_key X_Unknown
    have D_entry_in := K80.d_entry_in (P := PySem.Challenge.rw_trundleyard_k80_three_way_merges.prog) (w := w) (base := base) B F_entry_in D_check_key
    have D_same_keys := K80.d_same_keys (P := PySem.Challenge.rw_trundleyard_k80_three_way_merges.prog) (w := w) (base := base) B F_same_keys 
    have D_check_keys := K80.d_check_keys (P := PySem.Challenge.rw_trundleyard_k80_three_way_merges.prog) (w := w) (base := base) B F_check_keys X_Misfit D_same_keys
    have D_names_of := K80.d_names_of (P := PySem.Challenge.rw_trundleyard_k80_three_way_merges.prog) (w := w) (base := base) B F_names_of 
    have D_settled := K80.d_settled (P := PySem.Challenge.rw_trundleyard_k80_three_way_merges.prog) (w := w) (base := base) B F_settled 
    have D_merge := K80.d_merge (P := PySem.Challenge.rw_trundleyard_k80_three_way_merges.prog) (w := w) (base := base) B F_merge D_names_of D_settled D_entry_in D_check_keys
    have D_same_house := K80.d_same_house (P := PySem.Challenge.rw_trundleyard_k80_three_way_merges.prog) (w := w) (base := base) B F_same_house D_same_keys
    have D_conflicts := K80.d_conflicts (P := PySem.Challenge.rw_trundleyard_k80_three_way_merges.prog) (w := w) (base := base) B F_conflicts D_merge
    have D_is_merge := K80.d_is_merge (P := PySem.Challenge.rw_trundleyard_k80_three_way_merges.prog) (w := w) (base := base) B F_is_merge D_same_house D_merge
    have D_law_jar := K80.d_law_jar (P := PySem.Challenge.rw_trundleyard_k80_three_way_merges.prog) (w := w) (base := base) B F_law_jar 
    have D_law_draw := K80.d_law_draw (P := PySem.Challenge.rw_trundleyard_k80_three_way_merges.prog) (w := w) (base := base) B F_law_draw 
    have D_law_entry := K80.d_law_entry (P := PySem.Challenge.rw_trundleyard_k80_three_way_merges.prog) (w := w) (base := base) B F_law_entry D_law_draw
    have D_law_copy := K80.d_law_copy (P := PySem.Challenge.rw_trundleyard_k80_three_way_merges.prog) (w := w) (base := base) B F_law_copy 
    have D_law_after := K80.d_law_after (P := PySem.Challenge.rw_trundleyard_k80_three_way_merges.prog) (w := w) (base := base) B F_law_after D_law_copy
    have D_law_same := K80.d_law_same (P := PySem.Challenge.rw_trundleyard_k80_three_way_merges.prog) (w := w) (base := base) B F_law_same 
    have D_law_house := K80.d_law_house (P := PySem.Challenge.rw_trundleyard_k80_three_way_merges.prog) (w := w) (base := base) B F_law_house D_law_draw D_law_entry
    have D_law_edits := K80.d_law_edits (P := PySem.Challenge.rw_trundleyard_k80_three_way_merges.prog) (w := w) (base := base) B F_law_edits D_law_after D_law_draw D_law_entry D_law_copy
    have D_law_says := K80.d_law_says (P := PySem.Challenge.rw_trundleyard_k80_three_way_merges.prog) (w := w) (base := base) B F_law_says 
    have D_law_grown := K80.d_law_grown (P := PySem.Challenge.rw_trundleyard_k80_three_way_merges.prog) (w := w) (base := base) B F_law_grown D_law_edits D_law_after D_law_copy
    have D_law_entry_at := K80.d_law_entry_at (P := PySem.Challenge.rw_trundleyard_k80_three_way_merges.prog) (w := w) (base := base) B F_law_entry_at 
    have D_law_refusal := K80.d_law_refusal (P := PySem.Challenge.rw_trundleyard_k80_three_way_merges.prog) (w := w) (base := base) B F_law_refusal X_Misfit D_merge
    have D_law_merge := K80.d_law_merge (P := PySem.Challenge.rw_trundleyard_k80_three_way_merges.prog) (w := w) (base := base) B F_law_merge D_law_entry_at
    obtain ⟨fb, hb, ok⟩ := K80.d_law (P := PySem.Challenge.rw_trundleyard_k80_three_way_merges.prog) (w := w) (base := base) B F_law D_law_same D_merge D_is_merge D_law_refusal D_law_copy D_law_says D_conflicts D_law_merge D_law_draw D_law_grown D_law_house D_law_jar
    have e := hmg.symm.trans hb
    cases e
    exact ok
#print axioms PySem.Challenge.cw_trundleyard_k80_three_way_merges_holds

