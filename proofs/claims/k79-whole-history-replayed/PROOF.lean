import PyProof.Rows.All
import Wide.All
import OpenK.AllK
import Wide.FinOn
import HandS.ForMost
import HandS.ForExc
import HandS.DeepEq
import HandS.DictComp
import HandS.Small
import HandS.IsInst
import HandS.ExcInit
import HandS.RaiseMore
import HandS.Flow
import HandS.Style
import PyProof.ReprRoads
import KE.DataEq
import HandS.RaiseOp
import HandS.Walk
import HandS.SortInts
import HandS.ExcField
import HandS.ExcIs
import PyProof.ReprBulk
import KE.KSortTupAny
import HandS.SortRule
import KE.KEqNest
import PyProof.NeKinds
import HandS.Set
import HandS.SetFor
import HandS.Strs
import HandS.CallSlots
import PySem.Challenge.RW_trundleyard_k79_whole_history_replayed
set_option Elab.async false
set_option linter.all false
set_option maxRecDepth 100000
namespace TU
open PySem PySem.Spec PyProof.Rows L2

/-- data as trees -/
inductive Tr where
  | non | bl (b : Bool) | int (i : Int) | str (x : Str)
  | lst (xs : List Tr) | tup (xs : List Tr) | dic (kvs : List (Key × Tr))

-- v reads as the tree d in H; the addresses of its lists and dicts satisfy P
mutual
inductive T (K : PySem.W.Frag) (H : Hp) (P : Addr → Prop) : V → Tr → Prop
  | non : T K H P .non .non
  | bl (b : Bool) : T K H P (.bl b) (.bl b)
  | int (i : Int) : T K H P (.int i) (.int i)
  | str (x : Str) : T K H P (.str x) (.str x)
  | lst {a : Addr} {xs : List V} {ds : List Tr} : P a → SqL K H a xs → Ts K H P xs ds → T K H P (.ref a) (.lst ds)
  | tup {a : Addr} {xs : List V} {ds : List Tr} : SqT K H a xs → Ts K H P xs ds → T K H P (.ref a) (.tup ds)
  | dic {a : Addr} {kvs : List (Key × V)} {es : List (Key × Tr)} : P a → Rd H a (.dK kvs) → Tk K H P kvs es → T K H P (.ref a) (.dic es)
inductive Ts (K : PySem.W.Frag) (H : Hp) (P : Addr → Prop) : List V → List Tr → Prop
  | nil : Ts K H P [] []
  | cons {v : V} {vs : List V} {d : Tr} {ds : List Tr} : T K H P v d → Ts K H P vs ds → Ts K H P (v :: vs) (d :: ds)
inductive Tk (K : PySem.W.Frag) (H : Hp) (P : Addr → Prop) : List (Key × V) → List (Key × Tr) → Prop
  | nil : Tk K H P [] []
  | cons {k : Key} {v : V} {vs : List (Key × V)} {d : Tr} {ds : List (Key × Tr)} : T K H P v d → Tk K H P vs ds → Tk K H P ((k, v) :: vs) ((k, d) :: ds)
end

/-- what W does not hold is kept -/
def Keeps (W : Addr → Prop) (H H' : Hp) : Prop := ∀ a o, ¬ W a → H a = some o → H' a = some o
theorem Keeps.of_same {W : Addr → Prop} {H H' : Hp} (s : Same H H') : Keeps W H H' := fun a o _ e => s a o e
theorem Keeps.same {H H' : Hp} (s : Keeps (fun _ => False) H H') : Same H H' := fun a o e => s a o (fun z => z) e

section
variable {K : PySem.W.Frag} {H H' : Hp} {P P' W : Addr → Prop}
theorem sqT_keep (k : Keeps W H H') (nt : ∀ a xs, W a → ¬ Rd H a (.tup xs)) {a : Addr} {xs : List V} (h : SqT K H a xs) : SqT K H' a xs := by
  rcases h with h | h
  · have nw : ¬ W a := fun z => nt a xs z h
    rcases h with h | ⟨o, h⟩
    · exact .inl (.inl (k a _ nw h))
    · exact .inl (.inr ⟨o, k a _ nw h⟩)
  · exact .inr h
theorem sqL_keep (k : Keeps W H H') {a : Addr} {xs : List V} (nw : ¬ W a) (h : SqL K H a xs) : SqL K H' a xs := by
  rcases h with h | h
  · rcases h with h | ⟨o, h⟩
    · exact .inl (.inl (k a _ nw h))
    · exact .inl (.inr ⟨o, k a _ nw h⟩)
  · exact .inr h
theorem rd_keep (k : Keeps W H H') {a : Addr} {u : HO} (nw : ¬ W a) (h : Rd H a u) : Rd H' a u := by
  rcases h with h | ⟨o, h⟩
  · exact .inl (k a _ nw h)
  · exact .inr ⟨o, k a _ nw h⟩
mutual
theorem T.keep (k : Keeps W H H') (nt : ∀ a xs, W a → ¬ Rd H a (.tup xs)) (hp : ∀ a, P a → P' a ∧ ¬ W a) : ∀ {v : V} {d : Tr}, T K H P v d → T K H' P' v d
  | _, _, .non => .non
  | _, _, .bl b => .bl b
  | _, _, .int i => .int i
  | _, _, .str x => .str x
  | _, _, .lst p h t => .lst (hp _ p).1 (sqL_keep k (hp _ p).2 h) (Ts.keep k nt hp t)
  | _, _, .tup h t => .tup (sqT_keep k nt h) (Ts.keep k nt hp t)
  | _, _, .dic p h t => .dic (hp _ p).1 (rd_keep k (hp _ p).2 h) (Tk.keep k nt hp t)
theorem Ts.keep (k : Keeps W H H') (nt : ∀ a xs, W a → ¬ Rd H a (.tup xs)) (hp : ∀ a, P a → P' a ∧ ¬ W a) : ∀ {v : List V} {d : List Tr}, Ts K H P v d → Ts K H' P' v d
  | _, _, .nil => .nil
  | _, _, .cons h t => .cons (T.keep k nt hp h) (Ts.keep k nt hp t)
theorem Tk.keep (k : Keeps W H H') (nt : ∀ a xs, W a → ¬ Rd H a (.tup xs)) (hp : ∀ a, P a → P' a ∧ ¬ W a) : ∀ {v : List (Key × V)} {d : List (Key × Tr)}, Tk K H P v d → Tk K H' P' v d
  | _, _, .nil => .nil
  | _, _, .cons h t => .cons (T.keep k nt hp h) (Tk.keep k nt hp t)
end
theorem T.mono (s : Same H H') {v : V} {d : Tr} (h : T K H P v d) : T K H' P v d := h.keep (W := fun _ => False) (.of_same s) (fun _ _ z => z.elim) fun _ p => ⟨p, fun z => z⟩
theorem Ts.mono (s : Same H H') {v : List V} {d : List Tr} (h : Ts K H P v d) : Ts K H' P v d := h.keep (W := fun _ => False) (.of_same s) (fun _ _ z => z.elim) fun _ p => ⟨p, fun z => z⟩
theorem Tk.mono (s : Same H H') {v : List (Key × V)} {d : List (Key × Tr)} (h : Tk K H P v d) : Tk K H' P v d := h.keep (W := fun _ => False) (.of_same s) (fun _ _ z => z.elim) fun _ p => ⟨p, fun z => z⟩
theorem T.imp (hp : ∀ a, P a → P' a) {v : V} {d : Tr} (h : T K H P v d) : T K H P' v d := h.keep (W := fun _ => False) (.of_same (Same.refl H)) (fun _ _ z => z.elim) fun a p => ⟨hp a p, fun z => z⟩
theorem Ts.imp (hp : ∀ a, P a → P' a) {v : List V} {d : List Tr} (h : Ts K H P v d) : Ts K H P' v d := h.keep (W := fun _ => False) (.of_same (Same.refl H)) (fun _ _ z => z.elim) fun a p => ⟨hp a p, fun z => z⟩
theorem Tk.imp (hp : ∀ a, P a → P' a) {v : List (Key × V)} {d : List (Key × Tr)} (h : Tk K H P v d) : Tk K H P' v d := h.keep (W := fun _ => False) (.of_same (Same.refl H)) (fun _ _ z => z.elim) fun a p => ⟨hp a p, fun z => z⟩
/-- an object that is no tuple is changed -/
theorem nt_of {p : Addr} {o : HO} (h : H p = some o) (n : ∀ xs, o ≠ .tup xs) (n2 : ∀ u v, o ≠ .frz u v) : ∀ a xs, a = p → ¬ Rd H a (.tup xs) := by
  rintro a xs rfl (e | ⟨u, e⟩)
  · rw [h] at e
    exact n xs (Option.some.inj e)
  · rw [h] at e
    exact n2 _ _ (Option.some.inj e)
theorem keeps_upd {p : Addr} {o : HO} : Keeps (fun a => a = p) H (upd H p o) := fun a u n e => by
  rw [upd_ne n]
  exact e
theorem T.upd {p : Addr} {o o' : HO} (e : H p = some o) (n : ∀ xs, o ≠ .tup xs) (n2 : ∀ u v, o ≠ .frz u v) (hp : ∀ a, P a → a ≠ p) {v : V} {d : Tr} (h : T K H P v d) : T K (upd H p o') P v d :=
  h.keep keeps_upd (nt_of e n n2) fun a q => ⟨q, hp a q⟩
theorem Ts.upd {p : Addr} {o o' : HO} (e : H p = some o) (n : ∀ xs, o ≠ .tup xs) (n2 : ∀ u v, o ≠ .frz u v) (hp : ∀ a, P a → a ≠ p) {v : List V} {d : List Tr} (h : Ts K H P v d) : Ts K (upd H p o') P v d :=
  h.keep keeps_upd (nt_of e n n2) fun a q => ⟨q, hp a q⟩
theorem Tk.upd {p : Addr} {o o' : HO} (e : H p = some o) (n : ∀ xs, o ≠ .tup xs) (n2 : ∀ u v, o ≠ .frz u v) (hp : ∀ a, P a → a ≠ p) {v : List (Key × V)} {d : List (Key × Tr)} (h : Tk K H P v d) : Tk K (upd H p o') P v d :=
  h.keep keeps_upd (nt_of e n n2) fun a q => ⟨q, hp a q⟩
theorem same_new {p : Addr} {o : HO} (h : H p = none) : Same H (upd H p o) := fun b u e => by
  rw [upd_ne (ne_of_none e h)]
  exact e
theorem Ts.length : ∀ {v : List V} {d : List Tr}, Ts K H P v d → v.length = d.length
  | _, _, .nil => rfl
  | _, _, .cons _ t => congrArg Nat.succ (Ts.length t)
theorem Tk.length : ∀ {v : List (Key × V)} {d : List (Key × Tr)}, Tk K H P v d → v.length = d.length
  | _, _, .nil => rfl
  | _, _, .cons _ t => congrArg Nat.succ (Tk.length t)
theorem Tk.keys : ∀ {v : List (Key × V)} {d : List (Key × Tr)}, Tk K H P v d → v.map (·.1) = d.map (·.1)
  | _, _, .nil => rfl
  | _, _, .cons _ t => by
    rw [List.map_cons, List.map_cons, Tk.keys t]
theorem Ts.get : ∀ {vs : List V} {ds : List Tr} {i : Nat} {v : V}, Ts K H P vs ds → vs[i]? = some v → ∃ d, ds[i]? = some d ∧ T K H P v d
  | _, _, _, _, .nil, e => by simp at e
  | _, _, 0, _, .cons h _, e => by
    simp at e
    subst e
    exact ⟨_, rfl, h⟩
  | _, _, i + 1, v, .cons _ t, e => by
    obtain ⟨d, h1, h2⟩ := Ts.get (i := i) (v := v) t (by simpa using e)
    exact ⟨d, by simpa using h1, h2⟩
theorem Ts.get' : ∀ {vs : List V} {ds : List Tr} {i : Nat} {d : Tr}, Ts K H P vs ds → ds[i]? = some d → ∃ v, vs[i]? = some v ∧ T K H P v d
  | _, _, _, _, .nil, e => by simp at e
  | _, _, 0, _, .cons h _, e => by
    simp at e
    subst e
    exact ⟨_, rfl, h⟩
  | _, _, i + 1, d, .cons _ t, e => by
    obtain ⟨v, h1, h2⟩ := Ts.get' (i := i) (d := d) t (by simpa using e)
    exact ⟨v, by simpa using h1, h2⟩
theorem Ts.append : ∀ {v u : List V} {d e : List Tr}, Ts K H P v d → Ts K H P u e → Ts K H P (v ++ u) (d ++ e)
  | _, _, _, _, .nil, h => h
  | _, _, _, _, .cons h t, h' => .cons h (Ts.append t h')
theorem Ts.one {v : V} {d : Tr} (h : T K H P v d) : Ts K H P [v] [d] := .cons h .nil
theorem Tk.append : ∀ {v u : List (Key × V)} {d e : List (Key × Tr)}, Tk K H P v d → Tk K H P u e → Tk K H P (v ++ u) (d ++ e)
  | _, _, _, _, .nil, h => h
  | _, _, _, _, .cons h t, h' => .cons h (Tk.append t h')

/-! ### dicts as lists of pairs -/
def getD (kvs : List (Key × Tr)) (k : Key) : Option Tr := (kvs.find? fun kv => decide (kv.1 = k)).map (·.2)
def putD (kvs : List (Key × Tr)) (k : Key) (v : Tr) : List (Key × Tr) :=
  if (kvs.any fun kv => decide (kv.1 = k)) = true then kvs.map (fun kv => if kv.1 = k then (kv.1, v) else kv) else kvs ++ [(k, v)]
def delD (kvs : List (Key × Tr)) (k : Key) : List (Key × Tr) := kvs.filter fun kv => decide (kv.1 ≠ k)
theorem getD_cons (p : Key × Tr) (r : List (Key × Tr)) (k : Key) : getD (p :: r) k = if p.1 = k then some p.2 else getD r k := by
  by_cases e : p.1 = k
  · simp [getD, List.find?_cons, e]
  · simp [getD, List.find?_cons, e]
theorem Tk.get : ∀ {kvs : List (Key × V)} {es : List (Key × Tr)} (k : Key), Tk K H P kvs es → (valV kvs k = none ∧ getD es k = none) ∨ ∃ v d, valV kvs k = some v ∧ getD es k = some d ∧ T K H P v d
  | _, _, k, .nil => .inl ⟨rfl, rfl⟩
  | _, _, k, .cons (k := k0) h t => by
    by_cases e : k0 = k
    · refine .inr ⟨_, _, valV_pos e, ?_, h⟩
      rw [getD_cons, if_pos e]
    · rw [valV_neg (p := (k0, _)) e, getD_cons, if_neg e]
      exact Tk.get k t
theorem Tk.gets {kvs : List (Key × V)} {es : List (Key × Tr)} {k : Key} {d : Tr} (h : Tk K H P kvs es) (e : getD es k = some d) : ∃ v, valV kvs k = some v ∧ T K H P v d := by
  rcases h.get k with ⟨_, z⟩ | ⟨v, d', h1, h2, h3⟩
  · rw [z] at e
    cases e
  · rw [h2] at e
    cases e
    exact ⟨v, h1, h3⟩
theorem Tk.getn {kvs : List (Key × V)} {es : List (Key × Tr)} {k : Key} (h : Tk K H P kvs es) (e : getD es k = none) : valV kvs k = none := by
  rcases h.get k with ⟨z, _⟩ | ⟨v, d', h1, h2, h3⟩
  · exact z
  · rw [h2] at e
    cases e
theorem Tk.isSome {kvs : List (Key × V)} {es : List (Key × Tr)} {k : Key} (h : Tk K H P kvs es) : (valV kvs k).isSome = (getD es k).isSome := by
  rcases h.get k with ⟨z, z'⟩ | ⟨v, d', h1, h2, h3⟩
  · rw [z, z'] <;> rfl
  · rw [h1, h2] <;> rfl
theorem Tk.anyk : ∀ {kvs : List (Key × V)} {es : List (Key × Tr)} (k : Key), Tk K H P kvs es → (kvs.any fun kv => decide (kv.1 = k)) = (es.any fun kv => decide (kv.1 = k))
  | _, _, _, .nil => rfl
  | _, _, k, .cons _ t => by
    rw [List.any_cons, List.any_cons, Tk.anyk k t]
theorem Tk.mapput {k : Key} {v : V} {d : Tr} (hv : T K H P v d) : ∀ {kvs : List (Key × V)} {es : List (Key × Tr)}, Tk K H P kvs es → Tk K H P (kvs.map (fun kv => if kv.1 = k then (kv.1, v) else kv)) (es.map (fun kv => if kv.1 = k then (kv.1, d) else kv))
  | _, _, .nil => .nil
  | _, _, .cons (k := k0) h t => by
    rw [List.map_cons, List.map_cons]
    by_cases e : k0 = k
    · simp only [if_pos e]
      exact .cons hv (Tk.mapput hv t)
    · simp only [if_neg e]
      exact .cons h (Tk.mapput hv t)
theorem Tk.put {k : Key} {v : V} {d : Tr} {kvs : List (Key × V)} {es : List (Key × Tr)} (h : Tk K H P kvs es) (hv : T K H P v d) : Tk K H P (putK kvs k v) (putD es k d) := by
  unfold putK putD
  rw [h.anyk k]
  by_cases e : (es.any fun kv => decide (kv.1 = k)) = true
  · rw [if_pos e, if_pos e]
    exact h.mapput hv
  · rw [if_neg e, if_neg e]
    exact h.append (.cons hv .nil)
theorem Tk.del (k : Key) : ∀ {kvs : List (Key × V)} {es : List (Key × Tr)}, Tk K H P kvs es → Tk K H P (dropK kvs k) (delD es k)
  | _, _, .nil => .nil
  | _, _, .cons (k := k0) h t => by
    unfold dropK delD
    rw [List.filter_cons, List.filter_cons]
    by_cases e : k0 ≠ k
    · rw [if_pos (by simpa using e), if_pos (by simpa using e)]
      exact .cons h (Tk.del k t)
    · rw [if_neg (by simpa using e), if_neg (by simpa using e)]
      exact Tk.del k t
end
end TU

set_option Elab.async false
set_option linter.all false
set_option maxRecDepth 100000
namespace TU
open PySem PySem.Spec PyProof.Rows L2

/-! ### to the library's data -/
mutual
def py : Tr → PyData
  | .non => .none
  | .bl b => .bool b
  | .int i => .int i
  | .str x => .str x
  | .lst xs => .list (pys xs)
  | .tup xs => .tuple (pys xs)
  | .dic kvs => .dict (pyk kvs)
def pys : List Tr → List PyData
  | [] => []
  | x :: xs => py x :: pys xs
def pyk : List (Key × Tr) → List (PyData × PyData)
  | [] => []
  | p :: xs => ((match p.1 with | .inl i => .int i | .inr s => .str s), py p.2) :: pyk xs
end
mutual
/-- no dict within -/
def nod : Tr → Bool
  | .lst xs => nods xs
  | .tup xs => nods xs
  | .dic _ => false
  | _ => true
def nods : List Tr → Bool
  | [] => true
  | x :: xs => nod x && nods xs
end
mutual
/-- no list within -/
def nol : Tr → Bool
  | .lst _ => false
  | .tup xs => nols xs
  | .dic kvs => nolk kvs
  | _ => true
def nols : List Tr → Bool
  | [] => true
  | x :: xs => nol x && nols xs
def nolk : List (Key × Tr) → Bool
  | [] => true
  | p :: xs => nol p.2 && nolk xs
end
mutual
def dep : Tr → Nat
  | .lst xs => deps xs + 1
  | .tup xs => deps xs + 1
  | .dic kvs => depk kvs + 1
  | _ => 0
def deps : List Tr → Nat
  | [] => 0
  | x :: xs => max (dep x) (deps xs)
def depk : List (Key × Tr) → Nat
  | [] => 0
  | p :: xs => max (dep p.2) (depk xs)
end
mutual
theorem plain_py : ∀ d : Tr, nod d = true → (py d).plain = true
  | .non, _ => rfl
  | .bl _, _ => rfl
  | .int _, _ => rfl
  | .str _, _ => rfl
  | .lst xs, h => by
    have h' : nods xs = true := by simpa [nod] using h
    simp only [py, PyData.plain]
    exact plain_pys xs h'
  | .tup xs, h => by
    have h' : nods xs = true := by simpa [nod] using h
    simp only [py, PyData.plain]
    exact plain_pys xs h'
  | .dic _, h => by simp [nod] at h
theorem plain_pys : ∀ ds : List Tr, nods ds = true → PyData.plainAll (pys ds) = true
  | [], _ => rfl
  | x :: xs, h => by
    have h' : nod x = true ∧ nods xs = true := by simpa [nods] using h
    simp only [pys, PyData.plainAll, plain_py x h'.1, plain_pys xs h'.2, Bool.and_self]
end
mutual
theorem depth_py : ∀ d : Tr, (py d).depth = dep d
  | .non => rfl
  | .bl _ => rfl
  | .int _ => rfl
  | .str _ => rfl
  | .lst xs => by simp only [py, PyData.depth, dep, depth_pys xs]
  | .tup xs => by simp only [py, PyData.depth, dep, depth_pys xs]
  | .dic kvs => by simp only [py, PyData.depth, dep, depth_pyk kvs]
theorem depth_pys : ∀ ds : List Tr, PyData.depthAll (pys ds) = deps ds
  | [] => rfl
  | x :: xs => by simp only [pys, PyData.depthAll, deps, depth_py x, depth_pys xs]
theorem depth_pyk : ∀ ds : List (Key × Tr), PyData.depthKv (pyk ds) = depk ds
  | [] => rfl
  | (k, x) :: xs => by
    cases k <;> simp [pyk, PyData.depthKv, depk, depth_py x, depth_pyk xs, PyData.depth]
end

section
variable {X : Cx} {pins : List (Addr × Obj)} {σ : L2.St} {H : Hp} {s : Shared} {P : Addr → Prop}
theorem reads_keys {prog : Program} {w : World} {h : Heap} {es : List DictEntry} {kvs : List (Key × Value)} (r : Pairs (mixKind prog w) es kvs) : ∀ {ds : List (Key × Tr)}, kvs.map (·.1) = ds.map (·.1) →
    ReadsAll h (es.map (·.key)) ((pyk ds).map (·.1)) [] := by
  induction r with
  | nil =>
    intro ds hk
    cases ds with
    | nil => exact .nil
    | cons q ds => exact nomatch hk
  | @cons e p es kvs h1 h2 t ih =>
    intro ds hk
    cases ds with
    | nil => exact nomatch hk
    | cons q ds =>
      obtain ⟨k, d⟩ := q
      have hk' : p.1 = k ∧ kvs.map (·.1) = ds.map (·.1) := by simpa using hk
      have r1 : keyIs k e.key = true := by rw [← hk'.1]; exact h1
      have ih' := ih hk'.2
      simp only [List.map_cons, pyk]
      rcases keyIs_shape r1 with ⟨i, t, rfl, e2⟩ | ⟨x, t, rfl, e2⟩
      · rw [e2]
        exact ReadsAll.cons (as := []) (bs := []) (Reads.int i t) ih'
      · rw [e2]
        exact ReadsAll.cons (as := []) (bs := []) (Reads.str x t) ih'
theorem vals_of_pairs {prog : Program} {w : World} {es : List DictEntry} {kvs : List (Key × Value)} (r : Pairs (mixKind prog w) es kvs) : es.map (·.val) = kvs.map (·.2) := by
  induction r with
  | nil => rfl
  | cons h1 h2 t ih => rw [List.map_cons, List.map_cons, h2, ih]
theorem pyk_snd : ∀ ds : List (Key × Tr), (pyk ds).map (·.2) = pys (ds.map (·.2))
  | [] => rfl
  | p :: ds => by simp only [pyk, List.map_cons, pys, pyk_snd ds]
mutual
/-- a tree is read as the library's data; where no list lies within, sys.modules is none of its objects -/
theorem T.reads (I : Inv X pins σ H s) : ∀ (d : Tr) (v : V) (u : Value), T X.K H P v d → RelV v u → ∃ as, Reads s.heap u (py d) as ∧ (nol d = true → sysModules ∉ as)
  | .non, _, _, h, r => by
    cases h
    cases r
    exact ⟨_, Reads.none, fun _ h => nomatch h⟩
  | .bl b, _, _, h, r => by
    cases h
    cases r
    exact ⟨_, Reads.bool b, fun _ h => nomatch h⟩
  | .int i, _, _, h, r => by
    cases h
    obtain ⟨t, rfl⟩ := r
    exact ⟨_, Reads.int i t, fun _ h => nomatch h⟩
  | .str x, _, _, h, r => by
    cases h
    obtain ⟨t, rfl⟩ := r
    exact ⟨_, Reads.str x t, fun _ h => nomatch h⟩
  | .lst ds, _, _, h, r => by
    cases h with
    | lst p hs ha =>
      cases r
      obtain ⟨its, rv, ⟨o, n, ho, hc, _, hd⟩, _⟩ := I.list hs
      obtain ⟨as, hr, _⟩ := Ts.reads I ds _ its ha rv
      exact ⟨_, Reads.list ho hc hd hr, fun q => by simp [nol] at q⟩
  | .tup ds, _, _, h, r => by
    cases h with
    | tup hs ha =>
      cases r
      obtain ⟨its, rv, ⟨o, ho, hc, n, hd⟩, _⟩ := I.tuple hs
      obtain ⟨as, hr, hn⟩ := Ts.reads I ds _ its ha rv
      exact ⟨_, Reads.tuple ho hc hd hr, fun q => hn (by simpa [nol] using q)⟩
  | .dic ds, _, _, h, r => by
    cases h with
    | @dic a kvs _ p hs ha =>
      cases r
      obtain ⟨z, hd, vs, rel, o, es, ep, ho, hx, hdat, hk, hp, nd⟩ := dk_rd I.hok hs
      have hkeys : vs.map (·.1) = ds.map (·.1) := rel.keys.symm.trans ha.keys
      obtain ⟨bs, hr, hn⟩ := Tk.reads I ds kvs vs ha rel
      have e2 : es.toList.map (·.val) = vs.map (·.2) := vals_of_pairs hp
      rw [← e2, ← pyk_snd] at hr
      refine ⟨_, Reads.dict ho hx.1 hdat (reads_keys hp hkeys) hr, fun q => ?_⟩
      have q' : nolk ds = true := by simpa [nol] using q
      have hd' : a ≠ sysModules := by simpa using hd
      simp only [List.cons_append, List.nil_append, List.mem_cons, not_or]
      exact ⟨fun z => hd' z.symm, hn q'⟩
theorem Ts.reads (I : Inv X pins σ H s) : ∀ (ds : List Tr) (vs : List V) (us : List Value), Ts X.K H P vs ds → Vals vs us → ∃ as, ReadsAll s.heap us (pys ds) as ∧ (nols ds = true → sysModules ∉ as)
  | [], _, _, h, r => by
    cases h
    cases r
    exact ⟨_, ReadsAll.nil, fun _ h => nomatch h⟩
  | d :: ds, _, _, h, r => by
    cases h with
    | cons h1 h2 =>
      cases r with
      | cons r1 r2 =>
        obtain ⟨as, q1, n1⟩ := T.reads I d _ _ h1 r1
        obtain ⟨bs, q2, n2⟩ := Ts.reads I ds _ _ h2 r2
        refine ⟨_, ReadsAll.cons q1 q2, fun q => ?_⟩
        have q' : nol d = true ∧ nols ds = true := by simpa [nols] using q
        rw [List.mem_append, not_or]
        exact ⟨n1 q'.1, n2 q'.2⟩
theorem Tk.reads (I : Inv X pins σ H s) : ∀ (ds : List (Key × Tr)) (kvs : List (Key × V)) (vs : List (Key × Value)), Tk X.K H P kvs ds → KV kvs vs → ∃ as, ReadsAll s.heap (vs.map (·.2)) (pys (ds.map (·.2))) as ∧ (nolk ds = true → sysModules ∉ as)
  | [], _, _, h, r => by
    cases h
    cases r
    exact ⟨_, ReadsAll.nil, fun _ h => nomatch h⟩
  | d :: ds, _, _, h, r => by
    cases h with
    | cons h1 h2 =>
      cases r with
      | cons r1 r2 =>
        obtain ⟨as, q1, n1⟩ := T.reads I _ _ _ h1 r1.2
        obtain ⟨bs, q2, n2⟩ := Tk.reads I ds _ _ h2 r2
        refine ⟨_, ReadsAll.cons q1 q2, fun q => ?_⟩
        simp only [nolk, Bool.and_eq_true] at q
        rw [List.mem_append, not_or]
        exact ⟨n1 q.1, n2 q.2⟩
end
end

/-! ### operators of any kind -/
section
variable {X : Cx}
/-- a + b -/
def rAddU (K : PySem.W.Frag) : R2 := fun x y H Q => (∃ i j, x = .int i ∧ y = .int j ∧ Q (.int (i + j)) H) ∨ (∃ i j, x = .str i ∧ y = .str j ∧ i.length + j.length ≤ sizeLine ∧ Q (.str (i ++ j)) H) ∨ rCat x y H Q ∨ rCatT K x y H Q
theorem op_addU : OpR X (binaryOp .Add) (rAddU X.K) := op_add.or (op_add_str.or (op_cat.or op_catT))
theorem q_addI {K : PySem.W.Frag} {i j : Int} {H : Hp} {Q : VK} (q : Q (.int (i + j)) H) : rAddU K (.int i) (.int j) H Q := .inl ⟨i, j, rfl, rfl, q⟩
theorem q_addS {K : PySem.W.Frag} {i j : Str} {H : Hp} {Q : VK} (z : i.length + j.length ≤ sizeLine) (q : Q (.str (i ++ j)) H) : rAddU K (.str i) (.str j) H Q := .inr (.inl ⟨i, j, rfl, rfl, z, q⟩)
theorem q_addL {K : PySem.W.Frag} {a b : Addr} {xs ys : List V} {H : Hp} {Q : VK} (ha : H a = some (.lst xs)) (hb : H b = some (.lst ys)) (z : xs.length + ys.length ≤ sizeLine) (q : ∀ p, H p = none → Q (.ref p) (upd H p (.lst (xs ++ ys)))) :
    rAddU K (.ref a) (.ref b) H Q := .inr (.inr (.inl ⟨a, b, xs, ys, rfl, rfl, ha, hb, z, q⟩))
theorem q_addT {K : PySem.W.Frag} {a b : Addr} {xs ys : List V} {H : Hp} {Q : VK} (ha : SqT K H a xs) (hb : SqT K H b ys) (n1 : xs ≠ []) (n2 : ys ≠ []) (z : xs.length + ys.length ≤ sizeLine) (q : ∀ p, H p = none → Q (.ref p) (upd H p (.tup (xs ++ ys)))) :
    rAddU K (.ref a) (.ref b) H Q := .inr (.inr (.inr ⟨a, b, xs, ys, rfl, rfl, ha, hb, n1, z, fun e => absurd e n2, fun _ => q⟩))

/-- what == tells of two trees without dicts -/
def eqb (d e : Tr) : Bool := PyData.eqv (py d) (py e)
theorem eqb_refl {d : Tr} (h : nod d = true) : eqb d d = true := SeqAt.eqv_refl_plain _ (plain_py d h)
/-- a dict == another one: the values without dicts -/
def eqk (ks ls : List (Key × Tr)) : Bool := ks.length == ls.length && ks.all fun p => match getD ls p.1 with | some u => eqb p.2 u | none => false

/-- a == b: trees without dicts -/
def rEqT (K : PySem.W.Frag) (n : Nat) : R2 := fun x y H Q => ∃ P d e, T K H P x d ∧ T K H P y e ∧ nod d = true ∧ nod e = true ∧ dep d ≤ n ∧ Q (.bl (eqb d e)) H
def rNeT (K : PySem.W.Frag) (n : Nat) : R2 := fun x y H Q => ∃ P d e, T K H P x d ∧ T K H P y e ∧ nod d = true ∧ nod e = true ∧ dep d ≤ n ∧ Q (.bl (!eqb d e)) H
theorem op_eqT {n : Nat} (hu : X.A.units + n < cLine) : OpR X (compareOp .Eq) (rEqT X.K n) := by
  intro pins s σ H x y v u Q I rx ry h
  obtain ⟨P, d, e, hd, he, nd, ne, hn, q⟩ := h
  obtain ⟨as, r1, _⟩ := T.reads I d x v hd rx
  obtain ⟨bs, r2, _⟩ := T.reads I e y u he ry
  refine SeqAt.eq_plain r1 r2 (plain_py d nd) (plain_py e ne) ?_ ⟨.bl _, H, I, rfl, q⟩
  rw [depth_py, depth_py]
  have := Nat.min_le_left (dep d) (dep e)
  omega
theorem op_neT {n : Nat} (hu : X.A.units + n < cLine) : OpR X (compareOp .NotEq) (rNeT X.K n) := by
  intro pins s σ H x y v u Q I rx ry h
  obtain ⟨P, d, e, hd, he, nd, ne, hn, q⟩ := h
  obtain ⟨as, r1, _⟩ := T.reads I d x v hd rx
  obtain ⟨bs, r2, _⟩ := T.reads I e y u he ry
  refine SeqAt.ne_plain r1 r2 (plain_py d nd) (plain_py e ne) ?_ ⟨.bl _, H, I, rfl, q⟩
  rw [depth_py, depth_py]
  have := Nat.min_le_left (dep d) (dep e)
  omega

/-- the values that are met when two dicts are compared -/
theorem hits_of {pins : List (Addr × Obj)} {σ : L2.St} {H : Hp} {s : Shared} {P P' : Addr → Prop} {A : Around} {n : Nat} (I : Inv X pins σ H s) (hu : A.units + n < cLine) {ls : List (Key × Tr)} {vl : List (Key × V)} {vb : List (Key × Value)} (hl : Tk X.K H P' vl ls) (rb : KV vl vb) (nl : ∀ p ∈ ls, nod p.2 = true) :
    ∀ {ks : List (Key × Tr)} {vk : List (Key × V)} {va : List (Key × Value)}, Tk X.K H P vk ks → KV vk va → (∀ p ∈ ks, nod p.2 = true ∧ dep p.2 ≤ n) →
      ∃ b, PySem.W.KeqHits A s vb va b ∧ (b = ks.all fun p => match getD ls p.1 with | some u => eqb p.2 u | none => false)
  | [], _, _, h, r, _ => by
    cases h
    cases r
    exact ⟨true, .nil, rfl⟩
  | (k, d) :: ks, _, _, h, r, hn => by
    cases h with
    | @cons _ v vk _ _ h1 h2 =>
      cases r with
      | @cons _ q _ _ r1 r2 =>
        obtain ⟨e1, e2⟩ := r1
        obtain ⟨key, w'⟩ := q
        have e1' : k = key := e1
        subst e1'
        obtain ⟨b, hb, eb⟩ := hits_of I hu hl rb nl h2 r2 fun p hp => hn p (List.mem_cons_of_mem _ hp)
        have rr := rb.val k
        rcases hl.get k with ⟨z1, z2⟩ | ⟨u, e, z1, z2, z3⟩
        · rw [z1] at rr
          have e3 : valueAt vb k = none := by
            cases q : valueAt vb k with
            | none => rfl
            | some y =>
              rw [q] at rr
              exact (show False from rr).elim
          refine ⟨false, .miss e3, ?_⟩
          rw [List.all_cons]
          simp only [z2, Bool.false_and]
        · rw [z1] at rr
          obtain ⟨y, hy, ry⟩ := rr.some_of
          obtain ⟨as, q1, _⟩ := T.reads I d v w' h1 e2
          obtain ⟨bs, q2, _⟩ := T.reads I e u y z3 ry
          have ne : nod e = true := by
            have hm : ∃ p ∈ ls, p.1 = k ∧ p.2 = e := by
              unfold getD at z2
              cases q : ls.find? fun kv => decide (kv.1 = k) with
              | none =>
                rw [q] at z2
                cases z2
              | some p =>
                rw [q] at z2
                exact ⟨p, List.mem_of_find?_eq_some q, by simpa using List.find?_some q, Option.some.inj z2⟩
            obtain ⟨p, hp, _, hp2⟩ := hm
            rw [← hp2]
            exact nl p hp
          have hd := hn (k, d) List.mem_cons_self
          have EA : SeqAt.EqAt A s w' y (eqb d e) := SeqAt.eqAt_plain _ _ A s w' y _ _ q1 q2 (plain_py d hd.1) (plain_py e ne) (by
            rw [depth_py, depth_py]
            have h3 : dep d ≤ n := hd.2
            have := Nat.min_le_left (dep d) (dep e)
            omega)
          refine ⟨eqb d e && b, .hit hy EA hb, ?_⟩
          rw [List.all_cons]
          simp only [z2, eb]
def rEqK (neg : Bool) (K : PySem.W.Frag) (n : Nat) : R2 := fun x y H Q => ∃ P a b vk vl ks ls, x = .ref a ∧ y = .ref b ∧ Rd H a (.dK vk) ∧ Rd H b (.dK vl) ∧ Tk K H P vk ks ∧ Tk K H P vl ls ∧ (∀ p ∈ ks, nod p.2 = true ∧ dep p.2 ≤ n) ∧ (∀ p ∈ ls, nod p.2 = true) ∧ Q (.bl (if neg then !eqk ks ls else eqk ks ls)) H
theorem op_eqK {n : Nat} (hu : X.A.units + 1 + n < cLine) : OpR X (compareOp .Eq) (rEqK false X.K n) := by
  intro pins s σ H x y v u Q I rx ry h
  obtain ⟨P, a, b, vk, vl, ks, ls, rfl, rfl, ha, hb, ta, tb, na, nb, q⟩ := h
  cases (show v = Value.ref a from rx)
  cases (show u = Value.ref b from ry)
  obtain ⟨_, ya, va, ra, da⟩ := dk_rd I.hok ha
  obtain ⟨_, yb, vb, rb, db⟩ := dk_rd I.hok hb
  obtain ⟨r, hits, er⟩ := hits_of I (A := X.A.in1) hu tb rb nb ta ra na
  refine PySem.W.keq_eq (knd := mixKind X.prog X.w) ya yb da db (by omega) (fun _ => hits) ⟨.bl _, H, I, rfl, ?_⟩
  have e1 : va.length = ks.length := by rw [← ra.length, ta.length]
  have e2 : vb.length = ls.length := by rw [← rb.length, tb.length]
  rw [e1, e2, er]
  exact q
theorem op_neK {n : Nat} (hu : X.A.units + 1 + n < cLine) : OpR X (compareOp .NotEq) (rEqK true X.K n) := by
  intro pins s σ H x y v u Q I rx ry h
  obtain ⟨P, a, b, vk, vl, ks, ls, rfl, rfl, ha, hb, ta, tb, na, nb, q⟩ := h
  cases (show v = Value.ref a from rx)
  cases (show u = Value.ref b from ry)
  obtain ⟨_, ya, va, ra, da⟩ := dk_rd I.hok ha
  obtain ⟨_, yb, vb, rb, db⟩ := dk_rd I.hok hb
  obtain ⟨r, hits, er⟩ := hits_of I (A := X.A.in1) hu tb rb nb ta ra na
  refine PySem.W.keq_ne (knd := mixKind X.prog X.w) ya yb da db (by omega) (fun _ => hits) ⟨.bl _, H, I, rfl, ?_⟩
  have e1 : va.length = ks.length := by rw [← ra.length, ta.length]
  have e2 : vb.length = ls.length := by rw [← rb.length, tb.length]
  rw [e1, e2, er]
  exact q
/-- a == b, a != b of anything that is known here -/
def rEqU (K : PySem.W.Frag) : R2 := fun x y H Q => rEq x y H Q ∨ rEqT K 60 x y H Q ∨ rEqK false K 60 x y H Q
def rNeU (K : PySem.W.Frag) : R2 := fun x y H Q => rNe x y H Q ∨ rNeT K 60 x y H Q ∨ rEqK true K 60 x y H Q
theorem op_eqU (hu : X.A.units + 64 < cLine) : OpR X (compareOp .Eq) (rEqU X.K) := op_eq.or ((op_eqT (by omega)).or (op_eqK (by omega)))
theorem op_neU (hu : X.A.units + 64 < cLine) : OpR X (compareOp .NotEq) (rNeU X.K) := op_ne.or ((op_neT (by omega)).or (op_neK (by omega)))

/-- x in c, x not in c -/
def rInU (neg : Bool) (K : PySem.W.Frag) : R2 := fun x y H Q => (∃ a o, y = .ref a ∧ DGet H a x o ∧ Q (.bl (if neg then !o.isSome else o.isSome)) H) ∨
  (∃ P d ds, T K H P x d ∧ (T K H P y (.lst ds) ∨ T K H P y (.tup ds)) ∧ nod d = true ∧ nods ds = true ∧ dep d ≤ 60 ∧ Q (.bl (if neg then !ds.any fun z => eqb z d else ds.any fun z => eqb z d)) H) ∨
  (∃ i j, x = .str i ∧ y = .str j ∧ Q (.bl (if neg then (Builtin.Str.occurrences j i 0 j.length 1).isEmpty else !(Builtin.Str.occurrences j i 0 j.length 1).isEmpty)) H)
theorem any_pys (d : Tr) : ∀ ds : List Tr, ((pys ds).any fun z => PyData.eqv z (py d)) = ds.any fun z => eqb z d
  | [] => rfl
  | x :: xs => by rw [pys, List.any_cons, List.any_cons, any_pys d xs] <;> rfl
theorem op_inU (hu : X.A.units + 64 < cLine) : OpR X (compareOp .In) (rInU false X.K) := by
  intro pins s σ H x y v u Q I rx ry h
  rcases h with ⟨a, o, rfl, g, q⟩ | ⟨P, d, ds, hd, he, nd, ns, hn, q⟩ | ⟨i, j, rfl, rfl, q⟩
  · cases (show u = Value.ref a from ry)
    exact d_in (by omega) I g rx fun s3 I3 => ⟨.bl o.isSome, H, I3, rfl, q⟩
  · obtain ⟨as, r1, _⟩ := T.reads I d x v hd rx
    have hm : X.A.units + 1 + min (PyData.depthAll (pys ds)) (py d).depth < cLine := by
      rw [depth_py, depth_pys]
      have := Nat.min_le_right (deps ds) (dep d)
      omega
    rcases he with he | he
    · obtain ⟨bs, r2, _⟩ := T.reads I _ y u he ry
      exact SeqAt.in_list_data r2 r1 (plain_pys ds ns) (plain_py d nd) hm ⟨.bl _, H, I, rfl, by rw [any_pys]; exact q⟩
    · obtain ⟨bs, r2, _⟩ := T.reads I _ y u he ry
      exact SeqAt.in_tuple_data r2 r1 (plain_pys ds ns) (plain_py d nd) hm ⟨.bl _, H, I, rfl, by rw [any_pys]; exact q⟩
  · exact op_in_str pins s σ H _ _ v u Q I rx ry ⟨i, j, rfl, rfl, q⟩
theorem op_notInU (hu : X.A.units + 64 < cLine) : OpR X (compareOp .NotIn) (rInU true X.K) := by
  intro pins s σ H x y v u Q I rx ry h
  rcases h with ⟨a, o, rfl, g, q⟩ | ⟨P, d, ds, hd, he, nd, ns, hn, q⟩ | ⟨i, j, rfl, rfl, q⟩
  · cases (show u = Value.ref a from ry)
    exact d_notIn (by omega) I g rx fun s3 I3 => ⟨.bl (!o.isSome), H, I3, rfl, q⟩
  · obtain ⟨as, r1, _⟩ := T.reads I d x v hd rx
    have hm : X.A.units + 1 + min (PyData.depthAll (pys ds)) (py d).depth < cLine := by
      rw [depth_py, depth_pys]
      have := Nat.min_le_right (deps ds) (dep d)
      omega
    rcases he with he | he
    · obtain ⟨bs, r2, _⟩ := T.reads I _ y u he ry
      exact SeqAt.notIn_list_data r2 r1 (plain_pys ds ns) (plain_py d nd) hm ⟨.bl _, H, I, rfl, by rw [any_pys]; exact q⟩
    · obtain ⟨bs, r2, _⟩ := T.reads I _ y u he ry
      exact SeqAt.notIn_tuple_data r2 r1 (plain_pys ds ns) (plain_py d nd) hm ⟨.bl _, H, I, rfl, by rw [any_pys]; exact q⟩
  · exact op_notIn_str pins s σ H _ _ v u Q I rx ry ⟨i, j, rfl, rfl, by
      rw [Bool.not_not]
      exact q⟩

/-- c[k] -/
def rDIx : R2 := fun x y H Q => ∃ a v, x = .ref a ∧ DGet H a y (some v) ∧ Q v H
theorem ix_dict (hu : X.A.units + 1 < cLine) : IxR X rDIx := by
  intro value slice pins s σ H x y v u Q I rx ry h hs
  obtain ⟨a, w, rfl, g, q⟩ := h
  cases (show v = Value.ref a from rx)
  exact PyProof.Rows.tail_any (dict_typeIs I g) PySem.F.slot_dict_getitem.lookup (d_getItem hu I g ry fun w' s3 I3 rw' => ⟨w, H, I3, rw', q⟩) hs
def rIxU (K : PySem.W.Frag) : R2 := fun x y H Q => rIxL K x y H Q ∨ rIxT K x y H Q ∨ rIxS x y H Q ∨ rDIx x y H Q
theorem ix_any (hu : X.A.units + 64 < cLine) : IxR X (rIxU X.K) := ix_list.or (ix_tup.or (ix_str.or (ix_dict (by omega))))
/-- c[k] = v -/
def rSetU : TSet := fun o i v H Q => rSetL o i v H Q ∨ rSetD o i v H Q
theorem set_any (hu : X.A.units + 64 < cLine) : PSet X rSetU := by
  intro pins s σ H o i v ov iv u Q I ro ri rv h
  rcases h with h | h
  · exact set_list pins s σ H o i v ov iv u Q I ro ri rv h
  · exact set_dict (by omega) pins s σ H o i v ov iv u Q I ro ri rv h
/-- c[lo:hi] -/
def rSlU (K : PySem.W.Frag) : V → Option Int → Option Int → Hp → VK → Prop := fun x lo hi H Q => rSlL K x lo hi H Q ∨ rSlT K x lo hi H Q ∨ rSlS x lo hi H Q
theorem sl_any : SlR X (rSlU X.K) := sl_list.or (sl_tup.or sl_str)
/-- len(c) -/
def rLenU (K : PySem.W.Frag) : List V → Hp → VK → Prop := fun xs H Q => (∃ p ys, xs = [.ref p] ∧ (SqL K H p ys ∨ SqT K H p ys) ∧ Q (.int ys.length) H) ∨ (∃ z, xs = [.str z] ∧ z.length ≤ sizeLine ∧ Q (.int z.length) H) ∨ ∃ a kvs, xs = [.ref a] ∧ Rd H a (.dK kvs) ∧ Q (.int kvs.length) H
theorem call_lenR : CallR X (.builtin "len") (fun xs H Q => ∃ a kvs, xs = [V.ref a] ∧ Rd H a (.dK kvs) ∧ Q (.int kvs.length) H) := by
  intro pins s σ H xs us Q I r h
  obtain ⟨a, kvs, rfl, hd, q⟩ := h
  obtain ⟨u, rfl, rx⟩ := vals1 r
  cases rx
  exact d_len I hd fun t s' I' => ⟨.int _, H, I', ⟨t, rfl⟩, q⟩
theorem call_lenU : CallR X (.builtin "len") (rLenU X.K) := call_len_seq.or (call_len_str.or call_lenR)
/-- list(c) -/
def rListU (K : PySem.W.Frag) : List V → Hp → VK → Prop := fun xs H Q => (∃ p ys, xs = [.ref p] ∧ (SqL K H p ys ∨ SqT K H p ys) ∧ ∀ l, H l = none → Q (.ref l) (upd H l (.lst ys))) ∨
  (∃ (a : Addr) (kvs : List (Key × V)), xs = [.ref a] ∧ Rd H a (.dK kvs) ∧ ∀ p, H p = none → Q (.ref p) (upd H p (.lst (kvs.map fun kv => kV kv.1))))
theorem call_listU (hc : X.calm = true) : CallR X (.type "list") (rListU X.K) := call_list_of.or (call_listD hc)
/-- repr(c) of a tree -/
def rReprT (K : PySem.W.Frag) : List V → Hp → VK → Prop := fun xs H Q => ∃ P a d, xs = [.ref a] ∧ T K H P (.ref a) d ∧ (py d).showable = true ∧ ((py d).hasDict = true → nol d = true) ∧ dep d ≤ 60 ∧ (py d).shown.length ≤ sizeLine ∧ Q (.str (py d).shown) H
theorem call_reprT (hg : X.A.guards = some []) (hu : X.A.units + 64 < cLine) : CallR X (.builtin "repr") (rReprT X.K) := by
  intro pins s σ H xs us Q I r h
  obtain ⟨P, a, d, rfl, ht, hs, hn, hd, hz, q⟩ := h
  obtain ⟨u, rfl, rx⟩ := vals1 r
  cases (show u = Value.ref a from rx)
  obtain ⟨as, r1, na⟩ := T.reads I d _ _ ht rfl
  exact repr_of_reads' r1 hs (fun z => na (hn z)) hg (by rw [depth_py]; omega) (fun _ _ e => e) (fun h' u tk k => ⟨.str _, H, I.kept (t' := tk) k, ⟨u, rfl⟩, q⟩) hz
end
end TU

set_option Elab.async false
set_option linter.all false
set_option maxRecDepth 100000
namespace TU
open PySem PySem.Spec PyProof.Rows L2

/-! ### one of two rules -/
section
variable {X : Cx}
theorem PEor {e : Expr} {t t' : TE} (h : PE X e t) (h' : PE X e t') : PE X e (fun σ H Q => t σ H Q ∨ t' σ H Q) := ⟨fun pins s σ H Q I q => q.elim (h.run pins s σ H Q I) (h'.run pins s σ H Q I)⟩
theorem PSor {e : Stmt} {t t' : TS} (h : PS X e t) (h' : PS X e t') : PS X e (fun D σ H => t D σ H ∨ t' D σ H) := ⟨fun pins s σ H Q I q => q.elim (h.run pins s σ H Q I) (h'.run pins s σ H Q I)⟩
theorem PIor {tg e : Expr} {t t' : TI} (h : PI X tg e t) (h' : PI X tg e t') : PI X tg e (fun σ H R => t σ H R ∨ t' σ H R) := ⟨fun pins s σ H Q I q => q.elim (h.run pins s σ H Q I) (h'.run pins s σ H Q I)⟩
/-- what a for walks: a list, a tuple, a dict that is locked -/
def iAny (K : PySem.W.Frag) (te : TE) : TI := fun σ H R => iList K te σ H R ∨ iTup K te σ H R ∨ iKeys te σ H R
theorem pi_any {tg e : Expr} {te : TE} (h : PE X e te) : PI X tg e (iAny X.K te) := PIor (pi_list h) (PIor (pi_tup h) (pi_keys h))
/-- .. the dict locked here -/
def tLockU (t : TS) : TS := fun D σ H => t D σ H ∨ tLock t D σ H
theorem ps_lockU {e : Stmt} {t : TS} (h : PS X e t) : PS X e (tLockU t) := PSor h (ps_lock h)
def tLockEU (t : TE) : TE := fun σ H Q => t σ H Q ∨ tLockE t σ H Q
theorem pe_lockU {e : Expr} {t : TE} (h : PE X e t) : PE X e (tLockEU t) := PEor h (pe_lock h)
end

/-! ### a def of the text, called -/
structure Df (P : Program) (w : World) (K : PySem.W.Frag) (mg : Str → Option Value) (base : Heap) (x : Str) (ps : List Str) (k : Nat) (sp : Sp) : Prop where
  ex : ∃ f fd, FnOk P w K mg base (L2.CX P w) k f fd ps sp ∧ mg x = some (.ref f) ∧ PySem.W.keepIn K (.ref f) = true ∧ Binds K fd ps []
structure TopF (K : PySem.W.Frag) (mg : Str → Option Value) (x : Str) (st : Stmt) (ps : List Str) : Prop where
  ex : ∃ f fd, Fun K x x st f fd ∧ mg x = some (.ref f) ∧ Binds K fd ps []
section
variable {P : Program} {w : World} {K : PySem.W.Frag} {mg : Str → Option Value} {base : Heap}
theorem TopF.df {x : Str} {st : Stmt} {N ps : List Str} {k : Nat} {sp : Sp} (F : TopF K mg x st ps) (S : FnScope N ps (defScope st)) (len : ∀ vs H Q E, sp vs H Q E → vs.length = ps.length)
    (hbody : ∀ (f : Addr) (cdv : Value) (A : Around) (outer : List Env) (s : Shared) (H : Hp) (vs : List V) (Q : VK) (E : XK), Room k (A.deeper (envOfC x (defScope st) s.heap.objs.size f cdv)) → sp vs H Q E →
      ∃ t, PSs (cxOf (L2.CX P w) P w K mg base N x (defScope st) f cdv A outer s H E) (defBody st) t ∧ t { nx := fun _ H' => Q .non H', rt := Q } (start N vs) H) : Df P w K mg base x ps (k + 1) sp := by
  obtain ⟨f, fd, F0, hm, hb⟩ := F.ex
  exact ⟨f, fd, F0.okX S len fun cdv A outer s H vs Q E hr h => hbody f cdv A outer s H vs Q E hr h, hm, F0.kp, hb⟩
theorem Df.imp {x : Str} {ps : List Str} {k : Nat} {sp sp' : Sp} (F : Df P w K mg base x ps k sp) (h : ∀ vs H Q E, sp' vs H Q E → sp vs H Q E) : Df P w K mg base x ps k sp' := by
  obtain ⟨f, fd, F0, r⟩ := F.ex
  exact ⟨f, fd, F0.imp h, r⟩
end
section
variable {X : Cx} {k : Nat} {ps : List Str} {sp : Sp} {x : Str} {p pos : Pos} {e : Expr} {es : List Expr} {t : TA} 
/-- its call, where exceptions go on as E says -/
theorem pe_df {E : L2.St → XK} (F : Df X.prog X.w X.K X.mg X.base x ps k sp) (hr : Room k X.A) (hx : ∀ σ, PassesAt (L2.CX X.prog X.w) X σ (E σ)) (ha : PA X (e :: es) t) (hg : Gl X x := by rfl)
    (hdb : (x == ("__debug__" : Str)) = false := by decide) (he : starEach (e :: es) X.env = (false, eval e X.env) :: starEach es X.env := by rfl) (hpl : (backTo pos (starEach es X.env)).any (·.1) = false := by rfl) :
    PE X (.Call (.Name x p) (e :: es) [] pos) (tCallS sp E t) := by
  obtain ⟨f, fd, F0, hm, hk, hb⟩ := F.ex
  exact pe_callS F0 hr hg hm hk hb hx ha hdb he hpl
/-- its call, where nothing is raised -/
theorem pe_df0 (F : Df X.prog X.w X.K X.mg X.base x ps k sp) (hr : Room k X.A) (ha : PA X (e :: es) t) (hg : Gl X x := by rfl)
    (hdb : (x == ("__debug__" : Str)) = false := by decide) (he : starEach (e :: es) X.env = (false, eval e X.env) :: starEach es X.env := by rfl) (hpl : (backTo pos (starEach es X.env)).any (·.1) = false := by rfl) :
    PE X (.Call (.Name x p) (e :: es) [] pos) (tCallS sp (fun _ => E0) t) := by
  obtain ⟨f, fd, F0, hm, hk, hb⟩ := F.ex
  exact pe_callS F0 hr hg hm hk hb (fun _ _ s s' e' H' I h => passL _ _ _ _ _ _ I h) ha hdb he hpl
end

/-! ### readings, step by step -/
section
variable {K : PySem.W.Frag} {σ : L2.St} {H : Hp} {D : Ends} {Q : VK} {te ta tb tk : TE} {t u : TS} {g : TG} {i : Nat} {v : V} {c : TT} {tr : TA}
theorem q_seq (h : t { D with nx := u D } σ H) : tSeq t u D σ H := h
theorem q_asg (h : te σ H fun x H1 => g x σ H1 D.nx) : tAsg te g D σ H := h
theorem q_drop (h : te σ H fun _ H1 => D.nx σ H1) : tDrop te D σ H := h
theorem q_ret (h : te σ H D.rt) : tRet te D σ H := h
theorem q_retN (h : D.rt .non H) : tRetN D σ H := h
theorem q_next (h : D.nx σ H) : tNext D σ H := h
theorem q_if (h : c σ H fun b H1 => if b = true then t D σ H1 else u D σ H1) : tIfS c t u D σ H := h
theorem q_gname {R : L2.St → Hp → Prop} (h : R (σ.set i (some v)) H) : gName i v σ H R := h
theorem q_gsub {to ti : TE} {ts : TSet} {R : L2.St → Hp → Prop} (h : to σ H fun o H1 => ti σ H1 fun i H2 => ts o i v H2 fun H3 => R σ H3) : gSub to ti ts v σ H R := h
theorem q_var (h : σ[i]? = some (some v)) (q : Q v H) : tVar i σ H Q := ⟨v, h, q⟩
theorem q_c (q : Q v H) : tC v σ H Q := q
theorem q_op {r : R2} (h : ta σ H fun x H1 => tb σ H1 fun y H2 => r x y H2 Q) : tOp r ta tb σ H Q := h
theorem q_un {r : V → Hp → VK → Prop} (h : ta σ H fun x H1 => r x H1 Q) : tUn r ta σ H Q := h
theorem q_U {f : Int → V} {a : Int} (q : Q (f a) H) : rU f (.int a) H Q := ⟨a, rfl, q⟩
theorem q_I0 {f : Int → Int → V} {a b : Int} (q : Q (f a b) H) : rI0 f (.int a) (.int b) H Q := ⟨a, b, rfl, rfl, q⟩
theorem q_I {C : Int → Int → Prop} {f : Int → Int → V} {a b : Int} (hc : C a b) (q : Q (f a b) H) : rI C f (.int a) (.int b) H Q := ⟨a, b, rfl, rfl, hc, q⟩
theorem q_test {R : Bool → Hp → Prop} (h : te σ H fun x H' => ∃ k, x = .bl k ∧ R k H') : tTest te σ H R := h
theorem q_tB {R : Bool → Hp → Prop} (h : te σ H fun x H' => ∃ k, x = .bl k ∧ R k H') : tB te σ H R := h
theorem q_bl {b : Bool} {R : Bool → Prop} (h : R b) : ∃ k, V.bl b = V.bl k ∧ R k := ⟨b, rfl, h⟩
theorem q_not {R : Bool → Hp → Prop} (h : c σ H fun b H1 => R (!b) H1) : tNot c σ H R := h
theorem q_and {c' : TT} {R : Bool → Hp → Prop} (h : c σ H fun b H1 => if b = true then c' σ H1 R else R false H1) : tAnd c c' σ H R := h
theorem q_or {c' : TT} {R : Bool → Hp → Prop} (h : c σ H fun b H1 => if b = true then R true H1 else c' σ H1 R) : tOr c c' σ H R := h
theorem q_nil {R : List V → Hp → Prop} (h : R [] H) : tNil σ H R := h
theorem q_cons {R : List V → Hp → Prop} (h : ta σ H fun x H1 => tr σ H1 fun xs H2 => R (x :: xs) H2) : tCons ta tr σ H R := h
theorem q_callS {sp : Sp} {E : L2.St → XK} (h : tr σ H fun vs H1 => sp vs H1 Q (E σ)) : tCallS sp E tr σ H Q := h
theorem q_cb {r : List V → Hp → VK → Prop} (h : tr σ H fun vs H1 => r vs H1 Q) : tCB r tr σ H Q := h
theorem q_tup (h : tr σ H fun xs H1 => xs.length ≤ sizeLine ∧ ∀ p, H1 p = none → Q (.ref p) (upd H1 p (.tup xs))) : tTup tr σ H Q := h
theorem q_lst (h : tr σ H fun xs H1 => xs.length ≤ sizeLine ∧ ∀ p, H1 p = none → Q (.ref p) (upd H1 p (.lst xs))) : tLst tr σ H Q := h
theorem q_ifE (h : c σ H fun b H1 => if b = true then ta σ H1 Q else tb σ H1 Q) : tIf c ta tb σ H Q := h
theorem q_notV (h : ta σ H fun x H1 => ∃ c, x = .bl c ∧ Q (.bl (!c)) H1) : tNotV ta σ H Q := h
theorem q_andV (h : ta σ H fun x H1 => ∃ c, x = .bl c ∧ if c = true then tb σ H1 Q else Q (.bl false) H1) : tAndV ta tb σ H Q := h
theorem q_orV (h : ta σ H fun x H1 => ∃ c, x = .bl c ∧ if c = true then Q (.bl true) H1 else tb σ H1 Q) : tOrV ta tb σ H Q := h
theorem q_dnew (h : ∀ p, H p = none → Q (.ref p) (upd H p (.dK []))) : tDNewK σ H Q := h
theorem q_bm {T : String} {r : V → List V → Hp → VK → Prop} (h : ta σ H fun x H1 => tyV K T x H1 ∧ tr σ H1 fun xs H2 => r x xs H2 Q) : tBM K T r ta tr σ H Q := h
theorem q_size {n : Nat} {R : Prop} (h : n ≤ 1000) (r : R) : n ≤ sizeLine ∧ R := ⟨Nat.le_trans h (by decide), r⟩
/-- tests whose answer is known, or not -/
theorem q_t {A B : Prop} (h : A) : if true = true then A else B := by
  rw [if_pos rfl]
  exact h
theorem q_f {A B : Prop} (h : B) : if false = true then A else B := by
  rw [if_neg Bool.false_ne_true]
  exact h
theorem q_ite {b : Bool} {A B : Prop} (h1 : b = true → A) (h2 : b = false → B) : if b = true then A else B := by
  cases b with
  | true => exact q_t (h1 rfl)
  | false => exact q_f (h2 rfl)
theorem q_dec {p : Prop} [Decidable p] {A B : Prop} (h1 : p → A) (h2 : ¬ p → B) : if decide p = true then A else B := by
  by_cases h : p
  · rw [decide_eq_true h]
    exact q_t (h1 h)
  · rw [decide_eq_false h]
    exact q_f (h2 h)
theorem q_ndec {p : Prop} [Decidable p] {A B : Prop} (h1 : ¬ p → A) (h2 : p → B) : if (!decide p) = true then A else B := by
  by_cases h : p
  · rw [decide_eq_true h]
    exact q_f (h2 h)
  · rw [decide_eq_false h]
    exact q_t (h1 h)
/-! the operators -/
theorem q_eqI {a b : Int} (q : Q (.bl (decide (a = b))) H) : rEqU K (.int a) (.int b) H Q := .inl ⟨rfl, by
  have e : decide (V.int a = V.int b) = decide (a = b) := by simp
  rw [e]
  exact q⟩
theorem q_eqS {a b : Str} (q : Q (.bl (decide (a = b))) H) : rEqU K (.str a) (.str b) H Q := .inl ⟨rfl, by
  have e : decide (V.str a = V.str b) = decide (a = b) := by simp
  rw [e]
  exact q⟩
theorem q_eqB {a b : Bool} (q : Q (.bl (decide (a = b))) H) : rEqU K (.bl a) (.bl b) H Q := .inl ⟨rfl, by
  have e : decide (V.bl a = V.bl b) = decide (a = b) := by simp
  rw [e]
  exact q⟩
theorem q_neI {a b : Int} (q : Q (.bl (!decide (a = b))) H) : rNeU K (.int a) (.int b) H Q := .inl ⟨rfl, by
  have e : decide (V.int a = V.int b) = decide (a = b) := by simp
  rw [e]
  exact q⟩
theorem q_neS {a b : Str} (q : Q (.bl (!decide (a = b))) H) : rNeU K (.str a) (.str b) H Q := .inl ⟨rfl, by
  have e : decide (V.str a = V.str b) = decide (a = b) := by simp
  rw [e]
  exact q⟩
theorem q_eqT {P : Addr → Prop} {x y : V} {d e : Tr} (hd : T K H P x d) (he : T K H P y e) (nd : nod d = true) (ne : nod e = true) (hn : dep d ≤ 60) (q : Q (.bl (eqb d e)) H) : rEqU K x y H Q := .inr (.inl ⟨P, d, e, hd, he, nd, ne, hn, q⟩)
theorem q_neT {P : Addr → Prop} {x y : V} {d e : Tr} (hd : T K H P x d) (he : T K H P y e) (nd : nod d = true) (ne : nod e = true) (hn : dep d ≤ 60) (q : Q (.bl (!eqb d e)) H) : rNeU K x y H Q := .inr (.inl ⟨P, d, e, hd, he, nd, ne, hn, q⟩)
theorem q_eqK {P : Addr → Prop} {a b : Addr} {vk vl : List (Key × V)} {ks ls : List (Key × Tr)} (ha : Rd H a (.dK vk)) (hb : Rd H b (.dK vl)) (ta : Tk K H P vk ks) (tb : Tk K H P vl ls) (na : ∀ p ∈ ks, nod p.2 = true ∧ dep p.2 ≤ 60) (nb : ∀ p ∈ ls, nod p.2 = true)
    (q : Q (.bl (eqk ks ls)) H) : rEqU K (.ref a) (.ref b) H Q := .inr (.inr ⟨P, a, b, vk, vl, ks, ls, rfl, rfl, ha, hb, ta, tb, na, nb, q⟩)
theorem q_neK {P : Addr → Prop} {a b : Addr} {vk vl : List (Key × V)} {ks ls : List (Key × Tr)} (ha : Rd H a (.dK vk)) (hb : Rd H b (.dK vl)) (ta : Tk K H P vk ks) (tb : Tk K H P vl ls) (na : ∀ p ∈ ks, nod p.2 = true ∧ dep p.2 ≤ 60) (nb : ∀ p ∈ ls, nod p.2 = true)
    (q : Q (.bl (!eqk ks ls)) H) : rNeU K (.ref a) (.ref b) H Q := .inr (.inr ⟨P, a, b, vk, vl, ks, ls, rfl, rfl, ha, hb, ta, tb, na, nb, q⟩)
theorem dget_rd {a : Addr} {kvs : List (Key × V)} {k : Key} (e : Rd H a (.dK kvs)) : DGet H a (kV k) (valV kvs k) := .inl ⟨kvs, k, e, rfl, rfl⟩
theorem q_inD {a : Addr} {kvs : List (Key × V)} (k : Key) (e : Rd H a (.dK kvs)) (q : Q (.bl (valV kvs k).isSome) H) : rInU false K (kV k) (.ref a) H Q := .inl ⟨a, _, rfl, dget_rd e, q⟩
theorem q_ninD {a : Addr} {kvs : List (Key × V)} (k : Key) (e : Rd H a (.dK kvs)) (q : Q (.bl (!(valV kvs k).isSome)) H) : rInU true K (kV k) (.ref a) H Q := .inl ⟨a, _, rfl, dget_rd e, q⟩
theorem q_ixL {p : Addr} {xs : List V} {i : Int} (h : SqL K H p xs) (hi : atI xs i = some v) (q : Q v H) : rIxU K (.ref p) (.int i) H Q := .inl ⟨p, xs, i, v, rfl, rfl, h, hi, q⟩
theorem q_ixT {p : Addr} {xs : List V} {i : Int} (h : SqT K H p xs) (hi : atI xs i = some v) (q : Q v H) : rIxU K (.ref p) (.int i) H Q := .inr (.inl ⟨p, xs, i, v, rfl, rfl, h, hi, q⟩)
theorem q_ixK {a : Addr} {kvs : List (Key × V)} (k : Key) (e : Rd H a (.dK kvs)) (hv : valV kvs k = some v) (q : Q v H) : rIxU K (.ref a) (kV k) H Q := .inr (.inr (.inr ⟨a, v, rfl, by
  have g := dget_rd (k := k) e
  rw [hv] at g
  exact g, q⟩))
theorem q_setL {p : Addr} {xs : List V} {i : Int} {j : Nat} {R : Hp → Prop} (h : H p = some (.lst xs)) (hi : ixN xs.length i = some j) (q : R (upd H p (.lst (xs.set j v)))) : rSetU (.ref p) (.int i) v H R := .inl ⟨p, xs, i, j, rfl, rfl, h, hi, q⟩
theorem q_setD {a : Addr} {kvs : List (Key × V)} {R : Hp → Prop} (k : Key) (e : H a = some (.dK kvs)) (hl : kvs.length < sizeLine) (q : R (upd H a (.dK (putK kvs k v)))) : rSetU (.ref a) (kV k) v H R := .inr ⟨a, _, rfl, DPut.k e hl, q⟩
theorem q_lenL {p : Addr} {ys : List V} (h : SqL K H p ys) (q : Q (.int ys.length) H) : rLenU K [.ref p] H Q := .inl ⟨p, ys, rfl, .inl h, q⟩
theorem q_lenT {p : Addr} {ys : List V} (h : SqT K H p ys) (q : Q (.int ys.length) H) : rLenU K [.ref p] H Q := .inl ⟨p, ys, rfl, .inr h, q⟩
theorem q_lenK {p : Addr} {kvs : List (Key × V)} (h : Rd H p (.dK kvs)) (q : Q (.int kvs.length) H) : rLenU K [.ref p] H Q := .inr (.inr ⟨p, kvs, rfl, h, q⟩)
theorem q_listL {p : Addr} {ys : List V} (h : SqL K H p ys) (q : ∀ l, H l = none → Q (.ref l) (upd H l (.lst ys))) : rListU K [.ref p] H Q := .inl ⟨p, ys, rfl, .inl h, q⟩
theorem q_listT {p : Addr} {ys : List V} (h : SqT K H p ys) (q : ∀ l, H l = none → Q (.ref l) (upd H l (.lst ys))) : rListU K [.ref p] H Q := .inl ⟨p, ys, rfl, .inr h, q⟩
theorem q_listK {p : Addr} {kvs : List (Key × V)} (h : Rd H p (.dK kvs)) (q : ∀ l, H l = none → Q (.ref l) (upd H l (.lst (kvs.map fun kv => kV kv.1)))) : rListU K [.ref p] H Q := .inr ⟨p, kvs, rfl, h, q⟩
theorem q_append {l : Addr} {xs : List V} {y : V} (h : H l = some (.lst xs)) (hl : xs.length < sizeLine) (q : Q .non (upd H l (.lst (xs ++ [y])))) : rAppend (.ref l) [y] H Q := ⟨l, xs, y, rfl, rfl, h, hl, q⟩
theorem tyL {p : Addr} {xs : List V} {R : Prop} (h : H p = some (.lst xs)) (r : R) : tyV K "list" (.ref p) H ∧ R := ⟨.inl ⟨rfl, xs, .inl (.inl h)⟩, r⟩
theorem q_sl {r : V → Option Int → Option Int → Hp → VK → Prop} {tl th : TO} (h : te σ H fun x H1 => tl σ H1 fun l H2 => th σ H2 fun u H3 => r x l u H3 Q) : tSl r te tl th σ H Q := h
theorem q_part {R : Option Int → Hp → Prop} (h : te σ H fun x H1 => ∃ i, x = .int i ∧ R (some i) H1) : tPart te σ H R := h
theorem q_nopart {R : Option Int → Hp → Prop} (h : R none H) : tNoPart σ H R := h
theorem q_int {a : Int} {R : Int → Prop} (h : R a) : ∃ i, V.int a = V.int i ∧ R i := ⟨a, rfl, h⟩
theorem q_slL {p : Addr} {xs : List V} {lo hi : Option Int} (h : SqL K H p xs) (q : ∀ l, H l = none → Q (.ref l) (upd H l (.lst (cutV xs lo hi)))) : rSlU K (.ref p) lo hi H Q := .inl ⟨p, xs, rfl, h, q⟩
/-! loops -/
def forB (J : It) (g : TG) (tb : TS) (D : Ends) (σ : L2.St) (H : Hp) : Prop := ∃ W : Nat → Nat → L2.St → Hp → Prop, (∃ m, W 0 m σ H) ∧ ∀ i m σ H, W i m σ H →
      (J.stop i H ∧ D.nx σ H) ∨ (J.go i H ∧ ∃ N : L2.St → Hp → Prop, (∀ σ' H', N σ' H' → ∃ m', m' < m ∧ W (i + 1) m' σ' H') ∧ ∀ x H', J.yld i H x H' → g x σ H' fun σ2 H2 => tb { D with nx := N, ct := N, bk := D.nx } σ2 H2)
theorem q_for {wi : TI} {tb : TS} (h : wi σ H fun J H1 => forB J g tb D σ H1) : tFor wi g tb D σ H := h
theorem q_anyL {R : It → Hp → Prop} {a : Addr} {xs : List V} (h : te σ H fun x H1 => x = .ref a ∧ SqL K H1 a xs ∧ R (Itl K a) H1) (hm : ∀ Q Q' : VK, (∀ x H1, Q x H1 → Q' x H1) → te σ H Q → te σ H Q') : iAny K te σ H R :=
  .inl (hm _ _ (fun x H1 ⟨e, s, r⟩ => ⟨a, e, ⟨xs, s⟩, r⟩) h)
theorem q_iL {R : It → Hp → Prop} (h : te σ H fun x H1 => ∃ a, x = .ref a ∧ (∃ xs, SqL K H1 a xs) ∧ R (Itl K a) H1) : iAny K te σ H R := .inl h
theorem q_iT {R : It → Hp → Prop} (h : te σ H fun x H1 => ∃ a, x = .ref a ∧ (∃ xs, SqT K H1 a xs) ∧ R (Itt K a) H1) : iAny K te σ H R := .inr (.inl h)
theorem q_iK {R : It → Hp → Prop} (h : te σ H fun x H1 => ∃ d o kvs, x = .ref d ∧ H1 d = some (.frz o (.dK kvs)) ∧ R (Itk d o kvs) H1) (hm : ∀ Q Q' : VK, (∀ x H1, Q x H1 → Q' x H1) → te σ H Q → te σ H Q') : iAny K te σ H R :=
  .inr (.inr (hm _ _ (fun x H1 ⟨d, o, kvs, e, s, r⟩ => ⟨d, o, e, .inl ⟨kvs, s, r⟩⟩) h))
theorem for_any {J : It} {n : Nat} {G : Hp → Prop} {Y : Nat → Hp → V → Hp → Prop} {tb : TS} (w : Walk J n G Y) (Pv : Nat → L2.St → Hp → Prop) (h0 : Pv 0 σ H) (hG : ∀ i σ H, i ≤ n → Pv i σ H → G H)
    (hs : ∀ i x σ H H', i < n → Pv i σ H → Y i H x H' → g x σ H' fun σ2 H2 => tb { D with nx := Pv (i + 1), ct := Pv (i + 1), bk := D.nx } σ2 H2) (hd : ∀ σ H, Pv n σ H → D.nx σ H) : forB J g tb D σ H := for_it w Pv h0 hG hs hd
/-- over a list's items, the target in slot j -/
theorem for_lst {a : Addr} {xs : List V} {tb : TS} {j : Nat} (Pv : Nat → L2.St → Hp → Prop) (hx : ∀ i σ H, i ≤ xs.length → Pv i σ H → SqL K H a xs) (h0 : Pv 0 σ H)
    (hs : ∀ i x σ H, xs[i]? = some x → Pv i σ H → tb { D with nx := Pv (i + 1), ct := Pv (i + 1), bk := D.nx } (σ.set j (some x)) H) (hd : ∀ σ H, Pv xs.length σ H → D.nx σ H) (hs0 : SqL K H a xs) :
    ∃ b, V.ref a = V.ref b ∧ (∃ xs, SqL K H b xs) ∧ forB (Itl K b) (gName j) tb D σ H :=
  ⟨a, rfl, ⟨xs, hs0⟩, for_any walk_list Pv h0 hx (fun i x σ H H' _ p y => by
    obtain ⟨e, y⟩ := y
    subst e
    exact hs i x σ _ y p) hd⟩
/-- over a range's ints -/
theorem for_rng {lo : Int} {n : Nat} {tb : TS} {j : Nat} (Pv : Nat → L2.St → Hp → Prop) (h0 : Pv 0 σ H)
    (hs : ∀ (i : Nat) σ H, i < n → Pv i σ H → tb { D with nx := Pv (i + 1), ct := Pv (i + 1), bk := D.nx } (σ.set j (some (.int (lo + i)))) H) (hd : ∀ σ H, Pv n σ H → D.nx σ H) : forB (Itr lo n) (gName j) tb D σ H :=
  for_any walk_range Pv h0 (fun _ _ _ _ _ => trivial) (fun i x σ H H' hi p y => by
    obtain ⟨e, y⟩ := y
    subst e
    rw [y]
    exact hs i σ _ hi p) hd
/-- over a locked dict's keys -/
theorem for_keys {d : Addr} {o : Obj} {kvs : List (Key × V)} {tb : TS} {j : Nat} (Pv : Nat → L2.St → Hp → Prop) (hx : ∀ i σ H, i ≤ kvs.length → Pv i σ H → H d = some (.frz o (.dK kvs))) (h0 : Pv 0 σ H)
    (hs : ∀ i k v σ H, kvs[i]? = some (k, v) → Pv i σ H → tb { D with nx := Pv (i + 1), ct := Pv (i + 1), bk := D.nx } (σ.set j (some (kV k))) H) (hd : ∀ σ H, Pv kvs.length σ H → D.nx σ H) : forB (Itk d o kvs) (gName j) tb D σ H :=
  for_any walk_keys Pv h0 hx (fun i x σ H H' _ p y => by
    obtain ⟨e, k, v, y, z⟩ := y
    subst e
    rw [z]
    exact hs i k v σ _ y p) hd
end
end TU

set_option Elab.async false
set_option linter.all false
set_option maxRecDepth 100000
namespace TU
open PySem PySem.Spec PyProof.Rows L2

/-! ### own errors with fields -/
/-- __init__ of an error's class: the fields are the arguments -/
def spXI (C : Addr) (fs : List Str) : Sp := fun vs H Q _ => ∃ (a : Addr) (us : List V), vs = .ref a :: us ∧ us.length = fs.length ∧ H a = some (exo a C none) ∧
  ∀ (dx : Addr) (H' : Hp), H dx = none → dx ≠ a → (∀ b o, b ≠ a → H b = some o → H' b = some o) → H' a = some (exo a C (some dx)) → H' dx = some (exd dx (fs.zip us).reverse) → Q .non H'
/-- what is known of an error's class -/
structure Xc (P : Program) (w : World) (K : PySem.W.Frag) (mg : Str → Option Value) (base : Heap) (x : Str) (fs : List Str) (C : Addr) : Prop where
  T : OexC K C
  xf : XfC K C
  g : mg x = some (.ref C)
  no : ∀ f ∈ fs, PySem.W.findIn K (.ref C) f = some none
  te : PySem.W.exmOne K (.ref C) (.ref C) = some true
  ini : ∃ fI fd, PySem.W.findIn K (.ref C) "__init__" = some (some (.ref fI)) ∧ PySem.W.typeIn K (.ref fI) = some (.type "function") ∧ FnOk P w K mg base (L2.CX P w) 1 fI fd ("self" :: fs) (spXI C fs) ∧ Binds K fd ("self" :: fs) []
section
variable {P : Program} {w : World} {K : PySem.W.Frag} {mg : Str → Option Value} {base : Heap}
theorem ok_init1 {qual f1 : Str} {st : Stmt} {f C : Addr} {fd : FuncData} {p1 p2 p3 p4 : Pos} (F : Fun K "__init__" qual st f fd) (S : FnScope ["self", f1] ["self", f1] (defScope st)) (hb : defBody st = [.Assign [.Attribute (.Name "self" p1) f1 p2] (.Name f1 p3) p4])
    (T : OexC K C) (n1 : PySem.W.findIn K (.ref C) f1 = some none) (d1 : (f1 == ("__debug__" : Str)) = false) (d2 : (f1 == ("__classdict__" : Str)) = false) (v0 : Vis (defScope st) "self") (v1 : Vis (defScope st) f1) : FnOk P w K mg base (L2.CX P w) 1 f fd ["self", f1] (spXI C [f1]) := by
  refine F.okX S (fun vs H Q E h => ?_) (fun cdv A outer s H vs Q E hr h => ?_)
  · obtain ⟨a, us, rfl, hl, _⟩ := h
    simpa using hl
  · obtain ⟨a, us, rfl, hl, ha, k⟩ := h
    obtain ⟨y, rfl⟩ : ∃ y, us = [y] := List.length_eq_one_iff.mp hl
    rw [hb]
    refine ⟨_, pss_one (ps_ost (pv 0 (hv := v0)) (pv 1 (hv := v1) (hd := d1) (hcd := d2))), ?_⟩
    refine ⟨y, rfl, .ref a, rfl, a, C, rfl, T, n1, .inl ⟨ha, fun dx hn hne => ?_⟩⟩
    exact k dx _ hn hne (fun b o hb e => by rw [upd_ne hb, upd_ne (ne_of_none e hn)]; exact e) upd_same (by rw [upd_ne hne, upd_same]; rfl)
theorem ok_init2 {qual f1 f2 : Str} {st : Stmt} {f C : Addr} {fd : FuncData} {p1 p2 p3 p4 q1 q2 q3 q4 : Pos} (F : Fun K "__init__" qual st f fd) (S : FnScope ["self", f1, f2] ["self", f1, f2] (defScope st))
    (hb : defBody st = [.Assign [.Attribute (.Name "self" p1) f1 p2] (.Name f1 p3) p4, .Assign [.Attribute (.Name "self" q1) f2 q2] (.Name f2 q3) q4])
    (T : OexC K C) (n1 : PySem.W.findIn K (.ref C) f1 = some none) (n2 : PySem.W.findIn K (.ref C) f2 = some none) (d1 : (f1 == ("__debug__" : Str)) = false) (d2 : (f1 == ("__classdict__" : Str)) = false) (e1 : (f2 == ("__debug__" : Str)) = false) (e2 : (f2 == ("__classdict__" : Str)) = false)
    (v0 : Vis (defScope st) "self") (v1 : Vis (defScope st) f1) (v2 : Vis (defScope st) f2) : FnOk P w K mg base (L2.CX P w) 1 f fd ["self", f1, f2] (spXI C [f1, f2]) := by
  refine F.okX S (fun vs H Q E h => ?_) (fun cdv A outer s H vs Q E hr h => ?_)
  · obtain ⟨a, us, rfl, hl, _⟩ := h
    simpa using hl
  · obtain ⟨a, us, rfl, hl, ha, k⟩ := h
    obtain ⟨y, z, rfl⟩ : ∃ y z, us = [y, z] := by
      match us, hl with
      | [y, z], _ => exact ⟨y, z, rfl⟩
    rw [hb]
    refine ⟨_, pss_cons (ps_ost (pv 0 (hv := v0)) (pv 1 (hv := v1) (hd := d1) (hcd := d2))) (pss_one (ps_ost (pv 0 (hv := v0)) (pv 2 (hv := v2) (hd := e1) (hcd := e2)))), ?_⟩
    refine ⟨y, rfl, .ref a, rfl, a, C, rfl, T, n1, .inl ⟨ha, fun dx hn hne => ?_⟩⟩
    refine ⟨z, rfl, .ref a, rfl, a, C, rfl, T, n2, .inr ⟨dx, [(f1, y)], upd_same, by rw [upd_ne hne, upd_same], (by show 1 ≤ 900; decide), ?_⟩⟩
    exact k dx _ hn hne (fun b o hb e => by rw [upd_ne (ne_of_none e hn), upd_ne hb, upd_ne (ne_of_none e hn)]; exact e) (by rw [upd_ne (Ne.symm hne), upd_same]) (by rw [upd_same]; rfl)
end
section
variable {X : Cx} {C : Addr} {x : Str} {fs : List Str} {p pos : Pos} {e : Expr} {es : List Expr} {ta : TA}
/-- x(e, ..) is made, to be raised -/
theorem pmk_xc (T : Xc X.prog X.w X.K X.mg X.base x fs C) (hr : Room 2 X.A) (ha : PA X (e :: es) ta) (hg : Gl X x := by rfl)
    (hdb : (x == ("__debug__" : Str)) = false := by decide) (he : starEach (e :: es) X.env = (false, eval e X.env) :: starEach es X.env := by rfl) (hpl : (backTo pos (starEach es X.env)).any (·.1) = false := by rfl) :
    PMk X (.Call (.Name x p) (e :: es) [] pos) (tMkO C (spXI C fs) [] ta) := by
  obtain ⟨fI, fd, iC, tI, F1, hb⟩ := T.ini
  exact pmk_oex T.T iC tI F1 hr hb .nil (fun _ _ _ _ _ _ I h => passL _ _ _ _ _ _ I h) hg T.g ha hdb he hpl
/-- raise x(e, ..) -/
def tRz (C : Addr) (fs : List Str) (W : WX) (ta : TA) : TS := fun _ σ H => tMkO C (spXI C fs) [] ta σ H fun cls d H' => W cls d σ H'
theorem ps_rz {W : WX} {pos2 : Pos} (hc : X.calm = true) (T : Xc X.prog X.w X.K X.mg X.base x fs C) (hr : Room 2 X.A) (tk : Takes X W) (ha : PA X (e :: es) ta) (hg : Gl X x := by rfl)
    (hdb : (x == ("__debug__" : Str)) = false := by decide) (he : starEach (e :: es) X.env = (false, eval e X.env) :: starEach es X.env := by rfl) (hpl : (backTo pos (starEach es X.env)).any (·.1) = false := by rfl) :
    PS X (.Raise (some (.Call (.Name x p) (e :: es) [] pos)) none pos2) (tRz C fs W ta) := ps_raise hc tk (pmk_xc T hr ha hg hdb he hpl)
def mkB (C : Addr) (fs : List Str) (us : List V) (H1 : Hp) (Q : XK) : Prop := us.length ≤ 1000 ∧ ∀ a, H1 a = none → spXI C fs (.ref a :: (us ++ [])) (upd H1 a (exo a C none)) (fun v H2 => v = .non ∧ ∃ (d : Addr) (fs : List (Str × V)), H2 a = some (exo a C (some d)) ∧ H2 d = some (exd d fs) ∧ H1 d = none ∧ Q (.ref C) (some d) (upd (del H2 a) d (.xd fs))) (fun _ _ _ => False)
theorem q_rz {W : WX} {D : Ends} {σ : L2.St} {H : Hp} (h : ta σ H fun us H1 => mkB C fs us H1 fun cls d H' => W cls d σ H') : tRz C fs W ta D σ H := h
theorem q_mk {us : List V} {H1 : Hp} {Q : XK} (h1 : us.length = fs.length) (k : ∀ d H', Same H1 H' → H1 d = none → H' d = some (.xd (fs.zip us).reverse) → Q (.ref C) (some d) H') (h2 : fs.length ≤ 1000 := by decide) : mkB C fs us H1 Q := by
  refine ⟨by rw [h1]; exact h2, fun a na => ?_⟩
  refine ⟨a, us, by rw [List.append_nil], h1, upd_same, fun dx H' hn hne hk ha hd => ?_⟩
  rw [upd_ne hne] at hn
  refine ⟨rfl, dx, _, ha, hd, hn, ?_⟩
  refine k dx _ (fun b o e => ?_) hn upd_same
  have hba : b ≠ a := ne_of_none e na
  rw [upd_ne (ne_of_none e hn), del_ne hba]
  exact hk b o hba (by rw [upd_ne hba]; exact e)
end
end TU

set_option Elab.async false
set_option linter.all false
set_option maxRecDepth 100000
namespace TU
open PySem PySem.Spec PyProof.Rows L2

section
variable {K : PySem.W.Frag} {σ : L2.St} {H H1 : Hp} {Q : VK} {te tk tv : TE} {g : TG} {tt : TT} {sl : List Nat} {wi : TI} {J : It} {n : Nat} {G : Hp → Prop} {Y : Nat → Hp → V → Hp → Prop} {d : Addr}
/-- the turns of a dict comprehension -/
def dcB (J : It) (g : TG) (tt : TT) (tk tv : TE) (sl : List Nat) (σ : L2.St) (H1 : Hp) (d : Addr) (Q : VK) : Prop := ∃ W : Nat → Nat → Hp → Prop, (∃ m, W 0 m (upd H1 d (.dK []))) ∧ ∀ i m H, W i m H →
  (J.stop i H ∧ Q (.ref d) H) ∨ (J.go i H ∧ ∃ Nx : Hp → Prop, (∀ H', Nx H' → ∃ m', m' < m ∧ W (i + 1) m' H') ∧ ∀ x H', J.yld i H x H' → g x (wipe σ sl) H' fun σ2 H2 => wipe σ2 sl = wipe σ sl ∧ tt σ2 H2 fun b H3 =>
    if b = true then tk σ2 H3 fun y H4 => tv σ2 H4 fun z H5 => ∃ kvs k, y = kV k ∧ H5 d = some (.dK kvs) ∧ kvs.length < sizeLine ∧ Nx (upd H5 d (.dK (putK kvs k z))) else Nx H3)
theorem q_dc (h : wi σ H fun J H1 => ∀ d, H1 d = none → dcB J g tt tk tv sl σ H1 d Q) : tDc wi g tt tk tv sl σ H Q := h
theorem dc_any (w : Walk J n G Y) (Pv : Nat → Hp → Prop) (h0 : Pv 0 (upd H1 d (.dK []))) (hG : ∀ i H, i ≤ n → Pv i H → G H)
    (hs : ∀ i x H H', i < n → Pv i H → Y i H x H' → g x (wipe σ sl) H' fun σ2 H2 => wipe σ2 sl = wipe σ sl ∧ tt σ2 H2 fun b H3 =>
      if b = true then tk σ2 H3 fun y H4 => tv σ2 H4 fun z H5 => ∃ kvs k, y = kV k ∧ H5 d = some (.dK kvs) ∧ kvs.length < sizeLine ∧ Pv (i + 1) (upd H5 d (.dK (putK kvs k z))) else Pv (i + 1) H3) (hd : ∀ H, Pv n H → Q (.ref d) H) : dcB J g tt tk tv sl σ H1 d Q := by
  refine ⟨fun i m H => m + i = n ∧ Pv i H, ⟨n, Nat.add_zero n, h0⟩, fun i m H p => ?_⟩
  obtain ⟨e, p⟩ := p
  have hi : i ≤ n := by omega
  have q := hG i H hi p
  rcases Nat.lt_or_ge i n with lt | ge
  · exact .inr ⟨w.goes i H lt q, Pv (i + 1), fun H' p' => ⟨m - 1, by omega, by omega, p'⟩, fun x H' y => hs i x H H' lt p (w.yields i H x H' lt q y)⟩
  · obtain rfl : i = n := Nat.le_antisymm hi ge
    exact .inl ⟨w.stops H q, hd H p⟩
/-- the turns of a list comprehension -/
def lcB (J : It) (g : TG) (tt : TT) (te : TE) (sl : List Nat) (σ : L2.St) (H1 : Hp) (d : Addr) (Q : VK) : Prop := ∃ W : Nat → Nat → Hp → Prop, (∃ m, W 0 m (upd H1 d (.lst []))) ∧ ∀ i m H, W i m H →
  (J.stop i H ∧ Q (.ref d) H) ∨ (J.go i H ∧ ∃ Nx : Hp → Prop, (∀ H', Nx H' → ∃ m', m' < m ∧ W (i + 1) m' H') ∧ ∀ x H', J.yld i H x H' → g x (wipe σ sl) H' fun σ2 H2 => wipe σ2 sl = wipe σ sl ∧ tt σ2 H2 fun b H3 =>
    if b = true then te σ2 H3 fun y H4 => ∃ acc, H4 d = some (.lst acc) ∧ acc.length < sizeLine ∧ Nx (upd H4 d (.lst (acc ++ [y]))) else Nx H3)
theorem q_lc (h : wi σ H fun J H1 => ∀ d, H1 d = none → lcB J g tt te sl σ H1 d Q) : tLc wi g tt te sl σ H Q := h
theorem lc_any (w : Walk J n G Y) (Pv : Nat → Hp → Prop) (h0 : Pv 0 (upd H1 d (.lst []))) (hG : ∀ i H, i ≤ n → Pv i H → G H)
    (hs : ∀ i x H H', i < n → Pv i H → Y i H x H' → g x (wipe σ sl) H' fun σ2 H2 => wipe σ2 sl = wipe σ sl ∧ tt σ2 H2 fun b H3 =>
      if b = true then te σ2 H3 fun y H4 => ∃ acc, H4 d = some (.lst acc) ∧ acc.length < sizeLine ∧ Pv (i + 1) (upd H4 d (.lst (acc ++ [y]))) else Pv (i + 1) H3) (hd : ∀ H, Pv n H → Q (.ref d) H) : lcB J g tt te sl σ H1 d Q := by
  refine ⟨fun i m H => m + i = n ∧ Pv i H, ⟨n, Nat.add_zero n, h0⟩, fun i m H p => ?_⟩
  obtain ⟨e, p⟩ := p
  have hi : i ≤ n := by omega
  have q := hG i H hi p
  rcases Nat.lt_or_ge i n with lt | ge
  · exact .inr ⟨w.goes i H lt q, Pv (i + 1), fun H' p' => ⟨m - 1, by omega, by omega, p'⟩, fun x H' y => hs i x H H' lt p (w.yields i H x H' lt q y)⟩
  · obtain rfl : i = n := Nat.le_antisymm hi ge
    exact .inl ⟨w.stops H q, hd H p⟩
theorem q_yes {R : Bool → Hp → Prop} (h : R true H) : tYes σ H R := h
end
end TU

set_option Elab.async false
set_option linter.all false
set_option maxRecDepth 100000
namespace TU
open PySem PySem.Spec PyProof.Rows L2

/-- no global hides a built-in -/
structure Bt (mg : Str → Option Value) : Prop where
  b_len : mg "len" = none
  b_abs : mg "abs" = none
  b_repr : mg "repr" = none
  b_isinstance : mg "isinstance" = none
  b_sorted : mg "sorted" = none
  b_all : mg "all" = none
  b_any : mg "any" = none
  b_sum : mg "sum" = none
  b_max : mg "max" = none
  b_min : mg "min" = none
  b_range : mg "range" = none
  b_enumerate : mg "enumerate" = none
  b_zip : mg "zip" = none
  b_reversed : mg "reversed" = none
  b_int : mg "int" = none
  b_bool : mg "bool" = none
  b_str : mg "str" = none
  b_list : mg "list" = none
  b_dict : mg "dict" = none
  b_tuple : mg "tuple" = none
  b_set : mg "set" = none

section
variable {X : Cx} {e : Expr} {te : TE}
/-- a value as a test -/
def tTr (K : PySem.W.Frag) (te : TE) : TT := fun σ H Q => te σ H fun x H' => ∃ k, TruV K x H' k ∧ Q k H'
theorem pt_tr (h : PE X e te) (he : ∀ whole, isTrue e X.env whole = (do let v ← whole; standAt e.pos; holding [v] (truthy v)) := by intro _; rfl) : PT X e (tTr X.K te) := pt_truth h he
theorem q_tr {K : PySem.W.Frag} {σ : L2.St} {H : Hp} {R : Bool → Hp → Prop} (h : te σ H fun x H' => ∃ k, TruV K x H' k ∧ R k H') : tTr K te σ H R := h
theorem q_trB {K : PySem.W.Frag} {H : Hp} {b : Bool} {R : Bool → Prop} (h : R b) : ∃ k, TruV K (.bl b) H k ∧ R k := ⟨b, rfl, h⟩
theorem q_trI {K : PySem.W.Frag} {H : Hp} {i : Int} {R : Bool → Prop} (h : R (i != 0)) : ∃ k, TruV K (.int i) H k ∧ R k := ⟨_, rfl, h⟩
theorem q_trL {K : PySem.W.Frag} {H : Hp} {a : Addr} {xs : List V} {R : Bool → Prop} (hs : SqL K H a xs) (h : R (!xs.isEmpty)) : ∃ k, TruV K (.ref a) H k ∧ R k := ⟨_, .inl ⟨xs, hs, rfl⟩, h⟩
theorem q_trT {K : PySem.W.Frag} {H : Hp} {a : Addr} {xs : List V} {R : Bool → Prop} (hs : SqT K H a xs) (h : R (!xs.isEmpty)) : ∃ k, TruV K (.ref a) H k ∧ R k := ⟨_, .inr (.inl ⟨xs, hs, rfl⟩), h⟩
end

/-! ### texts in order -/
def ltS (a b : Str) : Bool := ltCps a.cps.toList b.cps.toList
theorem ltS_iff {a b : Str} : ltS a b = true ↔ a.cps.toList < b.cps.toList := by
  unfold ltS
  rw [ltCps_eq]
  simp
theorem ltS_tri {a b : Str} (h1 : ltS a b = false) (h2 : ltS b a = false) : a = b := by
  have g1 : ¬ a.cps.toList < b.cps.toList := fun h => by
    rw [← ltS_iff, h1] at h
    cases h
  have g2 : ¬ b.cps.toList < a.cps.toList := fun h => by
    rw [← ltS_iff, h2] at h
    cases h
  have e : a.cps.toList = b.cps.toList := List.le_antisymm (List.not_lt.mp g2) (List.not_lt.mp g1)
  obtain ⟨⟨l⟩⟩ := a
  obtain ⟨⟨m⟩⟩ := b
  simp at e
  rw [e]
theorem ltS_irr (a : Str) : ltS a a = false := by
  cases h : ltS a a with
  | false => rfl
  | true => exact absurd (ltS_iff.mp h) (List.lt_irrefl _)
theorem ltS_trans {a b c : Str} (h1 : ltS a b = true) (h2 : ltS b c = true) : ltS a c = true := ltS_iff.mpr (List.lt_trans (ltS_iff.mp h1) (ltS_iff.mp h2))
theorem ltS_asymm {a b : Str} (h : ltS a b = true) : ltS b a = false := by
  cases q : ltS b a with
  | false => rfl
  | true =>
    have := ltS_trans h q
    rw [ltS_irr] at this
    cases this
def insS (x : Str) : List Str → List Str
  | [] => [x]
  | y :: r => if ltS y x = true then y :: insS x r else x :: y :: r
def srt : List Str → List Str
  | [] => []
  | x :: r => insS x (srt r)
abbrev Asc (l : List Str) : Prop := l.Pairwise (fun a b => ltS b a = false)
theorem insS_perm (x : Str) : ∀ l, (insS x l).Perm (x :: l)
  | [] => .refl _
  | y :: r => by
    unfold insS
    by_cases h : ltS y x = true
    · rw [if_pos h]
      exact ((insS_perm x r).cons y).trans (.swap ..)
    · rw [if_neg h]
theorem srt_perm : ∀ l, (srt l).Perm l
  | [] => .refl _
  | x :: r => (insS_perm x _).trans ((srt_perm r).cons x)
theorem le_trans' {a b c : Str} (h1 : ltS b a = false) (h2 : ltS c b = false) : ltS c a = false := by
  cases q : ltS c a with
  | false => rfl
  | true =>
    cases q1 : ltS a b with
    | true =>
      have := ltS_trans q q1
      rw [h2] at this
      cases this
    | false =>
      have e := ltS_tri h1 q1
      rw [← e, h2] at q
      cases q
theorem insS_asc (x : Str) : ∀ l, Asc l → Asc (insS x l)
  | [], _ => List.pairwise_singleton _ _
  | y :: r, h => by
    unfold insS
    have h1 := List.pairwise_cons.mp h
    by_cases hl : ltS y x = true
    · rw [if_pos hl]
      refine List.pairwise_cons.mpr ⟨fun z hz => ?_, insS_asc x r h1.2⟩
      rcases List.mem_cons.mp ((insS_perm x r).mem_iff.mp hz) with e | hz
      · rw [e]
        exact ltS_asymm hl
      · exact h1.1 z hz
    · rw [if_neg hl]
      have hl' : ltS y x = false := by simpa using hl
      refine List.pairwise_cons.mpr ⟨fun z hz => ?_, h⟩
      rcases List.mem_cons.mp hz with e | hz
      · rw [e]
        exact hl'
      · exact le_trans' hl' (h1.1 z hz)
theorem srt_asc : ∀ l, Asc (srt l)
  | [] => .nil
  | x :: r => insS_asc x _ (srt_asc r)
theorem asc_unique : ∀ {l m : List Str}, l.Perm m → Asc l → Asc m → l = m
  | [], m, p, _, _ => (List.nil_perm.mp p).symm
  | x :: l, [], p, _, _ => absurd p.symm.nil_eq (by simp)
  | x :: l, y :: m, p, h1, h2 => by
    have a1 := List.pairwise_cons.mp h1
    have a2 := List.pairwise_cons.mp h2
    have e : x = y := by
      have m1 : x ∈ y :: m := p.mem_iff.mp List.mem_cons_self
      have m2 : y ∈ x :: l := p.mem_iff.mpr List.mem_cons_self
      rcases List.mem_cons.mp m1 with e | m1
      · exact e
      · rcases List.mem_cons.mp m2 with e | m2
        · exact e.symm
        · exact ltS_tri (a2.1 x m1) (a1.1 y m2)
    subst e
    rw [asc_unique ((List.perm_cons x).mp p) a1.2 a2.2]
theorem rising_asc : ∀ (l : List Str) (p : Str), risingS p l = true → Asc (p :: l)
  | [], p, _ => List.pairwise_singleton _ _
  | x :: r, p, h => by
    have h' : (!ltCps x.cps.toList p.cps.toList && risingS x r) = true := h
    rw [Bool.and_eq_true] at h'
    have ih := rising_asc r x h'.2
    have hx : ltS x p = false := by
      have := h'.1
      unfold ltS
      simpa using this
    refine List.pairwise_cons.mpr ⟨fun z hz => ?_, ih⟩
    rcases List.mem_cons.mp hz with e | hz
    · rw [e]
      exact hx
    · exact le_trans' hx ((List.pairwise_cons.mp ih).1 z hz)
theorem sorted_asc {l : List Str} (h : sortedS l = true) : Asc l := by
  cases l with
  | nil => exact .nil
  | cons x r => exact rising_asc r x h
theorem sorted_is {l m : List Str} (p : l.Perm m) (h : sortedS l = true) : l = srt m := asc_unique (p.trans (srt_perm m).symm) (sorted_asc h) (srt_asc m)
theorem srt_of_asc {l : List Str} (h : Asc l) : srt l = l := asc_unique (srt_perm l) (srt_asc l) h
theorem srt_congr {l m : List Str} (p : l.Perm m) : srt l = srt m := asc_unique ((srt_perm l).trans (p.trans (srt_perm m).symm)) (srt_asc l) (srt_asc m)
theorem srt_srt (l : List Str) : srt (srt l) = srt l := srt_of_asc (srt_asc l)

/-- sorted(c): a dict with text keys, a list of texts, a list of ints -/
def rSortU (K : PySem.W.Frag) : List V → Hp → VK → Prop := fun xs H Q =>
  (∃ (a : Addr) (kvs : List (Key × V)) (ks : List Str), xs = [.ref a] ∧ Rd H a (.dK kvs) ∧ kvs.map (·.1) = ks.map Sum.inr ∧ ks.length < 64 ∧ ∀ ys p, ys.Perm ks → sortedS ys = true → H p = none → Q (.ref p) (upd H p (.lst (ys.map V.str)))) ∨
  rSortedS K xs H Q ∨ rSortedI K xs H Q
theorem call_sortU {X : Cx} (hc : X.calm = true) : CallR X (.builtin "sorted") (rSortU X.K) := (call_sortedD hc).or (cr_sortedS.or cr_sortedI)
theorem q_sortD {K : PySem.W.Frag} {H : Hp} {Q : VK} {a : Addr} {kvs : List (Key × V)} {ks : List Str} (h : Rd H a (.dK kvs)) (e : kvs.map (·.1) = ks.map Sum.inr) (hl : ks.length < 64) (q : ∀ p, H p = none → Q (.ref p) (upd H p (.lst ((srt ks).map V.str)))) :
    rSortU K [.ref a] H Q := .inl ⟨a, kvs, ks, rfl, h, e, hl, fun ys p pm so hp => by
  rw [sorted_is pm so]
  exact q p hp⟩
theorem q_sortS {K : PySem.W.Frag} {H : Hp} {Q : VK} {a : Addr} {ks : List Str} (h : SqL K H a (ks.map V.str)) (hl : ks.length < 64) (q : ∀ p, H p = none → Q (.ref p) (upd H p (.lst ((srt ks).map V.str)))) :
    rSortU K [.ref a] H Q := .inr (.inl ⟨a, ks, rfl, h, hl, fun ys p pm so hp => by
  rw [sorted_is pm so]
  exact q p hp⟩)
end TU

set_option Elab.async false
set_option linter.all false
set_option maxRecDepth 100000
namespace TU
open PySem PySem.Spec PyProof.Rows L2

/-! ### lists of pairs with text keys -/
section
variable {β γ : Type}
def lk : List (Str × β) → Str → Option β
  | [], _ => none
  | p :: r, k => if p.1 = k then some p.2 else lk r k
def put : List (Str × β) → Str → β → List (Str × β)
  | [], k, v => [(k, v)]
  | p :: r, k, v => if p.1 = k then (p.1, v) :: r else p :: put r k v
def del : List (Str × β) → Str → List (Str × β)
  | [], _ => []
  | p :: r, k => if p.1 = k then r else p :: del r k
def nms (l : List (Str × β)) : List Str := l.map (·.1)
theorem nms_nil : nms ([] : List (Str × β)) = [] := rfl
theorem nms_cons (p : Str × β) (r : List (Str × β)) : nms (p :: r) = p.1 :: nms r := rfl
theorem nms_len (l : List (Str × β)) : (nms l).length = l.length := List.length_map _
theorem nd_cons {p : Str × β} {r : List (Str × β)} (h : (nms (p :: r)).Nodup) : p.1 ∉ nms r ∧ (nms r).Nodup := List.nodup_cons.mp h
theorem mem_nms {p : Str × β} {l : List (Str × β)} (h : p ∈ l) : p.1 ∈ nms l := List.mem_map.mpr ⟨p, h, rfl⟩
theorem lk_cons (p : Str × β) (r : List (Str × β)) (k : Str) : lk (p :: r) k = if p.1 = k then some p.2 else lk r k := rfl
theorem lk_none {l : List (Str × β)} {k : Str} : lk l k = none ↔ k ∉ nms l := by
  induction l with
  | nil => simp [lk, nms_nil]
  | cons p r ih =>
    rw [lk_cons, nms_cons]
    by_cases e : p.1 = k
    · rw [if_pos e]
      simp [e]
    · rw [if_neg e, ih]
      have e' : ¬ k = p.1 := fun z => e z.symm
      simp [e']
theorem lk_mem {l : List (Str × β)} {k : Str} {v : β} (h : lk l k = some v) : (k, v) ∈ l := by
  induction l with
  | nil => cases h
  | cons p r ih =>
    unfold lk at h
    by_cases e : p.1 = k
    · rw [if_pos e] at h
      cases h
      subst e
      exact List.mem_cons_self
    · rw [if_neg e] at h
      exact List.mem_cons_of_mem _ (ih h)
theorem lk_of_mem {l : List (Str × β)} (nd : (nms l).Nodup) {k : Str} {v : β} (h : (k, v) ∈ l) : lk l k = some v := by
  induction l with
  | nil => cases h
  | cons p r ih =>
    have nd' := nd_cons nd
    unfold lk
    rcases List.mem_cons.mp h with e | h
    · rw [← e, if_pos rfl]
    · have hk : k ∈ nms r := mem_nms h
      have e : ¬ p.1 = k := fun z => nd'.1 (by rw [z]; exact hk)
      rw [if_neg e]
      exact ih nd'.2 h
theorem lk_put (l : List (Str × β)) (k : Str) (v : β) (x : Str) : lk (put l k v) x = if x = k then some v else lk l x := by
  induction l with
  | nil =>
    by_cases e : k = x
    · simp [put, lk, e]
    · have e' : ¬ x = k := fun z => e z.symm
      simp [put, lk, e, e']
  | cons p r ih =>
    unfold put
    by_cases e : p.1 = k
    · rw [if_pos e]
      by_cases ex : x = k
      · simp [lk, e, ex]
      · have e2 : ¬ p.1 = x := fun z => ex (by rw [← z, e])
        simp [lk, e2, ex]
    · rw [if_neg e]
      by_cases ex : p.1 = x
      · have e2 : ¬ x = k := fun z => e (by rw [ex, z])
        simp [lk, ex, e2]
      · simp only [lk, if_neg ex]
        exact ih
theorem lk_del {l : List (Str × β)} (nd : (nms l).Nodup) (k x : Str) : lk (del l k) x = if x = k then none else lk l x := by
  induction l with
  | nil => simp [del, lk]
  | cons p r ih =>
    have nd' := nd_cons nd
    unfold del
    by_cases e : p.1 = k
    · rw [if_pos e]
      by_cases ex : x = k
      · rw [if_pos ex, lk_none, ex, ← e]
        exact nd'.1
      · have e2 : ¬ p.1 = x := fun z => ex (by rw [← z, e])
        rw [if_neg ex]
        simp only [lk, if_neg e2]
    · rw [if_neg e]
      by_cases ex : p.1 = x
      · have e2 : ¬ x = k := fun z => e (by rw [ex, z])
        simp [lk, ex, e2]
      · simp only [lk, if_neg ex]
        exact ih nd'.2
theorem nms_put (l : List (Str × β)) (k : Str) (v : β) : nms (put l k v) = if k ∈ nms l then nms l else nms l ++ [k] := by
  induction l with
  | nil => simp [put, nms_nil, nms_cons]
  | cons p r ih =>
    unfold put
    by_cases e : p.1 = k
    · simp [e, nms_cons]
    · have e' : ¬ k = p.1 := fun z => e z.symm
      rw [if_neg e]
      simp only [nms_cons, List.mem_cons]
      rw [ih]
      by_cases m : k ∈ nms r
      · rw [if_pos m, if_pos (.inr m)]
      · rw [if_neg m, if_neg (by simp [e', m])]
        rfl
theorem nms_del (l : List (Str × β)) (k : Str) : nms (del l k) = (nms l).erase k := by
  induction l with
  | nil => rfl
  | cons p r ih =>
    unfold del
    by_cases e : p.1 = k
    · rw [if_pos e, nms_cons, e, List.erase_cons_head]
    · rw [if_neg e, nms_cons, nms_cons, List.erase_cons_tail (by simpa using e)]
      rw [ih]
theorem nd_put {l : List (Str × β)} (nd : (nms l).Nodup) (k : Str) (v : β) : (nms (put l k v)).Nodup := by
  rw [nms_put]
  by_cases m : k ∈ nms l
  · rw [if_pos m]
    exact nd
  · rw [if_neg m]
    exact List.nodup_append.mpr ⟨nd, by simp, fun a ha b hb e => m (by
      rw [List.mem_singleton] at hb
      rw [← hb, ← e]
      exact ha)⟩
theorem nd_del {l : List (Str × β)} (nd : (nms l).Nodup) (k : Str) : (nms (del l k)).Nodup := by
  rw [nms_del]
  exact nd.erase k
theorem len_put_le (l : List (Str × β)) (k : Str) (v : β) : (put l k v).length ≤ l.length + 1 := by
  induction l with
  | nil => exact Nat.le_refl _
  | cons p r ih =>
    unfold put
    by_cases e : p.1 = k
    · rw [if_pos e]
      exact Nat.le_succ _
    · rw [if_neg e, List.length_cons, List.length_cons]
      omega
theorem len_del_le (l : List (Str × β)) (k : Str) : (del l k).length ≤ l.length := by
  induction l with
  | nil => exact Nat.le_refl _
  | cons p r ih =>
    unfold del
    by_cases e : p.1 = k
    · rw [if_pos e]
      exact Nat.le_succ _
    · rw [if_neg e, List.length_cons, List.length_cons]
      omega
/-- in the order of the names -/
def ord [Inhabited β] (l : List (Str × β)) : List (Str × β) := (srt (nms l)).map fun n => (n, (lk l n).getD default)
theorem nms_ord [Inhabited β] (l : List (Str × β)) : nms (ord l) = srt (nms l) := by
  unfold ord
  unfold nms
  rw [List.map_map]
  exact (List.map_congr_left fun _ _ => rfl).trans (List.map_id _)
theorem nd_ord [Inhabited β] {l : List (Str × β)} (nd : (nms l).Nodup) : (nms (ord l)).Nodup := by
  rw [nms_ord]
  exact (srt_perm _).nodup_iff.mpr nd
theorem lk_map [Inhabited β] (l : List (Str × β)) : ∀ (ns : List Str) (x : Str), lk (ns.map fun n => (n, (lk l n).getD default)) x = if x ∈ ns then some ((lk l x).getD default) else none
  | [], x => by simp [lk]
  | n :: ns, x => by
    rw [List.map_cons, lk_cons]
    by_cases e : n = x
    · subst e
      rw [if_pos rfl, if_pos List.mem_cons_self]
    · have e' : ¬ x = n := fun z => e z.symm
      rw [if_neg e, lk_map l ns x]
      simp [e']
theorem lk_ord [Inhabited β] (l : List (Str × β)) (x : Str) : lk (ord l) x = lk l x := by
  unfold ord
  rw [lk_map]
  by_cases m : x ∈ nms l
  · rw [if_pos ((srt_perm _).mem_iff.mpr m)]
    cases e : lk l x with
    | none => exact absurd m (lk_none.mp e)
    | some v => rfl
  · rw [if_neg (fun z => m ((srt_perm _).mem_iff.mp z))]
    exact (lk_none.mpr m).symm
theorem len_ord [Inhabited β] (l : List (Str × β)) : (ord l).length = l.length := by
  unfold ord
  rw [List.length_map, (srt_perm _).length_eq, nms_len]
/-- two lists of pairs with the same names in the same order and the same look-ups are one -/
theorem ext_lk : ∀ {l m : List (Str × β)}, (nms l).Nodup → nms l = nms m → (∀ x, lk l x = lk m x) → l = m
  | [], [], _, _, _ => rfl
  | [], _ :: _, _, h, _ => nomatch h
  | _ :: _, [], _, h, _ => nomatch h
  | p :: l, q :: m, nd, h, e => by
    obtain ⟨a, b⟩ := p
    obtain ⟨c, d⟩ := q
    have h' : a = c ∧ nms l = nms m := by simpa [nms_cons] using h
    obtain ⟨rfl, h2⟩ := h'
    have nd' := nd_cons nd
    have e1 := e a
    simp [lk] at e1
    subst e1
    rw [ext_lk nd'.2 h2 fun x => ?_]
    by_cases ex : a = x
    · subst ex
      rw [lk_none.mpr nd'.1, lk_none.mpr (by rw [← h2]; exact nd'.1)]
    · have := e x
      simpa [lk, ex] using this
theorem ord_ext [Inhabited β] {l m : List (Str × β)} (nd : (nms l).Nodup) (p : (nms l).Perm (nms m)) (e : ∀ x, lk l x = lk m x) : ord l = ord m :=
  ext_lk (nd_ord nd) (by rw [nms_ord, nms_ord, srt_congr p]) fun x => by rw [lk_ord, lk_ord, e x]
theorem ord_ord [Inhabited β] {l : List (Str × β)} (nd : (nms l).Nodup) : ord (ord l) = ord l :=
  ext_lk (nd_ord (nd_ord nd)) (by rw [nms_ord, nms_ord, srt_srt]) fun x => by rw [lk_ord]
theorem ord_perm [Inhabited β] {l m : List (Str × β)} (n1 : (nms l).Nodup) (n2 : (nms m).Nodup) (e : ∀ x, lk l x = lk m x) : ord l = ord m := by
  refine ord_ext n1 ?_ e
  refine (List.perm_ext_iff_of_nodup n1 n2).mpr fun x => ?_
  have h1 := lk_none (l := l) (k := x)
  have h2 := lk_none (l := m) (k := x)
  rw [e x] at h1
  exact Decidable.not_iff_not.mp (h1.symm.trans h2)
end

/-! ### tables and houses -/
abbrev Tab := List (Str × Tr)
abbrev Hs := List (Str × Tab)
instance : Inhabited Tr := ⟨.non⟩
def tK (t : Tab) : List (Key × Tr) := t.map fun p => (Sum.inr p.1, p.2)
def hK (h : Hs) : List (Key × Tr) := h.map fun p => (Sum.inr p.1, Tr.dic (tK p.2))
theorem inr_eq {a b : Str} : ((Sum.inr a : Key) = Sum.inr b) ↔ a = b := ⟨fun h => Sum.inr.inj h, fun h => by rw [h]⟩
theorem get_tK (t : Tab) (k : Str) : getD (tK t) (.inr k) = lk t k := by
  induction t with
  | nil => rfl
  | cons p r ih =>
    show getD ((Sum.inr p.1, p.2) :: tK r) _ = _
    rw [getD_cons, lk_cons]
    by_cases e : p.1 = k
    · rw [if_pos (inr_eq.mpr e), if_pos e]
    · rw [if_neg (fun z => e (inr_eq.mp z)), if_neg e]
      exact ih
theorem get_hK (h : Hs) (k : Str) : getD (hK h) (.inr k) = (lk h k).map fun t => Tr.dic (tK t) := by
  induction h with
  | nil => rfl
  | cons p r ih =>
    show getD ((Sum.inr p.1, Tr.dic (tK p.2)) :: hK r) _ = _
    rw [getD_cons, lk_cons]
    by_cases e : p.1 = k
    · rw [if_pos (inr_eq.mpr e), if_pos e]
      rfl
    · rw [if_neg (fun z => e (inr_eq.mp z)), if_neg e]
      exact ih
theorem putD_new {l : List (Key × Tr)} {k : Key} {v : Tr} (h : k ∉ l.map (·.1)) : putD l k v = l ++ [(k, v)] := by
  unfold putD
  rw [if_neg]
  intro z
  rw [List.any_eq_true] at z
  obtain ⟨p, hp, e⟩ := z
  exact h (List.mem_map.mpr ⟨p, hp, by simpa using e⟩)
theorem putD_cons (p : Key × Tr) (r : List (Key × Tr)) (nd : p.1 ∉ r.map (·.1)) (k : Key) (v : Tr) : putD (p :: r) k v = if p.1 = k then (p.1, v) :: r else p :: putD r k v := by
  by_cases e : p.1 = k
  · rw [if_pos e]
    unfold putD
    rw [if_pos (by rw [List.any_cons]; simp [e]), List.map_cons, if_pos e]
    have : (r.map fun kv => if kv.1 = k then (kv.1, v) else kv) = r := by
      refine (List.map_congr_left fun q hq => ?_).trans (List.map_id _)
      have : ¬ q.1 = k := fun z => nd (by rw [e, ← z]; exact List.mem_map.mpr ⟨q, hq, rfl⟩)
      rw [if_neg this]
      rfl
    rw [this]
  · rw [if_neg e]
    unfold putD
    rw [List.any_cons, decide_eq_false e, Bool.false_or]
    by_cases a : (r.any fun kv => decide (kv.1 = k)) = true
    · rw [if_pos a, if_pos a, List.map_cons, if_neg e]
    · rw [if_neg a, if_neg a]
      rfl
theorem keys_tK (t : Tab) : (tK t).map (·.1) = (nms t).map Sum.inr := by
  unfold tK nms
  rw [List.map_map, List.map_map]
  rfl
theorem keys_hK (h : Hs) : (hK h).map (·.1) = (nms h).map Sum.inr := by
  unfold hK nms
  rw [List.map_map, List.map_map]
  rfl
theorem inr_mem {k : Str} {l : List Str} : (Sum.inr k : Key) ∈ l.map Sum.inr ↔ k ∈ l := by simp
theorem put_tK {t : Tab} (nd : (nms t).Nodup) (k : Str) (v : Tr) : putD (tK t) (.inr k) v = tK (put t k v) := by
  induction t with
  | nil => rfl
  | cons p r ih =>
    have nd' := nd_cons nd
    show putD ((Sum.inr p.1, p.2) :: tK r) _ _ = _
    rw [putD_cons _ _ (by rw [keys_tK]; exact fun z => nd'.1 (inr_mem.mp z))]
    unfold put
    by_cases e : p.1 = k
    · rw [if_pos (inr_eq.mpr e), if_pos e]
      rfl
    · rw [if_neg (fun z => e (inr_eq.mp z)), if_neg e, ih nd'.2]
      rfl
theorem del_tK {t : Tab} (nd : (nms t).Nodup) (k : Str) : delD (tK t) (.inr k) = tK (del t k) := by
  induction t with
  | nil => rfl
  | cons p r ih =>
    have nd' := nd_cons nd
    unfold delD del
    show List.filter _ ((Sum.inr p.1, p.2) :: tK r) = _
    rw [List.filter_cons]
    by_cases e : p.1 = k
    · have : ¬ (decide ((Sum.inr p.1 : Key) ≠ Sum.inr k)) = true := by simp [e]
      rw [if_neg this, if_pos e, List.filter_eq_self.mpr]
      intro q hq
      have hm : q.1 ∈ (tK r).map (·.1) := List.mem_map.mpr ⟨q, hq, rfl⟩
      rw [keys_tK] at hm
      simp only [decide_eq_true_eq]
      intro z
      rw [z] at hm
      exact nd'.1 (by rw [e]; exact inr_mem.mp hm)
    · have : (decide ((Sum.inr p.1 : Key) ≠ Sum.inr k)) = true := by simp [e]
      rw [if_pos this, if_neg e]
      have ih' := ih nd'.2
      unfold delD at ih'
      rw [ih']
      rfl
end TU

set_option Elab.async false
set_option linter.all false
set_option maxRecDepth 100000
namespace TU
open PySem PySem.Spec PyProof.Rows L2

mutual
/-- neither a list nor a dict within -/
def imm : Tr → Bool
  | .lst _ => false
  | .dic _ => false
  | .tup xs => imms xs
  | _ => true
def imms : List Tr → Bool
  | [] => true
  | x :: xs => imm x && imms xs
end
abbrev ff : Addr → Prop := fun _ => False
section
variable {K : PySem.W.Frag} {H H' : Hp} {P P' W N : Addr → Prop}
mutual
theorem T.imm : ∀ {v : V} {d : Tr}, TU.imm d = true → T K H P v d → T K H P' v d
  | _, _, _, .non => .non
  | _, _, _, .bl b => .bl b
  | _, _, _, .int i => .int i
  | _, _, _, .str x => .str x
  | _, _, h, .lst _ _ _ => by simp [TU.imm] at h
  | _, _, h, .tup s t => .tup s (Ts.imm (by simpa [TU.imm] using h) t)
  | _, _, h, .dic _ _ _ => by simp [TU.imm] at h
theorem Ts.imm : ∀ {v : List V} {d : List Tr}, TU.imms d = true → Ts K H P v d → Ts K H P' v d
  | _, _, _, .nil => .nil
  | _, _, h, .cons a b => by
    simp only [TU.imms, Bool.and_eq_true] at h
    exact .cons (T.imm h.1 a) (Ts.imm h.2 b)
end
mutual
theorem nod_of_imm : ∀ {d : Tr}, TU.imm d = true → nod d = true
  | .non, _ => rfl
  | .bl _, _ => rfl
  | .int _, _ => rfl
  | .str _, _ => rfl
  | .lst _, h => by simp [TU.imm] at h
  | .tup xs, h => by
    have h' : TU.imms xs = true := by simpa [TU.imm] using h
    simp only [nod]
    exact nods_of_imms h'
  | .dic _, h => by simp [TU.imm] at h
theorem nods_of_imms : ∀ {d : List Tr}, TU.imms d = true → nods d = true
  | [], _ => rfl
  | x :: xs, h => by
    have h' : TU.imm x = true ∧ TU.imms xs = true := by simpa [TU.imms] using h
    simp only [nods, nod_of_imm h'.1, nods_of_imms h'.2, Bool.and_self]
end
mutual
theorem nol_of_imm : ∀ {d : Tr}, TU.imm d = true → nol d = true
  | .non, _ => rfl
  | .bl _, _ => rfl
  | .int _, _ => rfl
  | .str _, _ => rfl
  | .lst _, h => by simp [TU.imm] at h
  | .tup xs, h => by
    have h' : TU.imms xs = true := by simpa [TU.imm] using h
    simp only [nol]
    exact nols_of_imms h'
  | .dic _, h => by simp [TU.imm] at h
theorem nols_of_imms : ∀ {d : List Tr}, TU.imms d = true → nols d = true
  | [], _ => rfl
  | x :: xs, h => by
    have h' : TU.imm x = true ∧ TU.imms xs = true := by simpa [TU.imms] using h
    simp only [nols, nol_of_imm h'.1, nols_of_imms h'.2, Bool.and_self]
end
def immT (t : Tab) : Prop := ∀ p ∈ t, imm p.2 = true
theorem Tk.imm : ∀ {es : List (Key × V)} {t : Tab}, immT t → Tk K H P es (tK t) → Tk K H P' es (tK t)
  | es, [], _, h => by
    cases h
    exact .nil
  | es, p :: t, hi, h => by
    have h' : Tk K H P es ((Sum.inr p.1, p.2) :: tK t) := h
    cases h' with
    | cons a b => exact .cons (a.imm (hi p List.mem_cons_self)) (Tk.imm (fun q hq => hi q (List.mem_cons_of_mem _ hq)) b)

/-- a table of a house that is read -/
theorem T.dicAt {v : V} {es : List (Key × Tr)} (h : T K H P v (.dic es)) : ∃ a kvs, v = .ref a ∧ P a ∧ Rd H a (.dK kvs) ∧ Tk K H P kvs es := by
  cases h with
  | dic p r t => exact ⟨_, _, rfl, p, r, t⟩
theorem T.tab {kvs : List (Key × V)} {h : Hs} {k : Str} {t : Tab} (tk : Tk K H P kvs (hK h)) (e : lk h k = some t) : ∃ q es, valV kvs (.inr k) = some (.ref q) ∧ P q ∧ Rd H q (.dK es) ∧ Tk K H P es (tK t) := by
  obtain ⟨v, h1, h2⟩ := tk.gets (k := .inr k) (d := .dic (tK t)) (by rw [get_hK, e]; rfl)
  obtain ⟨q, es, rfl, p, r, t⟩ := h2.dicAt
  exact ⟨q, es, h1, p, r, t⟩
theorem T.ntab {kvs : List (Key × V)} {h : Hs} {k : Str} (tk : Tk K H P kvs (hK h)) (e : lk h k = none) : valV kvs (.inr k) = none := tk.getn (by rw [get_hK, e]; rfl)
theorem Tk.ent {es : List (Key × V)} {t : Tab} {n : Str} {d : Tr} (tk : Tk K H P es (tK t)) (e : lk t n = some d) : ∃ v, valV es (.inr n) = some v ∧ T K H P v d := tk.gets (by rw [get_tK, e])
theorem Tk.nent {es : List (Key × V)} {t : Tab} {n : Str} (tk : Tk K H P es (tK t)) (e : lk t n = none) : valV es (.inr n) = none := tk.getn (by rw [get_tK, e])

/-! ### a house of one's own: its dicts stand apart and may be changed -/
inductive OT (K : PySem.W.Frag) (H : Hp) : Hs → List Addr → List (Key × V) → Prop
  | nil : OT K H [] [] []
  | cons {n : Str} {t : Tab} {h : Hs} {q : Addr} {qs : List Addr} {es : List (Key × V)} {kvs : List (Key × V)} : H q = some (.dK es) → Tk K H ff es (tK t) → OT K H h qs kvs → OT K H ((n, t) :: h) (q :: qs) ((.inr n, .ref q) :: kvs)
structure Own (K : PySem.W.Frag) (N : Addr → Prop) (H : Hp) (r : Addr) (h : Hs) : Prop where
  ex : ∃ qs kvs, H r = some (.dK kvs) ∧ OT K H h qs kvs ∧ (r :: qs).Nodup ∧ ∀ q ∈ r :: qs, N q
theorem OT.keep (k : Keeps W H H') (nt : ∀ a xs, W a → ¬ Rd H a (.tup xs)) : ∀ {h : Hs} {qs : List Addr} {kvs : List (Key × V)}, (∀ q ∈ qs, ¬ W q) → OT K H h qs kvs → OT K H' h qs kvs
  | _, _, _, _, .nil => .nil
  | _, _, _, hq, .cons e t r => .cons (k _ _ (hq _ List.mem_cons_self) e) (t.keep k nt fun _ z => z.elim) (OT.keep k nt (fun q m => hq q (List.mem_cons_of_mem _ m)) r)
theorem Own.keep {r : Addr} {h : Hs} (o : Own K N H r h) (k : Keeps W H H') (nt : ∀ a xs, W a → ¬ Rd H a (.tup xs)) (hN : ∀ a, N a → ¬ W a) : Own K N H' r h := by
  obtain ⟨qs, kvs, h1, h2, h3, h4⟩ := o.ex
  exact ⟨qs, kvs, k _ _ (hN r (h4 r List.mem_cons_self)) h1, h2.keep k nt fun q m => hN q (h4 q (List.mem_cons_of_mem _ m)), h3, h4⟩
theorem Own.mono {r : Addr} {h : Hs} (o : Own K N H r h) (s : Same H H') : Own K N H' r h := o.keep (W := ff) (.of_same s) (fun _ _ z => z.elim) fun _ _ z => z
theorem Own.imp {N' : Addr → Prop} {r : Addr} {h : Hs} (o : Own K N H r h) (i : ∀ a, N a → N' a) : Own K N' H r h := by
  obtain ⟨qs, kvs, h1, h2, h3, h4⟩ := o.ex
  exact ⟨qs, kvs, h1, h2, h3, fun q m => i q (h4 q m)⟩
theorem OT.tk : ∀ {h : Hs} {qs : List Addr} {kvs : List (Key × V)}, (∀ q ∈ qs, N q) → OT K H h qs kvs → Tk K H N kvs (hK h)
  | _, _, _, _, .nil => .nil
  | _, _, _, hq, .cons e t r => .cons (.dic (hq _ List.mem_cons_self) (.inl e) (t.imp fun _ z => z.elim)) (OT.tk (fun q m => hq q (List.mem_cons_of_mem _ m)) r)
theorem Own.T {r : Addr} {h : Hs} (o : Own K N H r h) : T K H N (.ref r) (.dic (hK h)) := by
  obtain ⟨qs, kvs, h1, h2, h3, h4⟩ := o.ex
  exact .dic (h4 r List.mem_cons_self) (.inl h1) (h2.tk fun q m => h4 q (List.mem_cons_of_mem _ m))
theorem OT.at : ∀ {h : Hs} {qs : List Addr} {kvs : List (Key × V)} {k : Str} {t : Tab}, OT K H h qs kvs → lk h k = some t → ∃ q es, valV kvs (.inr k) = some (.ref q) ∧ q ∈ qs ∧ H q = some (.dK es) ∧ Tk K H ff es (tK t)
  | _, _, _, _, _, .nil, e => nomatch e
  | _, _, _, k, t, .cons (n := n) (q := q) (es := es) e tk r, el => by
    rw [lk_cons] at el
    by_cases hk : n = k
    · rw [if_pos hk] at el
      cases el
      exact ⟨q, es, valV_pos (inr_eq.mpr hk), List.mem_cons_self, e, tk⟩
    · rw [if_neg hk] at el
      obtain ⟨q', es', h1, h2, h3, h4⟩ := OT.at r el
      exact ⟨q', es', by rw [valV_neg (p := (Sum.inr n, V.ref q)) (fun z => hk (inr_eq.mp z))]; exact h1, List.mem_cons_of_mem _ h2, h3, h4⟩
theorem no_tup {q : Addr} {es : List (Key × V)} (e : H q = some (.dK es)) : ∀ a xs, a = q → ¬ Rd H a (.tup xs) := nt_of e (fun _ z => nomatch z) fun _ _ z => nomatch z
theorem OT.set : ∀ {h : Hs} {qs : List Addr} {kvs : List (Key × V)} {k : Str} {t t' : Tab} {q : Addr} {es' : List (Key × V)}, OT K H h qs kvs → qs.Nodup → lk h k = some t → valV kvs (.inr k) = some (.ref q) → Tk K H ff es' (tK t') →
    OT K (upd H q (.dK es')) (put h k t') qs kvs
  | _, _, _, _, _, _, _, _, .nil, _, e, _, _ => nomatch e
  | _, _, _, k, t, t', q, es', .cons (n := n) (q := q0) (es := es) (qs := qs) e tk r, nd, el, ev, tk' => by
    have nd' := List.nodup_cons.mp nd
    rw [lk_cons] at el
    unfold put
    by_cases hk : n = k
    · rw [if_pos hk] at el ⊢
      rw [valV_pos (p := (Sum.inr n, V.ref q0)) (inr_eq.mpr hk)] at ev
      cases ev
      refine .cons upd_same (tk'.upd e (fun _ z => nomatch z) (fun _ _ z => nomatch z) fun _ z => z.elim) (r.keep keeps_upd (no_tup e) fun q m z => nd'.1 ?_)
      rw [← z]
      exact m
    · rw [if_neg hk] at el ⊢
      rw [valV_neg (p := (Sum.inr n, V.ref q0)) (fun z => hk (inr_eq.mp z))] at ev
      obtain ⟨q', es2, h1, h2, h3, h4⟩ := r.at el
      rw [ev] at h1
      cases h1
      have ne : q0 ≠ q := fun z => nd'.1 (by rw [z]; exact h2)
      exact .cons (by rw [upd_ne ne]; exact e) (tk.upd h3 (fun _ z => nomatch z) (fun _ _ z => nomatch z) fun _ z => z.elim) (OT.set r nd'.2 el ev tk')
/-- a table of it, and what stands when that is changed -/
theorem Own.at {r : Addr} {h : Hs} {k : Str} {t : Tab} (o : Own K N H r h) (e : lk h k = some t) : ∃ kvs q es, H r = some (.dK kvs) ∧ valV kvs (.inr k) = some (.ref q) ∧ H q = some (.dK es) ∧ Tk K H ff es (tK t) ∧ N q ∧ N r ∧ q ≠ r ∧
    ∀ es' t', Tk K H ff es' (tK t') → Own K N (upd H q (.dK es')) r (put h k t') := by
  obtain ⟨qs, kvs, h1, h2, h3, h4⟩ := o.ex
  have nd := List.nodup_cons.mp h3
  obtain ⟨q, es, g1, g2, g3, g4⟩ := h2.at e
  have ne : q ≠ r := fun z => nd.1 (by rw [← z]; exact g2)
  exact ⟨kvs, q, es, h1, g1, g3, g4, h4 q (List.mem_cons_of_mem _ g2), h4 r List.mem_cons_self, ne, fun es' t' tk' => ⟨qs, kvs, by rw [upd_ne (Ne.symm ne)]; exact h1, h2.set nd.2 e g1 tk', h3, h4⟩⟩
theorem OT.snoc {k : Str} {q : Addr} {t : Tab} {es : List (Key × V)} : ∀ {h : Hs} {qs : List Addr} {kvs : List (Key × V)}, OT K H h qs kvs → H q = some (.dK es) → Tk K H ff es (tK t) → OT K H (h ++ [(k, t)]) (qs ++ [q]) (kvs ++ [(.inr k, .ref q)])
  | _, _, _, .nil, e, x => .cons e x .nil
  | _, _, _, .cons a b c, e, x => .cons a b (OT.snoc c e x)
theorem OT.keys : ∀ {h : Hs} {qs : List Addr} {kvs : List (Key × V)}, OT K H h qs kvs → kvs.map (·.1) = (nms h).map Sum.inr
  | _, _, _, .nil => rfl
  | _, _, _, .cons a b c => by
    rw [List.map_cons, nms_cons, List.map_cons, OT.keys c]
theorem OT.len : ∀ {h : Hs} {qs : List Addr} {kvs : List (Key × V)}, OT K H h qs kvs → kvs.length = h.length
  | _, _, _, .nil => rfl
  | _, _, _, .cons a b c => congrArg Nat.succ (OT.len c)
theorem putK_fresh {kvs : List (Key × V)} {k : Key} {v : V} (h : k ∉ kvs.map (·.1)) : putK kvs k v = kvs ++ [(k, v)] := by
  unfold putK
  rw [if_neg]
  intro z
  rw [List.any_eq_true] at z
  obtain ⟨p, hp, e⟩ := z
  exact h (List.mem_map.mpr ⟨p, hp, by simpa using e⟩)
theorem OT.mem {q : Addr} : ∀ {h : Hs} {qs : List Addr} {kvs : List (Key × V)}, OT K H h qs kvs → q ∈ qs → H q ≠ none
  | _, _, _, .cons a b c, m => by
    rcases List.mem_cons.mp m with e | m
    · rw [e, a]
      exact fun z => nomatch z
    · exact OT.mem c m
/-- a new table, made since H1 -/
theorem Own.push {H1 : Hp} {r q : Addr} {h : Hs} {k : Str} {t : Tab} {es : List (Key × V)} (o : Own K N H1 r h) (nk : k ∉ nms h) (nq : H1 q = none) (hq : N q) (s : Same H1 H) (e : H q = some (.dK es)) (tk : Tk K H ff es (tK t)) :
    ∃ kvs, H r = some (.dK kvs) ∧ kvs.length = h.length ∧ Own K N (upd H r (.dK (putK kvs (.inr k) (.ref q)))) r (h ++ [(k, t)]) := by
  obtain ⟨qs, kvs, h1, h2, h3, h4⟩ := o.ex
  have nd := List.nodup_cons.mp h3
  have hr : r ≠ q := ne_of_none h1 nq
  have e2 := s _ _ h1
  have nq' : q ∉ qs := fun m => h2.mem m nq
  refine ⟨kvs, e2, h2.len, qs ++ [q], _, upd_same, ?_, ?_, fun a m => ?_⟩
  · rw [putK_fresh (by rw [h2.keys]; exact fun z => nk (inr_mem.mp z))]
    have h2' : OT K H h qs kvs := h2.keep (W := ff) (.of_same s) (fun _ _ z => z.elim) fun _ _ z => z
    refine (h2'.snoc (k := k) e tk).keep keeps_upd (no_tup e2) fun a m z => ?_
    rw [z] at m
    rcases List.mem_append.mp m with m | m
    · exact nd.1 m
    · exact hr (List.mem_singleton.mp m)
  · refine List.nodup_cons.mpr ⟨fun m => ?_, List.nodup_append.mpr ⟨nd.2, by simp, fun a ha b hb e => nq' (by
      rw [List.mem_singleton] at hb
      rw [← hb, ← e]
      exact ha)⟩⟩
    rcases List.mem_append.mp m with m | m
    · exact nd.1 m
    · exact hr (List.mem_singleton.mp m)
  · rcases List.mem_cons.mp m with e | m
    · rw [e]
      exact h4 r List.mem_cons_self
    · rcases List.mem_append.mp m with m | m
      · exact h4 a (List.mem_cons_of_mem _ m)
      · rw [List.mem_singleton.mp m]
        exact hq
theorem Own.nil {r : Addr} (e : H r = some (.dK [])) (n : N r) : Own K N H r [] := ⟨[], [], e, .nil, by simp, fun q m => by
  rw [List.mem_singleton.mp m]
  exact n⟩
end

/-! ### edits -/
inductive Ed where
  | put (key name : Str) (e : Tr)
  | drop (key name : Str)
def Ed.key : Ed → Str
  | .put k _ _ => k
  | .drop k _ => k
def Ed.name : Ed → Str
  | .put _ n _ => n
  | .drop _ n => n
def Ed.tr : Ed → Tr
  | .put k n e => .tup [.str "put", .str k, .str n, e]
  | .drop k n => .tup [.str "drop", .str k, .str n]
def Ed.Imm : Ed → Prop
  | .put _ _ e => imm e = true
  | .drop _ _ => True
/-- the house behind one edit, or the two words of the error -/
def app1 (h : Hs) (e : Ed) : Except (Str × Str) Hs :=
  match lk h e.key with
  | none => .error ("table", e.key)
  | some t => match e with
    | .put k n v => .ok (TU.put h k (TU.put t n v))
    | .drop k n => if n ∈ nms t then .ok (TU.put h k (TU.del t n)) else .error (k, n)
def eb {α β : Type} : Except (Str × Str) α → (α → Except (Str × Str) β) → Except (Str × Str) β
  | .ok a, f => f a
  | .error x, _ => .error x
def appAll : Hs → List Ed → Except (Str × Str) Hs
  | h, [] => .ok h
  | h, e :: es => eb (app1 h e) fun h' => appAll h' es
def cpH (h : Hs) : Hs := h.map fun p => (p.1, ord p.2)
/-- names stand once, entries hold no lists and no dicts -/
structure Wf (h : Hs) : Prop where
  nd : (nms h).Nodup
  tab : ∀ p ∈ h, (nms p.2).Nodup ∧ immT p.2
def Fits (n : Nat) (h : Hs) : Prop := ∀ p ∈ h, p.2.length ≤ n
end TU

set_option Elab.async false
set_option linter.all false
set_option maxRecDepth 100000
namespace TU
open PySem PySem.Spec PyProof.Rows L2
section
variable {K : PySem.W.Frag} {H H' : Hp} {P P' W N : Addr → Prop} {a : Addr} {xs : List V}
theorem Sm.sqT (s : Same H H') (h : SqT K H a xs) : SqT K H' a xs := sqT_keep (W := ff) (.of_same s) (fun _ _ z => z.elim) h
theorem Sm.sqL (s : Same H H') (h : SqL K H a xs) : SqL K H' a xs := sqL_keep (W := ff) (.of_same s) (fun z => z) h
theorem Sm.rd {u : HO} (s : Same H H') (h : Rd H a u) : Rd H' a u := rd_keep (W := ff) (.of_same s) (fun z => z) h
theorem Sm.at {u : HO} (s : Same H H') (h : H a = some u) : H' a = some u := s _ _ h
theorem T.tupAt {v : V} {ds : List Tr} (h : T K H P v (.tup ds)) : ∃ a xs, v = .ref a ∧ SqT K H a xs ∧ Ts K H P xs ds := by
  cases h with
  | tup s t => exact ⟨_, _, rfl, s, t⟩
theorem T.lstAt {v : V} {ds : List Tr} (h : T K H P v (.lst ds)) : ∃ a xs, v = .ref a ∧ P a ∧ SqL K H a xs ∧ Ts K H P xs ds := by
  cases h with
  | lst p s t => exact ⟨_, _, rfl, p, s, t⟩
theorem T.strAt {v : V} {x : Str} (h : T K H P v (.str x)) : v = .str x := by
  cases h
  rfl
theorem T.intAt {v : V} {x : Int} (h : T K H P v (.int x)) : v = .int x := by
  cases h
  rfl
theorem T.blAt {v : V} {x : Bool} (h : T K H P v (.bl x)) : v = .bl x := by
  cases h
  rfl
theorem T.nonAt {v : V} (h : T K H P v .non) : v = .non := by
  cases h
  rfl
theorem Ts.c {vs : List V} {d : Tr} {ds : List Tr} (h : Ts K H P vs (d :: ds)) : ∃ v us, vs = v :: us ∧ T K H P v d ∧ Ts K H P us ds := by
  cases h with
  | cons a b => exact ⟨_, _, rfl, a, b⟩
theorem Ts.n {vs : List V} (h : Ts K H P vs []) : vs = [] := by
  cases h
  rfl
/-- an edit, opened -/
theorem Ed.at {v : V} {e : Ed} (h : T K H P v e.tr) : ∃ b, v = .ref b ∧ match e with
    | .put k n x => ∃ y, SqT K H b [.str "put", .str k, .str n, y] ∧ T K H P y x
    | .drop k n => SqT K H b [.str "drop", .str k, .str n] := by
  cases e with
  | put k n x =>
    obtain ⟨b, xs, rfl, s, t⟩ := h.tupAt
    obtain ⟨v1, u1, rfl, t1, t⟩ := t.c
    obtain ⟨v2, u2, rfl, t2, t⟩ := t.c
    obtain ⟨v3, u3, rfl, t3, t⟩ := t.c
    obtain ⟨v4, u4, rfl, t4, t⟩ := t.c
    cases t.n
    cases t1.strAt
    cases t2.strAt
    cases t3.strAt
    exact ⟨b, rfl, v4, s, t4⟩
  | drop k n =>
    obtain ⟨b, xs, rfl, s, t⟩ := h.tupAt
    obtain ⟨v1, u1, rfl, t1, t⟩ := t.c
    obtain ⟨v2, u2, rfl, t2, t⟩ := t.c
    obtain ⟨v3, u3, rfl, t3, t⟩ := t.c
    cases t.n
    cases t1.strAt
    cases t2.strAt
    cases t3.strAt
    exact ⟨b, rfl, s⟩
theorem sq_new {p : Addr} {o : List V} : SqL K (upd H p (.lst o)) p o := .inl (.inl upd_same)
theorem st_new {p : Addr} {o : List V} : SqT K (upd H p (.tup o)) p o := .inl (.inl upd_same)
theorem q_ixT' {v : V} {i : Int} {Q : VK} (h : SqT K H a xs) (hi : atI xs i = some v) (q : Q v H) : rIxU K (.ref a) (.int i) H Q := q_ixT h hi q
theorem q_nf {A B : Prop} (h : A) : if (!false) = true then A else B := by
  rw [if_pos (by rfl)]
  exact h
theorem q_nt {A B : Prop} (h : B) : if (!true) = true then A else B := by
  rw [if_neg (by decide)]
  exact h
theorem Same.refl' : Same H H := Same.refl H
/-! ### what is read stays where a dict is locked -/
def RS (H H' : Hp) : Prop := ∀ b u, (∀ o v, u ≠ .frz o v) → Rd H b u → Rd H' b u
theorem RS.of (s : Same H H') : RS H H' := fun b u _ h => Sm.rd s h
theorem RS.refl (H : Hp) : RS H H := fun _ _ _ h => h
theorem RS.trans {H1 : Hp} (s : RS H H1) (t : RS H1 H') : RS H H' := fun b u n h => t b u n (s b u n h)
theorem RS.sqT (s : RS H H') (h : SqT K H a xs) : SqT K H' a xs := h.imp (s _ _ fun _ _ z => nomatch z) fun z => z
theorem RS.sqL (s : RS H H') (h : SqL K H a xs) : SqL K H' a xs := h.imp (s _ _ fun _ _ z => nomatch z) fun z => z
theorem RS.dk {kvs : List (Key × V)} (s : RS H H') (h : Rd H a (.dK kvs)) : Rd H' a (.dK kvs) := s _ _ (fun _ _ z => nomatch z) h
mutual
theorem T.rs (s : RS H H') : ∀ {v : V} {d : Tr}, T K H P v d → T K H' P v d
  | _, _, .non => .non
  | _, _, .bl b => .bl b
  | _, _, .int i => .int i
  | _, _, .str x => .str x
  | _, _, .lst p h t => .lst p (s.sqL h) (Ts.rs s t)
  | _, _, .tup h t => .tup (s.sqT h) (Ts.rs s t)
  | _, _, .dic p h t => .dic p (s.dk h) (Tk.rs s t)
theorem Ts.rs (s : RS H H') : ∀ {v : List V} {d : List Tr}, Ts K H P v d → Ts K H' P v d
  | _, _, .nil => .nil
  | _, _, .cons h t => .cons (T.rs s h) (Ts.rs s t)
theorem Tk.rs (s : RS H H') : ∀ {v : List (Key × V)} {d : List (Key × Tr)}, Tk K H P v d → Tk K H' P v d
  | _, _, .nil => .nil
  | _, _, .cons h t => .cons (T.rs s h) (Tk.rs s t)
end
/-- a dict is locked while it is walked, if it is not so already -/
structure Lkd (H Hl : Hp) (a : Addr) (kvs : List (Key × V)) (od : Obj) (un : Hp → Hp) : Prop where
  at_ : Hl a = some (.frz od (.dK kvs))
  el : ∀ b, b ≠ a → Hl b = H b
  back : ∀ H', H' a = some (.frz od (.dK kvs)) → un H' a = H a
  un : ∀ H' b, b ≠ a → un H' b = H' b
  rd : Rd H a (.dK kvs)
section
variable {Hl : Hp} {kvs : List (Key × V)} {od : Obj} {un : Hp → Hp}
theorem Lkd.rs (l : Lkd H Hl a kvs od un) : RS H Hl := fun b u n h => by
  by_cases e : b = a
  · subst e
    rcases l.rd with z | ⟨o, z⟩
    · rcases h with h | ⟨o', h⟩
      · rw [z] at h
        cases h
        exact .inr ⟨od, l.at_⟩
      · rw [z] at h
        cases h
    · rcases h with h | ⟨o', h⟩
      · rw [z] at h
        cases h
        exact absurd rfl (n _ _)
      · rw [z] at h
        cases h
        exact .inr ⟨od, l.at_⟩
  · have h' : Rd Hl b u := by
      unfold Rd
      rw [l.el b e]
      exact h
    exact h'
/-- what is new at the lock is new ahead of it, and the other way round -/
theorem Lkd.new (l : Lkd H Hl a kvs od un) {b : Addr} : Hl b = none ↔ H b = none := by
  by_cases e : b = a
  · subst e
    rw [l.at_]
    rcases l.rd with z | ⟨o, z⟩ <;> simp [z]
  · rw [l.el b e]
theorem Lkd.same (l : Lkd H Hl a kvs od un) (s : Same Hl H') : Same H (un H') := fun b o e => by
  by_cases h : b = a
  · subst h
    rw [l.back _ (s _ _ l.at_)]
    exact e
  · rw [l.un _ _ h]
    exact s b o (by rw [l.el b h]; exact e)
theorem Lkd.unrs (l : Lkd H Hl a kvs od un) (e : H' a = some (.frz od (.dK kvs))) : RS H' (un H') := fun b u n h => by
  by_cases hb : b = a
  · subst hb
    rcases h with h | ⟨o', h⟩
    · rw [e] at h
      cases h
      exact absurd rfl (n _ _)
    · rw [e] at h
      cases h
      have z := l.back H' e
      rcases l.rd with r | ⟨o, r⟩
      · exact .inl (by rw [z]; exact r)
      · exact .inr ⟨o, by rw [z]; exact r⟩
  · unfold Rd
    rw [l.un _ _ hb]
    exact h
/-- the locked dict is no part of it -/
theorem Lkd.own {N : Addr → Prop} {r : Addr} {h : Hs} (l : Lkd H Hl a kvs od un) (hN : ∀ b, N b → b ≠ a) (e : H' a = some (.frz od (.dK kvs))) (o : Own K N H' r h) : Own K N (un H') r h := by
  obtain ⟨qs, kvs, h1, h2, h3, h4⟩ := o.ex
  have ot : ∀ {h : Hs} {qs : List Addr} {kvs : List (Key × V)}, (∀ q ∈ qs, N q) → OT K H' h qs kvs → OT K (un H') h qs kvs := by
    intro h qs kvs hq o
    induction o with
    | nil => exact .nil
    | cons x t r ih => exact .cons (by rw [l.un _ _ (hN _ (hq _ List.mem_cons_self))]; exact x) (t.rs (l.unrs e)) (ih fun q m => hq q (List.mem_cons_of_mem _ m))
  exact ⟨qs, kvs, by rw [l.un _ _ (hN _ (h4 r List.mem_cons_self))]; exact h1, ot (fun q m => h4 q (List.mem_cons_of_mem _ m)) h2, h3, h4⟩
theorem q_lockE {t : TE} {σ : L2.St} {Q : VK} (hr : Rd H a (.dK kvs)) (h : ∀ Hl od un (Q' : VK), Lkd H Hl a kvs od un → (∀ v H', H' a = some (.frz od (.dK kvs)) → Q v (un H') → Q' v H') → t σ Hl Q') : tLockEU t σ H Q := by
  rcases hr with e | ⟨od, e⟩
  · exact .inr ⟨a, .dK kvs, e, trivial, fun od => h _ od (fun H' => upd H' a (.dK kvs)) _ ⟨upd_same, fun b n => upd_ne n, fun _ _ => by rw [upd_same, e], fun _ b n => upd_ne n, .inl e⟩ fun v H' z q => ⟨z, q⟩⟩
  · exact .inl (h H od (fun H' => H') Q ⟨e, fun _ _ => rfl, fun _ z => by rw [z, e], fun _ _ _ => rfl, .inr ⟨od, e⟩⟩ fun v H' _ q => q)
/-- the ends ahead of a lock and within it -/
structure LkE (D D' : Ends) (a : Addr) (kvs : List (Key × V)) (od : Obj) (un : Hp → Hp) : Prop where
  nx : ∀ σ' H', H' a = some (.frz od (.dK kvs)) → D.nx σ' (un H') → D'.nx σ' H'
  rt : ∀ v H', H' a = some (.frz od (.dK kvs)) → D.rt v (un H') → D'.rt v H'
  bk : ∀ σ' H', H' a = some (.frz od (.dK kvs)) → D.bk σ' (un H') → D'.bk σ' H'
  ct : ∀ σ' H', H' a = some (.frz od (.dK kvs)) → D.ct σ' (un H') → D'.ct σ' H'
theorem q_lockS {t : TS} {D : Ends} {σ : L2.St} (hr : Rd H a (.dK kvs)) (h : ∀ Hl od un D', Lkd H Hl a kvs od un → LkE D D' a kvs od un → t D' σ Hl) : tLockU t D σ H := by
  rcases hr with e | ⟨od, e⟩
  · exact .inr ⟨a, .dK kvs, e, trivial, fun od => h _ od (fun H' => upd H' a (.dK kvs)) _ ⟨upd_same, fun b n => upd_ne n, fun _ _ => by rw [upd_same, e], fun _ b n => upd_ne n, .inl e⟩ ⟨fun _ _ z q => ⟨z, q⟩, fun _ _ z q => ⟨z, q⟩, fun _ _ z q => ⟨z, q⟩, fun _ _ z q => ⟨z, q⟩⟩⟩
  · exact .inl (h H od (fun H' => H') D ⟨e, fun _ _ => rfl, fun _ z => by rw [z, e], fun _ _ _ => rfl, .inr ⟨od, e⟩⟩ ⟨fun _ _ _ q => q, fun _ _ _ q => q, fun _ _ _ q => q, fun _ _ _ q => q⟩)
/-- its keys are walked; a list's, a tuple's items are -/
def kB (R : It → Hp → Prop) (x : V) (H1 : Hp) : Prop := ∃ d o, x = .ref d ∧ ((∃ kvs, H1 d = some (.frz o (.dK kvs)) ∧ R (Itk d o kvs) H1) ∨ ∃ kvs, H1 d = some (.frz o (.dT kvs)) ∧ R (Itkt d o kvs) H1)
def lB (K : PySem.W.Frag) (R : It → Hp → Prop) (x : V) (H1 : Hp) : Prop := ∃ a, x = .ref a ∧ (∃ xs, SqL K H1 a xs) ∧ R (Itl K a) H1
def tpB (K : PySem.W.Frag) (R : It → Hp → Prop) (x : V) (H1 : Hp) : Prop := ∃ a, x = .ref a ∧ (∃ xs, SqT K H1 a xs) ∧ R (Itt K a) H1
theorem q_keys {te : TE} {σ : L2.St} {R : It → Hp → Prop} (h : te σ H (kB R)) : iAny K te σ H R := .inr (.inr h)
theorem q_items {te : TE} {σ : L2.St} {R : It → Hp → Prop} (h : te σ H (lB K R)) : iAny K te σ H R := .inl h
theorem q_tups {te : TE} {σ : L2.St} {R : It → Hp → Prop} (h : te σ H (tpB K R)) : iAny K te σ H R := .inr (.inl h)
theorem q_keysE {x : Addr} {R : It → Hp → Prop} (e : H x = some (.frz od (.dK kvs))) (r : R (Itk x od kvs) H) : kB R (.ref x) H := ⟨x, od, rfl, .inl ⟨kvs, e, r⟩⟩
theorem q_itemsE {x : Addr} {xs : List V} {R : It → Hp → Prop} (e : SqL K H x xs) (r : R (Itl K x) H) : lB K R (.ref x) H := ⟨x, rfl, ⟨xs, e⟩, r⟩
theorem q_tupsE {x : Addr} {xs : List V} {R : It → Hp → Prop} (e : SqT K H x xs) (r : R (Itt K x) H) : tpB K R (.ref x) H := ⟨x, rfl, ⟨xs, e⟩, r⟩
end
end
end TU

set_option Elab.async false
set_option linter.all false
set_option maxRecDepth 100000
namespace TU
open PySem PySem.Spec PyProof.Rows L2
/-! ### the rules, the written part named -/
section
variable {X : Cx} {K : PySem.W.Frag}
theorem k_add (h : X.K = K) : OpR X (binaryOp .Add) (rAddU K) := h ▸ op_addU
theorem k_eq (h : X.K = K) (hu : X.A.units + 64 < cLine) : OpR X (compareOp .Eq) (rEqU K) := h ▸ op_eqU hu
theorem k_ne (h : X.K = K) (hu : X.A.units + 64 < cLine) : OpR X (compareOp .NotEq) (rNeU K) := h ▸ op_neU hu
theorem k_in (h : X.K = K) (hu : X.A.units + 64 < cLine) : OpR X (compareOp .In) (rInU false K) := h ▸ op_inU hu
theorem k_nin (h : X.K = K) (hu : X.A.units + 64 < cLine) : OpR X (compareOp .NotIn) (rInU true K) := h ▸ op_notInU hu
theorem k_ix (h : X.K = K) (hu : X.A.units + 64 < cLine) : IxR X (rIxU K) := h ▸ ix_any hu
theorem k_sl (h : X.K = K) : SlR X (rSlU K) := h ▸ sl_any
theorem k_len (h : X.K = K) : CallR X (.builtin "len") (rLenU K) := h ▸ call_lenU
theorem k_list (h : X.K = K) (hc : X.calm = true) : CallR X (.type "list") (rListU K) := h ▸ call_listU hc
theorem k_sort (h : X.K = K) (hc : X.calm = true) : CallR X (.builtin "sorted") (rSortU K) := h ▸ call_sortU hc
theorem k_isi (h : X.K = K) : CallR X (.builtin "isinstance") (rIsi K) := h ▸ call_isi
theorem k_sum (h : X.K = K) (hc : X.calm = true) : CallR X (.builtin "sum") (rSum K) := h ▸ cr_sum hc
theorem k_all (h : X.K = K) (hc : X.calm = true) : CallR X (.builtin "all") (rAll K) := h ▸ cr_all hc
theorem k_anyb (h : X.K = K) (hc : X.calm = true) : CallR X (.builtin "any") (rAny K) := h ▸ cr_any hc
theorem k_repr (h : X.K = K) (hg : X.A.guards = some []) (hu : X.A.units + 64 < cLine) : CallR X (.builtin "repr") (rReprT K) := h ▸ call_reprT hg hu
theorem k_tr {e : Expr} {te : TE} (h : X.K = K) (he : PE X e te) (hi : ∀ whole, isTrue e X.env whole = (do let v ← whole; standAt e.pos; holding [v] (truthy v)) := by intro _; rfl) : PT X e (tTr K te) := h ▸ pt_tr he hi
theorem k_walk {tg e : Expr} {te : TE} (h : X.K = K) (he : PE X e te) : PI X tg e (iAny K te) := h ▸ pi_any he
theorem k_rev {e : Expr} {te : TE} {k : Nat} {p1 p2 p3 pos : Pos} (h : X.K = K) (he : PE X e te) : PE X (.Subscript e (.Slice none none (some (.UnaryOp .USub (.Constant (.int 1) k p1) p2)) p3) pos) (tRevL K te) := h ▸ pe_revL he
theorem k_tup {es : List Expr} {k : Nat} {t : TGs} {pos : Pos} {n : Nat} (h : X.K = K) (hc : X.calm = true) (ht : PGs X es t) (hn : (assignEach es X.env).length = n := by rfl) (hst : (assignEach es X.env).findIdx? (·.1) = none := by rfl) : PG X (.Tuple es k pos) (gTup K n t) := h ▸ pg_tup hc ht hn hst
theorem k_fld {e : Expr} {f : Str} {pos : Pos} {te : TE} (h : X.K = K) (he : PE X e te) (hb : attributeBase e f X.env (eval e X.env) = eval e X.env) : PE X (.Attribute e f pos) (tFld K te f) := h ▸ pe_fld he hb
theorem k_append {o e : Expr} {to : TE} {t : TA} {apos cpos : Pos} (h : X.K = K) (ho : PE X o to) (ha : PA X [e] t)
    (hbase : attributeBase o "append" X.env (eval o X.env) = eval o X.env := by rfl)
    (hfew : ((backTo cpos (starEach [e] X.env)).all (fun x => !x.1) && (backToKw cpos (keywordEach [] X.env)).all (fun x => x.1.isSome) && decide (([e] : List Expr).length + ([] : List Keyword).length + (if ([] : List Keyword).isEmpty then 0 else 1) < 30)) = true := by rfl)
    (hline : (apos.endLine == cpos.line) = true := by rfl) (hs : starEach [e] X.env = (false, eval e X.env) :: starEach [] X.env := by rfl) (hplain : (backTo cpos (starEach [] X.env)).any (·.1) = false := by rfl) :
    PE X (.Call (.Attribute o "append" apos) [e] [] cpos) (tBM K "list" rAppend to t) := h ▸ pe_bm PySem.F.plainAttrs_list PySem.F.slot_list_append PySem.F.type_list_append mt_append ho ha hbase hfew hline hs hplain
end
end TU

set_option Elab.async false
set_option linter.all false
set_option maxRecDepth 100000
namespace TU
open PySem PySem.Spec PyProof.Rows L2
section
variable {K : PySem.W.Frag}
/-- the pairs of a table by place -/
theorem at_tK {t : Tab} {i : Nat} {n : Str} {d : Tr} (h : t[i]? = some (n, d)) : (tK t)[i]? = some (.inr n, d) := by
  unfold tK
  rw [List.getElem?_map, h]
  rfl
theorem at_hK {t : Hs} {i : Nat} {n : Str} {d : Tab} (h : t[i]? = some (n, d)) : (hK t)[i]? = some (.inr n, .dic (tK d)) := by
  unfold hK
  rw [List.getElem?_map, h]
  rfl
theorem take_more {α : Type} {l : List α} {i : Nat} {x : α} (h : l[i]? = some x) : l.take (i + 1) = l.take i ++ [x] := by
  rw [List.take_add_one, h]
  rfl
theorem mem_at {α : Type} {l : List α} {i : Nat} {x : α} (h : l[i]? = some x) : x ∈ l := List.mem_of_getElem? h
theorem nd_at {l : List Str} (nd : l.Nodup) {i : Nat} {x : Str} (h : l[i]? = some x) : x ∉ l.take i := fun m => by
  obtain ⟨j, hj, e⟩ := List.getElem_of_mem m
  have hi : i < l.length := (List.getElem?_eq_some_iff.mp h).1
  rw [List.length_take] at hj
  have e2 : l[j]? = some x := by
    rw [← e, List.getElem_take]
    exact List.getElem?_eq_getElem (by omega)
  have := List.pairwise_iff_getElem.mp nd j i (by omega) hi (by omega)
  rw [List.getElem?_eq_getElem hi] at h
  rw [List.getElem?_eq_getElem (by omega)] at e2
  exact this (by rw [Option.some.inj e2, Option.some.inj h])
theorem nms_at {β : Type} {l : List (Str × β)} {i : Nat} {n : Str} {d : β} (h : l[i]? = some (n, d)) : (nms l)[i]? = some n := by
  unfold nms
  rw [List.getElem?_map, h]
  rfl
theorem nms_take {β : Type} (l : List (Str × β)) (i : Nat) : nms (l.take i) = (nms l).take i := by
  unfold nms
  rw [List.map_take]
theorem cpH_take (h : Hs) (i : Nat) : cpH (h.take i) = (cpH h).take i := by
  unfold cpH
  rw [List.map_take]
theorem nms_cpH (h : Hs) : nms (cpH h) = nms h := by
  unfold nms cpH
  rw [List.map_map]
  rfl
theorem cpH_at {h : Hs} {i : Nat} {n : Str} {t : Tab} (e : h[i]? = some (n, t)) : (cpH h)[i]? = some (n, ord t) := by
  unfold cpH
  rw [List.getElem?_map, e]
  rfl
theorem Tk.at {H : Hp} {N : Addr → Prop} : ∀ {kvs : List (Key × V)} {es : List (Key × Tr)} {i : Nat} {k : Key} {v : V}, Tk K H N kvs es → kvs[i]? = some (k, v) → ∃ d, es[i]? = some (k, d) ∧ T K H N v d
  | _, _, _, _, _, .nil, e => by simp at e
  | _, _, 0, k, v, .cons h _, e => by
    simp at e
    obtain ⟨rfl, rfl⟩ := e
    exact ⟨_, rfl, h⟩
  | _, _, i + 1, k, v, .cons _ t, e => by
    obtain ⟨d, h1, h2⟩ := Tk.at (i := i) t (by simpa using e)
    exact ⟨d, by simpa using h1, h2⟩
theorem hK_at {h : Hs} {i : Nat} {k : Key} {d : Tr} (e : (hK h)[i]? = some (k, d)) : ∃ n t, h[i]? = some (n, t) ∧ k = .inr n ∧ d = .dic (tK t) := by
  unfold hK at e
  rw [List.getElem?_map] at e
  cases q : h[i]? with
  | none =>
    rw [q] at e
    cases e
  | some p =>
    rw [q] at e
    cases e
    exact ⟨p.1, p.2, rfl, rfl, rfl⟩
theorem srt_at {l : List Str} {j : Nat} {x : V} (e : (l.map V.str)[j]? = some x) : ∃ n, l[j]? = some n ∧ x = .str n := by
  rw [List.getElem?_map] at e
  cases q : l[j]? with
  | none =>
    rw [q] at e
    cases e
  | some n =>
    rw [q] at e
    cases e
    exact ⟨n, rfl, rfl⟩
theorem ord_at {t : Tab} {j : Nat} {n : Str} (e : (srt (nms t))[j]? = some n) : ∃ d, (ord t)[j]? = some (n, d) ∧ lk t n = some d := by
  have m : n ∈ nms t := (srt_perm _).mem_iff.mp (mem_at e)
  cases q : lk t n with
  | none => exact absurd m (lk_none.mp q)
  | some d =>
    refine ⟨d, ?_, rfl⟩
    unfold ord
    rw [List.getElem?_map, e]
    show some (n, (lk t n).getD default) = _
    rw [q]
    rfl
theorem immT_lk {t : Tab} (h : immT t) {n : Str} {d : Tr} (e : lk t n = some d) : imm d = true := h _ (lk_mem e)
theorem tK_snoc (t : Tab) (n : Str) (d : Tr) : tK (t ++ [(n, d)]) = tK t ++ [(.inr n, d)] := by
  unfold tK
  rw [List.map_append]
  rfl
theorem len_small {n : Nat} (h : n ≤ 100000) : n < sizeLine := Nat.lt_of_le_of_lt h (by decide)


/-- an Unknown with its two words -/
def XUnk (C : Addr) (what name : Str) (H : Hp) (E : XK) : Prop := ∀ d H', Same H H' → H' d = some (.xd [("name", .str name), ("what", .str what)]) → E (.ref C) (some d) H'
end
end TU

set_option Elab.async false
set_option linter.all false
set_option maxRecDepth 100000
namespace TU
open PySem PySem.Spec PyProof.Rows L2
section
variable {K : PySem.W.Frag} {H H' : Hp} {N : Addr → Prop}
theorem XUnk.mono {C : Addr} {w n : Str} {E : XK} (s : Same H H') (x : XUnk C w n H E) : XUnk C w n H' E := fun d H1 s1 e => x d H1 (s.trans s1) e
theorem Own.live {r : Addr} {h : Hs} (o : Own K N H r h) : Own K (fun b => N b ∧ H b ≠ none) H r h := by
  obtain ⟨qs, kvs, h1, h2, h3, h4⟩ := o.ex
  refine ⟨qs, kvs, h1, h2, h3, fun q m => ⟨h4 q m, ?_⟩⟩
  rcases List.mem_cons.mp m with e | m
  · rw [e, h1]
    exact fun z => nomatch z
  · exact h2.mem m
theorem appAll_cons (h : Hs) (e : Ed) (es : List Ed) : appAll h (e :: es) = eb (app1 h e) fun h' => appAll h' es := rfl
theorem appAll_append : ∀ (h : Hs) (xs ys : List Ed), appAll h (xs ++ ys) = eb (appAll h xs) fun h' => appAll h' ys
  | h, [], ys => rfl
  | h, e :: xs, ys => by
    rw [List.cons_append, appAll_cons, appAll_cons]
    cases app1 h e with
    | ok h' => exact appAll_append h' xs ys
    | error x => rfl
theorem appAll_one (h : Hs) (e : Ed) : appAll h [e] = app1 h e := by
  rw [appAll_cons]
  cases app1 h e <;> rfl
/-- the edits up to a place, and one more -/
theorem appAll_more {h hi : Hs} {es : List Ed} {i : Nat} {e : Ed} (he : es[i]? = some e) (ha : appAll h (es.take i) = .ok hi) : appAll h (es.take (i + 1)) = app1 hi e := by
  rw [take_more he, appAll_append, ha]
  exact appAll_one hi e
theorem appAll_stop {h hi : Hs} {es : List Ed} {i : Nat} {e : Ed} {x : Str × Str} (he : es[i]? = some e) (ha : appAll h (es.take i) = .ok hi) (hx : app1 hi e = .error x) : appAll h es = .error x := by
  have e1 := appAll_more he ha
  rw [hx] at e1
  have e2 := appAll_append h (es.take (i + 1)) (es.drop (i + 1))
  rw [List.take_append_drop, e1] at e2
  exact e2
theorem nms_cp (h : Hs) : nms (cpH h) = nms h := nms_cpH h
theorem immT_put {t : Tab} (h : immT t) (n : Str) {d : Tr} (hd : imm d = true) : immT (put t n d) := by
  intro p hp
  induction t with
  | nil =>
    have e : p = (n, d) := List.mem_singleton.mp hp
    rw [e]
    exact hd
  | cons q r ih =>
    unfold put at hp
    by_cases e : q.1 = n
    · rw [if_pos e] at hp
      rcases List.mem_cons.mp hp with e | m
      · rw [e]
        exact hd
      · exact h p (List.mem_cons_of_mem _ m)
    · rw [if_neg e] at hp
      rcases List.mem_cons.mp hp with e | m
      · rw [e]
        exact h q List.mem_cons_self
      · exact ih (fun x hx => h x (List.mem_cons_of_mem _ hx)) m
theorem mem_del {β : Type} {t : List (Str × β)} {n : Str} {p : Str × β} (hp : p ∈ del t n) : p ∈ t := by
  induction t with
  | nil => exact hp
  | cons q r ih =>
    unfold del at hp
    by_cases e : q.1 = n
    · rw [if_pos e] at hp
      exact List.mem_cons_of_mem _ hp
    · rw [if_neg e] at hp
      rcases List.mem_cons.mp hp with e | m
      · rw [e]
        exact List.mem_cons_self
      · exact List.mem_cons_of_mem _ (ih m)
theorem immT_del {t : Tab} (h : immT t) (n : Str) : immT (del t n) := fun p hp => h p (mem_del hp)
theorem mem_put {β : Type} {t : List (Str × β)} {n : Str} {v : β} {p : Str × β} (hp : p ∈ put t n v) : p ∈ t ∨ p = (n, v) := by
  induction t with
  | nil => exact .inr (List.mem_singleton.mp hp)
  | cons q r ih =>
    unfold put at hp
    by_cases e : q.1 = n
    · rw [if_pos e] at hp
      rcases List.mem_cons.mp hp with e2 | m
      · rw [e] at e2
        exact .inr e2
      · exact .inl (List.mem_cons_of_mem _ m)
    · rw [if_neg e] at hp
      rcases List.mem_cons.mp hp with e2 | m
      · rw [e2]
        exact .inl List.mem_cons_self
      · exact (ih m).imp (List.mem_cons_of_mem _) id
theorem immT_ord {t : Tab} (h : immT t) : immT (ord t) := by
  intro p hp
  unfold ord at hp
  obtain ⟨n, hn, rfl⟩ := List.mem_map.mp hp
  have m : n ∈ nms t := (srt_perm _).mem_iff.mp hn
  cases q : lk t n with
  | none => exact absurd m (lk_none.mp q)
  | some d => exact immT_lk h q
theorem Wf.cp {h : Hs} (w : Wf h) : Wf (cpH h) := by
  refine ⟨by rw [nms_cpH]; exact w.nd, fun p hp => ?_⟩
  obtain ⟨q, hq, rfl⟩ := List.mem_map.mp hp
  exact ⟨nd_ord (w.tab q hq).1, immT_ord (w.tab q hq).2⟩
theorem Wf.set {h : Hs} (w : Wf h) {k : Str} {t : Tab} (nd : (nms t).Nodup) (im : immT t) : Wf (put h k t) := by
  refine ⟨nd_put w.nd k t, fun p hp => ?_⟩
  rcases mem_put hp with m | e
  · exact w.tab p m
  · rw [e]
    exact ⟨nd, im⟩
theorem Fits.cp {n : Nat} {h : Hs} (f : Fits n h) : Fits n (cpH h) := fun p hp => by
  obtain ⟨q, hq, rfl⟩ := List.mem_map.mp hp
  rw [len_ord]
  exact f q hq
theorem Fits.set {n m : Nat} {h : Hs} (f : Fits n h) (hnm : n ≤ m) {k : Str} {t : Tab} (ht : t.length ≤ m) : Fits m (put h k t) := fun p hp => by
  rcases mem_put hp with x | e
  · exact Nat.le_trans (f p x) hnm
  · rw [e]
    exact ht
theorem len_cp (h : Hs) : (cpH h).length = h.length := by
  unfold cpH
  rw [List.length_map]
theorem len_put_of {β : Type} {h : List (Str × β)} {k : Str} {v : β} (m : k ∈ nms h) : (put h k v).length = h.length := by
  rw [← nms_len, nms_put, if_pos m, nms_len]
theorem nms_put_of {β : Type} {h : List (Str × β)} {k : Str} {v : β} (m : k ∈ nms h) : nms (put h k v) = nms h := by rw [nms_put, if_pos m]
/-- what one edit leaves of the shape -/
theorem app1_ok {h h' : Hs} {e : Ed} (w : Wf h) (im : e.Imm) {n : Nat} (f : Fits n h) (ha : app1 h e = .ok h') : Wf h' ∧ Fits (n + 1) h' ∧ nms h' = nms h := by
  unfold app1 at ha
  cases q : lk h e.key with
  | none =>
    rw [q] at ha
    cases ha
  | some t =>
    rw [q] at ha
    have hm := lk_mem q
    have wt := w.tab _ hm
    have ft : t.length ≤ n := f _ hm
    have hk : e.key ∈ nms h := mem_nms hm
    cases e with
    | put k m d =>
      cases ha
      have := len_put_le t m d
      exact ⟨w.set (nd_put wt.1 m d) (immT_put wt.2 m im), f.set (Nat.le_succ _) (by omega), nms_put_of hk⟩
    | drop k m =>
      by_cases hn : m ∈ nms t
      · simp only [if_pos hn] at ha
        cases ha
        have := len_del_le t m
        exact ⟨w.set (nd_del wt.1 m) (immT_del wt.2 m), f.set (Nat.le_succ _) (by omega), nms_put_of hk⟩
      · simp only [if_neg hn] at ha
        cases ha
theorem appAll_ok : ∀ {es : List Ed} {h h' : Hs} {n : Nat}, Wf h → (∀ e ∈ es, e.Imm) → Fits n h → appAll h es = .ok h' → Wf h' ∧ Fits (n + es.length) h' ∧ nms h' = nms h
  | [], h, h', n, w, im, f, ha => by
    cases ha
    exact ⟨w, f, rfl⟩
  | e :: es, h, h', n, w, im, f, ha => by
    rw [appAll_cons] at ha
    cases q : app1 h e with
    | error x =>
      rw [q] at ha
      cases ha
    | ok h1 =>
      rw [q] at ha
      obtain ⟨w1, f1, n1⟩ := app1_ok w (im e List.mem_cons_self) f q
      obtain ⟨w2, f2, n2⟩ := appAll_ok w1 (fun x hx => im x (List.mem_cons_of_mem _ hx)) f1 ha
      refine ⟨w2, ?_, n2.trans n1⟩
      rw [List.length_cons, show n + (es.length + 1) = n + 1 + es.length by omega]
      exact f2
theorem len_of_nms {h h' : Hs} (e : nms h' = nms h) : h'.length = h.length := by rw [← nms_len h', e, nms_len]
theorem Ts.gets {vs : List V} {ds : List Tr} {i : Nat} {v : V} (h : Ts K H N vs ds) (e : vs[i]? = some v) : ∃ d, ds[i]? = some d ∧ T K H N v d := h.get e
theorem map_at {α β : Type} {f : α → β} {l : List α} {i : Nat} {y : β} (e : (l.map f)[i]? = some y) : ∃ x, l[i]? = some x ∧ y = f x := by
  rw [List.getElem?_map] at e
  cases q : l[i]? with
  | none =>
    rw [q] at e
    cases e
  | some x =>
    rw [q] at e
    cases e
    exact ⟨x, rfl, rfl⟩
/-- what leads back from one edit; from a list of edits -/
def inv1 (h : Hs) (e : Ed) : Ed := match lk h e.key with
  | none => .drop e.key e.name
  | some t => match lk t e.name with
    | some d => .put e.key e.name d
    | none => .drop e.key e.name
def invs : Hs → List Ed → List Ed
  | _, [] => []
  | h, e :: es => inv1 h e :: (match app1 h e with | .ok h' => invs h' es | .error _ => [])
theorem inv1_imm {h : Hs} (w : Wf h) (e : Ed) : (inv1 h e).Imm := by
  cases q : lk h e.key with
  | none =>
    simp only [inv1, q]
    trivial
  | some t =>
    cases q2 : lk t e.name with
    | none =>
      simp only [inv1, q, q2]
      trivial
    | some d =>
      simp only [inv1, q, q2]
      exact immT_lk (w.tab _ (lk_mem q)).2 q2
theorem invs_more : ∀ {es : List Ed} {h hi : Hs} {i : Nat} {e : Ed}, es[i]? = some e → appAll h (es.take i) = .ok hi → invs h (es.take (i + 1)) = invs h (es.take i) ++ [inv1 hi e]
  | [], _, _, _, _, he, _ => by simp at he
  | x :: es, h, hi, 0, e, he, ha => by
    have e1 : x = e := by simpa using he
    have e2 : h = hi := by
      have : Except.ok h = Except.ok hi := ha
      exact Except.ok.inj this
    subst e1 e2
    show inv1 h x :: (match app1 h x with | .ok h' => invs h' [] | .error _ => []) = [inv1 h x]
    cases app1 h x <;> rfl
  | x :: es, h, hi, i + 1, e, he, ha => by
    have he' : es[i]? = some e := by simpa using he
    rw [List.take_succ_cons] at ha ⊢
    rw [List.take_succ_cons]
    rw [appAll_cons] at ha
    unfold invs
    cases q : app1 h x with
    | error z =>
      rw [q] at ha
      cases ha
    | ok h1 =>
      rw [q] at ha
      show inv1 h x :: invs h1 (es.take (i + 1)) = inv1 h x :: invs h1 (es.take i) ++ [inv1 hi e]
      rw [invs_more he' ha]
      rfl
end
section
variable {K : PySem.W.Frag} {σ : L2.St} {H : Hp} {D : Ends}
theorem q_is {α : Type} {x : α} {A B : Prop} (h : A) : if (some x).isSome = true then A else B := q_t h
theorem q_isn {α : Type} {A B : Prop} (h : B) : if (none : Option α).isSome = true then A else B := q_f h
theorem q_nis {α : Type} {x : α} {A B : Prop} (h : B) : if (!(some x).isSome) = true then A else B := q_nt h
theorem q_nisn {α : Type} {A B : Prop} (h : A) : if (!(none : Option α).isSome) = true then A else B := q_nf h
theorem q_ddel {td ty : TE} (h : td σ H fun x H1 => ty σ H1 fun y H2 => ∃ a kvs k, x = .ref a ∧ H2 a = some (.dK kvs) ∧ y = kV k ∧ (valV kvs k).isSome = true ∧ D.nx σ (upd H2 a (.dK (dropK kvs k)))) : sDDel td ty D σ H := h
theorem q_rev {te : TE} {Q : VK} (h : te σ H fun x H1 => ∃ a xs, x = .ref a ∧ SqL K H1 a xs ∧ ∀ p, H1 p = none → Q (.ref p) (upd H1 p (.lst xs.reverse))) : tRevL K te σ H Q := h
theorem Ts.rev {N : Addr → Prop} : ∀ {vs : List V} {ds : List Tr}, Ts K H N vs ds → Ts K H N vs.reverse ds.reverse
  | _, _, .nil => .nil
  | _, _, .cons h t => by
    rw [List.reverse_cons, List.reverse_cons]
    exact (Ts.rev t).append (.cons h .nil)
/-- over a list's items -/
theorem for_items {a : Addr} {xs : List V} {tb : TS} {j : Nat} (Pv : Nat → L2.St → Hp → Prop) (h0 : Pv 0 σ H) (hx : ∀ i σ H, i ≤ xs.length → Pv i σ H → SqL K H a xs)
    (hs : ∀ i x σ H, xs[i]? = some x → Pv i σ H → tb { D with nx := Pv (i + 1), ct := Pv (i + 1), bk := D.nx } (σ.set j (some x)) H) (hd : ∀ σ H, Pv xs.length σ H → D.nx σ H) : forB (Itl K a) (gName j) tb D σ H :=
  for_any walk_list Pv h0 hx (fun i x σ H H' _ p y => by
    obtain ⟨e, y⟩ := y
    subst e
    exact hs i x σ _ y p) hd
end
end TU

set_option Elab.async false
set_option linter.all false
set_option maxRecDepth 100000
namespace TU
open PySem PySem.Spec PyProof.Rows L2
section
variable {X : Cx}
def rIntU : List V → Hp → VK → Prop := fun xs H Q => (∃ i, xs = [.int i] ∧ Q (.int i) H) ∨ ∃ k, xs = [.bl k] ∧ Q (.int (if k then 1 else 0)) H
theorem k_int : CallR X (.type "int") rIntU := call_int1
def rAbsU : List V → Hp → VK → Prop := fun xs H Q => ∃ i, xs = [.int i] ∧ Q (.int (if i < 0 then -i else i)) H
theorem k_abs : CallR X (.builtin "abs") rAbsU := call_abs
end
section
variable {K : PySem.W.Frag} {σ : L2.St} {H H' : Hp} {Q : VK}
theorem q_intI {i : Int} (q : Q (.int i) H) : rIntU [.int i] H Q := .inl ⟨i, rfl, q⟩
theorem q_intB {b : Bool} (q : Q (.int (if b then 1 else 0)) H) : rIntU [.bl b] H Q := .inr ⟨b, rfl, q⟩
theorem q_abs {i : Int} (q : Q (.int (if i < 0 then -i else i)) H) : rAbsU [.int i] H Q := ⟨i, rfl, q⟩
theorem upd_self {a : Addr} {o : HO} (e : H a = some o) : upd H a o = H := by
  funext b
  by_cases h : b = a
  · rw [h, upd_same, e]
  · rw [upd_ne h]
/-- where a lies may be written; all else stays -/
def Kp (a : Addr) (H H' : Hp) : Prop := Keeps (fun b => b = a) H H'
theorem Kp.refl {a : Addr} : Kp a H H := fun _ _ _ e => e
theorem Kp.trans {a : Addr} {H1 : Hp} (x : Kp a H H1) (y : Kp a H1 H') : Kp a H H' := fun b o n e => y b o n (x b o n e)
theorem Kp.of {a : Addr} (s : Same H H') : Kp a H H' := fun b o _ e => s b o e
theorem Kp.upd {a : Addr} {o : HO} : Kp a H (upd H a o) := keeps_upd
/-- what is new since H1, where H1 knows a, may change, too -/
theorem Kp.new {a p : Addr} {H1 : Hp} {o : HO} (x : Kp a H H1) (hp : H p = none) : Kp a H (L2.upd H1 p o) := fun b u n e => by
  rw [upd_ne (ne_of_none e hp)]
  exact x b u n e
/-- the draws' list and place -/
structure Rnd (H : Hp) (j a : Addr) (p : Int) : Prop where
  ex : ∃ ns : List Int, H j = some (.lst (ns.map V.int)) ∧ ns.length ≤ 2000 ∧ ∀ n ∈ ns, 0 ≤ n ∧ n < 1000
  at_ : H a = some (.lst [.int p])
  ne : j ≠ a
  p0 : 0 ≤ p
theorem Rnd.same {j a : Addr} {p : Int} (r : Rnd H j a p) (s : Same H H') : Rnd H' j a p := by
  obtain ⟨ns, h1, h2, h3⟩ := r.ex
  exact ⟨⟨ns, s _ _ h1, h2, h3⟩, s _ _ r.at_, r.ne, r.p0⟩
theorem Rnd.set {j a : Addr} {p p' : Int} (r : Rnd H j a p) (h : 0 ≤ p') : Rnd (upd H a (.lst [.int p'])) j a p' := by
  obtain ⟨ns, h1, h2, h3⟩ := r.ex
  exact ⟨⟨ns, by rw [upd_ne r.ne]; exact h1, h2, h3⟩, upd_same, r.ne, h⟩
theorem Rnd.upd {j a q : Addr} {p : Int} {o o' : HO} (r : Rnd H j a p) (e : H q = some o) (hj : q ≠ j) (ha : q ≠ a) : Rnd (upd H q o') j a p := by
  obtain ⟨ns, h1, h2, h3⟩ := r.ex
  exact ⟨⟨ns, by rw [upd_ne hj.symm]; exact h1, h2, h3⟩, by rw [upd_ne ha.symm]; exact r.at_, r.ne, r.p0⟩
theorem T.kp {a : Addr} {xs : List V} {N N' : Addr → Prop} {v : V} {d : Tr} (h : T K H N v d) (k : Kp a H H') (e : H a = some (.lst xs)) (hN : ∀ b, N b → N' b ∧ b ≠ a) : T K H' N' v d := h.keep k (nt_of e (fun _ z => nomatch z) fun _ _ z => nomatch z) hN
theorem Own.kp {a r : Addr} {xs : List V} {N : Addr → Prop} {h : Hs} (o : Own K N H r h) (k : Kp a H H') (e : H a = some (.lst xs)) (hN : ∀ b, N b → b ≠ a) : Own K N H' r h := o.keep k (nt_of e (fun _ z => nomatch z) fun _ _ z => nomatch z) hN
theorem Ts.kp {a : Addr} {xs : List V} {N N' : Addr → Prop} {v : List V} {d : List Tr} (h : Ts K H N v d) (k : Kp a H H') (e : H a = some (.lst xs)) (hN : ∀ b, N b → N' b ∧ b ≠ a) : Ts K H' N' v d := h.keep k (nt_of e (fun _ z => nomatch z) fun _ _ z => nomatch z) hN
theorem fmod_lt {a b : Int} (h : 0 < b) : 0 ≤ a.fmod b ∧ a.fmod b < b := by
  rw [Int.fmod_eq_emod_of_nonneg a (by omega)]
  exact ⟨Int.emod_nonneg a (by omega), Int.emod_lt_of_pos a h⟩
theorem fdiv_le {a b : Int} (h : 0 < b) (ha : 0 ≤ a) : 0 ≤ a.fdiv b ∧ a.fdiv b ≤ a := by
  rw [Int.fdiv_eq_ediv_of_nonneg a (by omega)]
  exact ⟨Int.ediv_nonneg ha (by omega), Int.ediv_le_self b ha⟩
end
end TU

set_option Elab.async false
set_option linter.all false
set_option maxRecDepth 100000
namespace TU
open PySem PySem.Spec PyProof.Rows L2
section
variable {K : PySem.W.Frag} {H H' : Hp} {N : Addr → Prop}
theorem lk_snoc {β : Type} {h : List (Str × β)} {k : Str} {t : β} (nk : k ∉ nms h) : lk (h ++ [(k, t)]) k = some t := by
  induction h with
  | nil => simp [lk_cons]
  | cons p r ih =>
    rw [nms_cons, List.mem_cons, not_or] at nk
    rw [List.cons_append, lk_cons, if_neg (fun z => nk.1 z.symm)]
    exact ih nk.2
theorem put_snoc {β : Type} {h : List (Str × β)} {k : Str} {t t' : β} (nk : k ∉ nms h) : put (h ++ [(k, t)]) k t' = h ++ [(k, t')] := by
  induction h with
  | nil => simp [put]
  | cons p r ih =>
    rw [nms_cons, List.mem_cons, not_or] at nk
    rw [List.cons_append, put, if_neg (fun z => nk.1 z.symm), ih nk.2]
    rfl
theorem nms_append {β : Type} (h g : List (Str × β)) : nms (h ++ g) = nms h ++ nms g := List.map_append
theorem put_fresh {β : Type} {h : List (Str × β)} {k : Str} {t : β} (nk : k ∉ nms h) : put h k t = h ++ [(k, t)] := by
  induction h with
  | nil => rfl
  | cons p r ih =>
    rw [nms_cons, List.mem_cons, not_or] at nk
    rw [put, if_neg (fun z => nk.1 z.symm), ih nk.2]
    rfl
/-- a list object that is no dict stands when a dict is changed -/
theorem sqL_dk {q p : Addr} {xs : List V} {es : List (Key × V)} {o : HO} (e : H q = some (.dK es)) (h : H p = some (.lst xs)) : (upd H q o) p = some (.lst xs) := by
  rw [upd_ne (ne_of h e (fun z => nomatch z))]
  exact h
theorem hlist_at {ss : List Str} {i : Nat} {x : V} (h : (ss.map V.str)[i]? = some x) : ∃ n, ss[i]? = some n ∧ x = .str n := srt_at h
/-- behind a lock of a: what H knew stands, a is locked -/
structure Lk1 (H : Hp) (a : Addr) (kvs : List (Key × V)) (od : Obj) (H1 : Hp) : Prop where
  keep : ∀ b o, H b = some o → b ≠ a → H1 b = some o
  at_ : H1 a = some (.frz od (.dK kvs))
section
variable {a : Addr} {kvs : List (Key × V)} {od : Obj} {H1 H2 Hl : Hp} {un : Hp → Hp}
theorem Lkd.l1 (l : Lkd H Hl a kvs od un) : Lk1 H a kvs od Hl := ⟨fun b o e n => by rw [l.el b n]; exact e, l.at_⟩
theorem Lk1.same (l : Lk1 H a kvs od H1) (s : Same H1 H2) : Lk1 H a kvs od H2 := ⟨fun b o e n => s _ _ (l.keep b o e n), s _ _ l.at_⟩
theorem Lk1.ne (l : Lk1 H a kvs od H1) (rd : Rd H a (.dK kvs)) {b : Addr} (e : H b = none) : b ≠ a := fun z => by
  rw [z] at e
  rcases rd with q | ⟨o, q⟩ <;> (rw [q] at e; cases e)
theorem Lk1.fresh (l : Lk1 H a kvs od H1) {b : Addr} (e : H1 b = none) : H b = none := by
  cases z : H b with
  | none => rfl
  | some o =>
    by_cases hb : b = a
    · rw [hb, l.at_] at e
      cases e
    · rw [l.keep b o z hb] at e
      cases e
theorem Lk1.upd (l : Lk1 H a kvs od H1) (rd : Rd H a (.dK kvs)) {q : Addr} {o : HO} (e : H q = none) : Lk1 H a kvs od (L2.upd H1 q o) := ⟨fun b u eb n => by
  rw [upd_ne (ne_of_none eb e)]
  exact l.keep b u eb n, by rw [upd_ne (l.ne rd e).symm]; exact l.at_⟩
theorem Lk1.rs (l : Lk1 H a kvs od H1) (rd : Rd H a (.dK kvs)) : RS H H1 := fun b u n h => by
  by_cases e : b = a
  · subst e
    rcases rd with z | ⟨o, z⟩
    · rcases h with h | ⟨o', h⟩
      · rw [z] at h
        cases h
        exact .inr ⟨od, l.at_⟩
      · rw [z] at h
        cases h
    · rcases h with h | ⟨o', h⟩
      · rw [z] at h
        cases h
        exact absurd rfl (n _ _)
      · rw [z] at h
        cases h
        exact .inr ⟨od, l.at_⟩
  · rcases h with h | ⟨o', h⟩
    · exact .inl (l.keep _ _ h e)
    · exact .inr ⟨o', l.keep _ _ h e⟩
theorem Lk1.out {Hz : Hp} (l : Lk1 H a kvs od H1) (k : Lkd Hz Hl a kvs od un) (s : Same H Hz) : Same H (un H1) := fun b o e => by
  by_cases h : b = a
  · subst h
    rw [k.back _ l.at_]
    exact s _ _ e
  · rw [k.un _ _ h]
    exact l.keep b o e h
end
end
section
variable {K : PySem.W.Frag} {σ : L2.St} {H : Hp} {D : Ends}
theorem for_keysS {d : Addr} {o : Obj} {kvs : List (Key × V)} {tb : TS} {j : Nat} (Pv : Nat → L2.St → Hp → Prop) (h0 : Pv 0 σ H) (hx : ∀ i σ H, i ≤ kvs.length → Pv i σ H → H d = some (.frz o (.dK kvs)))
    (hs : ∀ i k v σ H, kvs[i]? = some (k, v) → Pv i σ H → tb { D with nx := Pv (i + 1), ct := Pv (i + 1), bk := D.nx } (σ.set j (some (kV k))) H) (hd : ∀ σ H, Pv kvs.length σ H → D.nx σ H) : forB (Itk d o kvs) (gName j) tb D σ H :=
  for_any walk_keys Pv h0 hx (fun i x σ H H' _ p y => by
    obtain ⟨e, k, v, y, z⟩ := y
    subst e
    rw [z]
    exact hs i k v σ _ y p) hd
end
end TU

set_option Elab.async false
set_option linter.all false
set_option maxRecDepth 100000
namespace TU
open PySem PySem.Spec PyProof.Rows L2
section
variable {K : PySem.W.Frag} {H H' : Hp} {N P : Addr → Prop} {Q : VK} {a : Addr}
theorem q_dpop1 {td ty : TE} {σ : L2.St} (h : td σ H fun x H1 => ∃ a, x = .ref a ∧ IsD H1 a ∧ ty σ H1 fun y H2 => ∃ kvs k v, H2 a = some (.dK kvs) ∧ y = kV k ∧ valV kvs k = some v ∧ Q v (upd H2 a (.dK (dropK kvs k)))) : tDPop1 td ty σ H Q := h
theorem q_isiD {kvs : List (Key × V)} (h : Rd H a (.dK kvs)) (q : Q (.bl true) H) : rIsi K [.ref a, .ty "dict"] H Q := by
  refine ⟨.ref a, .ty "dict", .type "dict", .type "dict", true, rfl, .ty _, ?_, kit_ty (by decide +kernel), q⟩
  rcases h with e | ⟨o, e⟩
  · exact .base (.dK e)
  · exact .fDict e
theorem q_isiT {xs : List V} (h : SqT K H a xs) (q : Q (.bl true) H) : rIsi K [.ref a, .ty "tuple"] H Q := by
  refine ⟨.ref a, .ty "tuple", .type "tuple", .type "tuple", true, rfl, .ty _, ?_, kit_ty (by decide +kernel), q⟩
  rcases h with (e | ⟨o, e⟩) | ⟨o, its, n, e, c, _⟩
  · exact .base (.tup e)
  · exact .fTuple e
  · exact .kTuple e c
theorem q_isiL {xs : List V} (h : SqL K H a xs) (q : Q (.bl true) H) : rIsi K [.ref a, .ty "list"] H Q := by
  refine ⟨.ref a, .ty "list", .type "list", .type "list", true, rfl, .ty _, ?_, kit_ty (by decide +kernel), q⟩
  rcases h with (e | ⟨o, e⟩) | ⟨o, its, n, e, c, _⟩
  · exact .base (.lst e)
  · exact .base (.frz e)
  · exact .kList e c
theorem Ts.strs : ∀ (ss : List Str), Ts K H P (ss.map V.str) (ss.map Tr.str)
  | [] => .nil
  | s :: ss => .cons (.str s) (Ts.strs ss)
theorem nods_strs : ∀ (ss : List Str), nods (ss.map Tr.str) = true
  | [] => rfl
  | s :: ss => by
    rw [List.map_cons, nods, nods_strs ss]
    rfl
theorem deps_strs : ∀ (ss : List Str), deps (ss.map Tr.str) = 0
  | [] => rfl
  | s :: ss => by
    rw [List.map_cons, deps, deps_strs ss]
    rfl
theorem keysV {kvs : List (Key × V)} {ss : List Str} (e : kvs.map (·.1) = ss.map Sum.inr) : kvs.map (fun kv => kV kv.1) = ss.map V.str := by
  have : kvs.map (fun kv => kV kv.1) = (kvs.map (·.1)).map kV := by rw [List.map_map] <;> rfl
  rw [this, e, List.map_map]
  rfl
theorem q_neStrs {p q : Addr} {ss : List Str} (hp : SqL K H p (ss.map V.str)) (hq : SqL K H q (ss.map V.str)) (k : Q (.bl false) H) : rNeU K (.ref p) (.ref q) H Q := by
  have hn : nod (.lst (ss.map Tr.str)) = true := by
    rw [nod]
    exact nods_strs ss
  refine q_neT (P := fun _ => True) (.lst trivial hp (.strs ss)) (.lst trivial hq (.strs ss)) hn hn (by rw [dep, deps_strs]; decide) ?_
  rw [eqb_refl hn]
  exact k
theorem getD_mem : ∀ {ks : List (Key × Tr)} {p : Key × Tr}, (ks.map (·.1)).Nodup → p ∈ ks → getD ks p.1 = some p.2
  | [], _, _, h => nomatch h
  | x :: ks, p, nd, h => by
    have nd' := List.nodup_cons.mp nd
    rw [getD_cons]
    rcases List.mem_cons.mp h with e | h
    · rw [e, if_pos rfl]
    · have : ¬ x.1 = p.1 := fun z => nd'.1 (List.mem_map.mpr ⟨p, h, z.symm⟩)
      rw [if_neg this]
      exact getD_mem nd'.2 h
theorem eqk_refl {ks : List (Key × Tr)} (nd : (ks.map (·.1)).Nodup) (h : ∀ p ∈ ks, nod p.2 = true) : eqk ks ks = true := by
  unfold eqk
  rw [Bool.and_eq_true]
  refine ⟨by simp, List.all_eq_true.mpr fun p hp => ?_⟩
  rw [getD_mem nd hp]
  exact eqb_refl (h p hp)
theorem nd_tK {t : Tab} (nd : (nms t).Nodup) : ((tK t).map (·.1)).Nodup := by
  rw [keys_tK]
  exact List.Pairwise.map Sum.inr (fun a b h e => h (Sum.inr.inj e)) nd
theorem mem_tK {t : Tab} {p : Key × Tr} (h : p ∈ tK t) : ∃ q ∈ t, p.2 = q.2 := by
  obtain ⟨q, hq, e⟩ := List.mem_map.mp h
  exact ⟨q, hq, by rw [← e]⟩
theorem q_neTab {p q : Addr} {es fs : List (Key × V)} {t : Tab} {N1 N2 : Addr → Prop} (hp : Rd H p (.dK es)) (hq : Rd H q (.dK fs)) (t1 : Tk K H N1 es (tK t)) (t2 : Tk K H N2 fs (tK t)) (nd : (nms t).Nodup) (he : ∀ x ∈ t, nod x.2 = true ∧ dep x.2 ≤ 60) (k : Q (.bl false) H) : rNeU K (.ref p) (.ref q) H Q := by
  have h1 : ∀ x ∈ tK t, nod x.2 = true ∧ dep x.2 ≤ 60 := fun x hx => by
    obtain ⟨y, hy, e⟩ := mem_tK hx
    rw [e]
    exact he y hy
  refine q_neK (P := fun _ => True) hp hq (t1.imp fun _ _ => trivial) (t2.imp fun _ _ => trivial) h1 (fun x hx => (h1 x hx).1) ?_
  rw [eqk_refl (nd_tK nd) fun x hx => (h1 x hx).1]
  exact k
end
/-! ### entries that may be compared and shown; houses of such -/
def Sml (h : Hs) : Prop := ∀ p ∈ h, ∀ x ∈ p.2, dep x.2 ≤ 60
theorem Wf.ent {h : Hs} (w : Wf h) (s : Sml h) {p : Str × Tab} (hp : p ∈ h) : ∀ x ∈ p.2, nod x.2 = true ∧ dep x.2 ≤ 60 := fun x hx => ⟨nod_of_imm ((w.tab p hp).2 x hx), s p hp x hx⟩
def AscH (h : Hs) : Prop := ∀ p ∈ h, Asc (nms p.2)
theorem AscH.cp (h : Hs) : AscH (cpH h) := fun p hp => by
  obtain ⟨q, hq, rfl⟩ := List.mem_map.mp hp
  show Asc (nms (ord q.2))
  rw [nms_ord]
  exact srt_asc _
theorem cp_cp {h : Hs} (w : Wf h) : cpH (cpH h) = cpH h := by
  unfold cpH
  rw [List.map_map]
  refine List.map_congr_left fun p hp => ?_
  show (p.1, ord (ord p.2)) = (p.1, ord p.2)
  rw [ord_ord (w.tab p hp).1]
theorem ord_of_asc {t : Tab} (nd : (nms t).Nodup) (h : Asc (nms t)) : ord t = t := ext_lk (nd_ord nd) (by rw [nms_ord, srt_of_asc h]) fun x => lk_ord t x
end TU

set_option Elab.async false
set_option linter.all false
set_option maxRecDepth 100000
namespace TU
open PySem PySem.Spec PyProof.Rows L2
section
variable {K : PySem.W.Frag} {H H' : Hp} {N P : Addr → Prop} {Q : VK} {a : Addr}
theorem sq_ne {p q : Addr} {xs : List V} {o o' : HO} (h : H p = some (.lst xs)) (e : H q = some o) (n : o ≠ .lst xs) : (upd H q o') p = some (.lst xs) := by
  rw [upd_ne (ne_of h e (Ne.symm n))]
  exact h
theorem cutV_take {ss : List Str} {n : Nat} (h : n ≤ ss.length) : cutV (ss.map V.str) none (some (n : Int)) = (ss.take n).map V.str := by
  unfold cutV
  have e1 : HT.sIx (ss.map V.str).length 0 none = 0 := rfl
  have e2 : HT.sIx (ss.map V.str).length (ss.map V.str).length (some (n : Int)) = n := by
    unfold HT.sIx
    rw [List.length_map]
    have hn : ¬ (n : Int) < 0 := by omega
    simp [hn]
    omega
  rw [e1, e2, List.drop_zero, Nat.sub_zero, List.map_take]
/-- a place below 3, 5: which -/
theorem three {v : Int} (h0 : 0 ≤ v) (h1 : v < 3) : v = 0 ∨ v = 1 ∨ v = 2 := by omega
theorem atS {ss : List Str} {v : Int} (h0 : 0 ≤ v) (h1 : v < ss.length) : ∃ n ∈ ss, atI (ss.map V.str) v = some (.str n) := by
  obtain ⟨k, rfl⟩ : ∃ k : Nat, v = k := ⟨v.toNat, by omega⟩
  have hk : k < ss.length := by omega
  exact ⟨ss[k], List.getElem_mem hk, atI_nat (by rw [List.getElem?_map, List.getElem?_eq_getElem hk]; rfl)⟩
theorem Own.key {r : Addr} {h : Hs} (o : Own K N H r h) : ∃ kvs, H r = some (.dK kvs) ∧ kvs.map (·.1) = (nms h).map Sum.inr := by
  obtain ⟨qs, kvs, h1, h2, h3, h4⟩ := o.ex
  exact ⟨kvs, h1, h2.keys⟩
theorem Own.nr {r : Addr} {h : Hs} (o : Own K N H r h) : N r := by
  obtain ⟨qs, kvs, h1, h2, h3, h4⟩ := o.ex
  exact h4 r List.mem_cons_self
end
theorem Rnd.ja {H : Hp} {j a r : Addr} {p : Int} (R : Rnd H j a p) (e : H r = none) : r ≠ j ∧ r ≠ a := by
  obtain ⟨ns, h1, _⟩ := R.ex
  exact ⟨(ne_of_none h1 e).symm, (ne_of_none R.at_ e).symm⟩
theorem Kp.fresh {H H' : Hp} {a r : Addr} {o : HO} (k : Kp a H H') (ea : H' a = some o) (e : H' r = none) : H r = none := by
  cases z : H r with
  | none => rfl
  | some u =>
    by_cases h : r = a
    · rw [h, ea] at e
      cases e
    · rw [k r u h z] at e
      cases e
end TU

set_option Elab.async false
set_option linter.all false
set_option maxRecDepth 100000
namespace TU
open PySem PySem.Spec PyProof.Rows L2
theorem atI_last {xs : List V} {u : V} : atI (xs ++ [u]) (((xs ++ [u]).length : Int) - 1) = some u := by
  have e : (((xs ++ [u]).length : Int) - 1) = (xs.length : Nat) := by
    rw [List.length_append]
    show ((xs.length + 1 : Nat) : Int) - 1 = _
    omega
  rw [e]
  exact atI_nat (List.getElem?_concat_length ..)
/-- a test of two halves, its end written once -/
theorem q_two {σ : L2.St} {H : Hp} {p : Prop} [Decidable p] {c : TT} {R : Bool → Hp → Prop} {PP : Bool → Prop} (hR : ∀ b, PP b → R b H) (h1 : p → ∃ b, PP b ∧ (R b H → c σ H R)) (h2 : ¬ p → PP false) : if decide p = true then c σ H R else R false H := by
  by_cases h : p
  · obtain ⟨b, x, y⟩ := h1 h
    rw [decide_eq_true h]
    exact q_t (y (hR b x))
  · rw [decide_eq_false h]
    exact q_f (hR false (h2 h))
theorem lk_cp : ∀ (h : Hs) (x : Str), lk (cpH h) x = (lk h x).map ord
  | [], x => rfl
  | p :: r, x => by
    show lk ((p.1, ord p.2) :: cpH r) x = _
    rw [lk_cons, lk_cons, lk_cp r x]
    by_cases e : p.1 = x
    · rw [if_pos e, if_pos e]
      rfl
    · rw [if_neg e, if_neg e]
theorem cp_eq {g g' : Hs} (nd : (nms g).Nodup) (hn : nms g = nms g') (he : ∀ x, (lk g x).map ord = (lk g' x).map ord) : cpH g = cpH g' :=
  ext_lk (by rw [nms_cp]; exact nd) (by rw [nms_cp, nms_cp]; exact hn) fun x => by rw [lk_cp, lk_cp]; exact he x
theorem cp_lk {g g' : Hs} (h : cpH g = cpH g') {k : Str} {t : Tab} (e : lk g k = some t) : ∃ t', lk g' k = some t' ∧ ord t = ord t' := by
  have := lk_cp g' k
  rw [← h, lk_cp g k, e] at this
  cases q : lk g' k with
  | none =>
    rw [q] at this
    cases this
  | some t' =>
    rw [q] at this
    exact ⟨t', rfl, Option.some.inj this⟩
theorem cp_no {g g' : Hs} (h : cpH g = cpH g') {k : Str} (e : lk g k = none) : lk g' k = none := by
  cases q : lk g' k with
  | none => rfl
  | some t' =>
    obtain ⟨t, e2, _⟩ := cp_lk h.symm q
    rw [e] at e2
    cases e2
theorem cp_nms {g g' : Hs} (h : cpH g = cpH g') : nms g = nms g' := by rw [← nms_cp g, h, nms_cp]
theorem ord_lk {t t' : Tab} (h : ord t = ord t') (x : Str) : lk t x = lk t' x := by rw [← lk_ord t, h, lk_ord]
theorem lk_mem_nms {β : Type} {l : List (Str × β)} {n : Str} (h : n ∈ nms l) : ∃ d, lk l n = some d := by
  cases e : lk l n with
  | none => exact absurd h (lk_none.mp e)
  | some d => exact ⟨d, rfl⟩
theorem mem_of_ord {t t' : Tab} (h : ord t = ord t') {n : Str} (m : n ∈ nms t) : n ∈ nms t' := by
  obtain ⟨d, e⟩ := lk_mem_nms m
  rw [ord_lk h] at e
  exact mem_nms (lk_mem e)
theorem cp_put {g g' : Hs} (w : Wf g) (h : cpH g = cpH g') {k : Str} {t t' u u' : Tab} (e : lk g k = some t) (e' : lk g' k = some t') (hu : ord u = ord u') : cpH (put g k u) = cpH (put g' k u') := by
  have m : k ∈ nms g := mem_nms (lk_mem e)
  have m' : k ∈ nms g' := mem_nms (lk_mem e')
  refine cp_eq (by rw [nms_put_of m]; exact w.nd) (by rw [nms_put_of m, nms_put_of m', cp_nms h]) fun x => ?_
  rw [lk_put, lk_put]
  by_cases c : x = k
  · rw [if_pos c, if_pos c]
    exact congrArg some hu
  · rw [if_neg c, if_neg c, ← lk_cp, ← lk_cp, h]
theorem app1_cp {g g' h : Hs} {e : Ed} (w : Wf g) (w' : Wf g') (hc : cpH g = cpH g') (ha : app1 g e = .ok h) : ∃ h', app1 g' e = .ok h' ∧ cpH h = cpH h' := by
  cases q : lk g e.key with
  | none =>
    simp only [app1, q] at ha
    cases ha
  | some t =>
    obtain ⟨t', q', ho⟩ := cp_lk hc q
    have wt := w.tab _ (lk_mem q)
    have wt' := w'.tab _ (lk_mem q')
    cases e with
    | put k n x =>
      simp only [app1, q] at ha
      cases ha
      refine ⟨put g' k (put t' n x), by simp only [app1, q'], cp_put w hc q q' (ord_perm (nd_put wt.1 _ _) (nd_put wt'.1 _ _) fun y => ?_)⟩
      rw [lk_put, lk_put, ord_lk ho]
    | drop k n =>
      by_cases hn : n ∈ nms t
      · simp only [app1, q, if_pos hn] at ha
        cases ha
        refine ⟨put g' k (del t' n), by simp only [app1, q', if_pos (mem_of_ord ho hn)], cp_put w hc q q' (ord_perm (nd_del wt.1 _) (nd_del wt'.1 _) fun y => ?_)⟩
        rw [lk_del wt.1, lk_del wt'.1, ord_lk ho]
      · simp only [app1, q, if_neg hn] at ha
        cases ha
theorem app1_err {g : Hs} {e : Ed} {x : Str × Str} (w : Wf g) (ha : app1 g e = .error x) : app1 (cpH g) e = .error x := by
  cases q : app1 (cpH g) e with
  | ok h =>
    obtain ⟨h', q2, _⟩ := app1_cp w.cp w (cp_cp w) q
    rw [ha] at q2
    cases q2
  | error y =>
    cases e1 : lk g e.key with
    | none =>
      simp only [app1, lk_cp, e1, Option.map] at ha q
      rw [← ha, ← q]
    | some t =>
      cases e with
      | put k n d =>
        simp only [app1, e1] at ha
        cases ha
      | drop k n =>
        simp only [app1, e1] at ha
        simp only [app1, lk_cp, e1, Option.map] at q
        split at ha
        · cases ha
        · split at q
          · cases q
          · rw [← ha, ← q]
theorem inv1_cp {g g' : Hs} {e : Ed} (hc : cpH g = cpH g') : inv1 g e = inv1 g' e := by
  cases q : lk g e.key with
  | none => simp only [inv1, q, cp_no hc q]
  | some t =>
    obtain ⟨t', q', ho⟩ := cp_lk hc q
    simp only [inv1, q, q', ord_lk ho]
theorem app1_wf {h h' : Hs} {e : Ed} (w : Wf h) (im : e.Imm) (ha : app1 h e = .ok h') : Wf h' ∧ nms h' = nms h := by
  have f : ∃ n, Fits n h := by
    clear w im ha h' e
    induction h with
    | nil => exact ⟨0, fun p hp => nomatch hp⟩
    | cons p r ih =>
      obtain ⟨n, f⟩ := ih
      refine ⟨max n p.2.length, fun q hq => ?_⟩
      rcases List.mem_cons.mp hq with e | m
      · rw [e]
        exact Nat.le_max_right _ _
      · exact Nat.le_trans (f q m) (Nat.le_max_left _ _)
  obtain ⟨n, f⟩ := f
  obtain ⟨a, _, b⟩ := app1_ok w im f ha
  exact ⟨a, b⟩
/-- one edit and what leads back from it -/
theorem undo1 {g h : Hs} {e : Ed} (w : Wf g) (ha : app1 g e = .ok h) : ∃ r, app1 h (inv1 g e) = .ok r ∧ cpH r = cpH g := by
  cases q : lk g e.key with
  | none =>
    simp only [app1, q] at ha
    cases ha
  | some t =>
    have wt := w.tab _ (lk_mem q)
    have m : e.key ∈ nms g := mem_nms (lk_mem q)
    obtain ⟨t1, rfl, nd1, ht1⟩ : ∃ t1, h = put g e.key t1 ∧ (nms t1).Nodup ∧ ∀ x, x ≠ e.name → lk t1 x = lk t x := by
      cases e with
      | put k n x =>
        simp only [app1, q] at ha
        cases ha
        exact ⟨_, rfl, nd_put wt.1 _ _, fun y hy => by rw [lk_put]; exact if_neg hy⟩
      | drop k n =>
        by_cases hn : n ∈ nms t
        · simp only [app1, q, if_pos hn] at ha
          cases ha
          exact ⟨_, rfl, nd_del wt.1 _, fun y hy => by rw [lk_del wt.1]; exact if_neg hy⟩
        · simp only [app1, q, if_neg hn] at ha
          cases ha
    have lh : lk (put g e.key t1) e.key = some t1 := by rw [lk_put, if_pos rfl]
    have key : ∀ u, ord u = ord t → cpH (put (put g e.key t1) e.key u) = cpH g := fun u hu => by
      have m2 : e.key ∈ nms (put g e.key t1) := mem_nms (lk_mem lh)
      refine cp_eq (by rw [nms_put_of m2, nms_put_of m]; exact w.nd) (by rw [nms_put_of m2, nms_put_of m]) fun x => ?_
      rw [lk_put, lk_put]
      by_cases c : x = e.key
      · rw [if_pos c, c, q]
        exact congrArg some hu
      · rw [if_neg c, if_neg c]
    cases q2 : lk t e.name with
    | some d =>
      have hi : inv1 g e = .put e.key e.name d := by simp only [inv1, q, q2]
      refine ⟨_, ?_, key (put t1 e.name d) (ord_perm (nd_put nd1 _ _) wt.1 fun x => ?_)⟩
      · rw [hi]
        unfold app1
        rw [show (Ed.put e.key e.name d).key = e.key from rfl, lh]
      · rw [lk_put]
        by_cases c : x = e.name
        · rw [if_pos c, c, q2]
        · rw [if_neg c, ht1 x c]
    | none =>
      have hi : inv1 g e = .drop e.key e.name := by simp only [inv1, q, q2]
      have hin : e.name ∈ nms t1 := by
        cases e with
        | put k n x =>
          simp only [app1, q] at ha
          have e1 : put g k (put t n x) = put g k t1 := Except.ok.inj ha
          have e2 : lk (put g k (put t n x)) k = lk (put g k t1) k := by rw [e1]
          rw [lk_put, lk_put, if_pos rfl, if_pos rfl] at e2
          rw [← Option.some.inj e2]
          exact mem_nms (lk_mem (v := x) (by rw [lk_put]; exact if_pos rfl))
        | drop k n =>
          have hn : n ∉ nms t := lk_none.mp q2
          simp only [app1, q, if_neg hn] at ha
          cases ha
      refine ⟨_, ?_, key (del t1 e.name) (ord_perm (nd_del nd1 _) wt.1 fun x => ?_)⟩
      · rw [hi]
        unfold app1
        rw [show (Ed.drop e.key e.name).key = e.key from rfl, lh]
        exact if_pos hin
      · rw [lk_del nd1]
        by_cases c : x = e.name
        · rw [if_pos c, c, q2]
        · rw [if_neg c, ht1 x c]
theorem appAll_cp : ∀ {es : List Ed} {g g' h : Hs}, (∀ e ∈ es, e.Imm) → Wf g → Wf g' → cpH g = cpH g' → appAll g es = .ok h → ∃ h', appAll g' es = .ok h' ∧ cpH h = cpH h'
  | [], g, g', h, im, w, w', hc, ha => by
    cases ha
    exact ⟨g', rfl, hc⟩
  | e :: es, g, g', h, im, w, w', hc, ha => by
    rw [appAll_cons] at ha
    cases q : app1 g e with
    | error x =>
      rw [q] at ha
      cases ha
    | ok g1 =>
      rw [q] at ha
      obtain ⟨g2, q2, hc2⟩ := app1_cp w w' hc q
      have im1 := im e List.mem_cons_self
      obtain ⟨h', a, b⟩ := appAll_cp (fun x hx => im x (List.mem_cons_of_mem _ hx)) (app1_wf w im1 q).1 (app1_wf w' im1 q2).1 hc2 ha
      exact ⟨h', by rw [appAll_cons, q2]; exact a, b⟩
theorem appAll_wf : ∀ {es : List Ed} {g h : Hs}, (∀ e ∈ es, e.Imm) → Wf g → appAll g es = .ok h → Wf h ∧ nms h = nms g
  | [], g, h, im, w, ha => by
    cases ha
    exact ⟨w, rfl⟩
  | e :: es, g, h, im, w, ha => by
    rw [appAll_cons] at ha
    cases q : app1 g e with
    | error x =>
      rw [q] at ha
      cases ha
    | ok g1 =>
      rw [q] at ha
      obtain ⟨w1, n1⟩ := app1_wf w (im e List.mem_cons_self) q
      obtain ⟨w2, n2⟩ := appAll_wf (fun x hx => im x (List.mem_cons_of_mem _ hx)) w1 ha
      exact ⟨w2, n2.trans n1⟩
theorem invs_imm : ∀ {es : List Ed} {g : Hs}, (∀ e ∈ es, e.Imm) → Wf g → ∀ e ∈ invs g es, e.Imm
  | [], g, im, w, e, he => nomatch he
  | e :: es, g, im, w, x, hx => by
    unfold invs at hx
    rcases List.mem_cons.mp hx with rfl | hx
    · exact inv1_imm w e
    · cases q : app1 g e with
      | error z =>
        rw [q] at hx
        cases hx
      | ok g1 =>
        rw [q] at hx
        exact invs_imm (fun x hx => im x (List.mem_cons_of_mem _ hx)) (app1_wf w (im e List.mem_cons_self) q).1 x hx
theorem invs_cp : ∀ {es : List Ed} {g g' h : Hs}, (∀ e ∈ es, e.Imm) → Wf g → Wf g' → cpH g = cpH g' → appAll g es = .ok h → invs g es = invs g' es
  | [], g, g', h, im, w, w', hc, ha => rfl
  | e :: es, g, g', h, im, w, w', hc, ha => by
    rw [appAll_cons] at ha
    cases q : app1 g e with
    | error x =>
      rw [q] at ha
      cases ha
    | ok g1 =>
      rw [q] at ha
      obtain ⟨g2, q2, hc2⟩ := app1_cp w w' hc q
      have im1 := im e List.mem_cons_self
      have := invs_cp (fun x hx => im x (List.mem_cons_of_mem _ hx)) (app1_wf w im1 q).1 (app1_wf w' im1 q2).1 hc2 ha
      unfold invs
      rw [q, q2, inv1_cp hc]
      exact congrArg _ this
/-- all the edits, and all that lead back -/
theorem undoAll : ∀ {es : List Ed} {g h : Hs}, (∀ e ∈ es, e.Imm) → Wf g → appAll g es = .ok h → ∃ r, appAll h (invs g es).reverse = .ok r ∧ cpH r = cpH g
  | [], g, h, im, w, ha => by
    cases ha
    exact ⟨g, rfl, rfl⟩
  | e :: es, g, h, im, w, ha => by
    rw [appAll_cons] at ha
    cases q : app1 g e with
    | error x =>
      rw [q] at ha
      cases ha
    | ok g1 =>
      rw [q] at ha
      have im1 := im e List.mem_cons_self
      have ims : ∀ x ∈ es, x.Imm := fun x hx => im x (List.mem_cons_of_mem _ hx)
      have w1 := (app1_wf w im1 q).1
      obtain ⟨r1, a1, b1⟩ := undoAll ims w1 ha
      obtain ⟨r2, a2, b2⟩ := undo1 w q
      have wh := (appAll_wf ims w1 ha).1
      have wr1 : Wf r1 := (appAll_wf (fun x hx => invs_imm ims w1 x (List.mem_reverse.mp hx)) wh a1).1
      obtain ⟨r3, a3, b3⟩ := app1_cp w1 wr1 b1.symm a2
      refine ⟨r3, ?_, b3.symm.trans b2⟩
      have hi : invs g (e :: es) = inv1 g e :: invs g1 es := by
        conv => lhs; unfold invs
        rw [q]
      rw [hi, List.reverse_cons, appAll_append, a1]
      exact (appAll_one r1 _).trans a3
end TU

set_option Elab.async false
set_option linter.all false
set_option maxRecDepth 100000
namespace TU
open PySem PySem.Spec PyProof.Rows L2
/-- except Unknown as error: return (error.what, error.name) -/
theorem catchU {K : PySem.W.Frag} {C : Addr} {w n : Str} {i : Nat} {Wout : WX} {D : Ends} {σ : L2.St} {H1 : Hp} (te : PySem.W.exmOne K (.ref C) (.ref C) = some true) (hi : i < σ.length) (h : ∀ p H', Same H1 H' → H' p = some (.tup [.str w, .str n]) → D.rt (.ref p) H') :
    XUnk C w n H1 (WE (wAs K (.ref C) i (fun a cls d => tRet (tTup (tCons (tXf a cls d C "what" (tVar i)) (tCons (tXf a cls d C "name" (tVar i)) tNil)))) Wout D) σ) := by
  intro d H' s e
  refine ⟨true, te, fun _ a ha => ?_, fun z => by cases z⟩
  have hv : (σ.set i (some (V.ref a)))[i]? = some (some (V.ref a)) := by
    rw [List.getElem?_set_self hi]
  refine q_ret (q_tup (q_cons ?_))
  refine ⟨_, hv, rfl, rfl, d, _, .str w, rfl, e, rfl, ?_⟩
  refine q_cons ⟨_, hv, rfl, rfl, d, _, .str n, rfl, e, rfl, ?_⟩
  refine q_nil (q_size (show 2 ≤ 1000 by decide) fun p hp => ?_)
  exact h p _ (s.trans (same_new hp)) upd_same
theorem last_of {K : PySem.W.Frag} {H : Hp} {N : Addr → Prop} {xs : List V} {es : List Ed} (t : Ts K H N xs (es.map Ed.tr)) (h : 1 ≤ es.length) : ∃ u e, atI xs ((xs.length : Int) - 1) = some u ∧ es.getLast? = some e ∧ T K H N u e.tr := by
  have hl : xs.length = es.length := by rw [t.length, List.length_map]
  have hk : xs.length - 1 < xs.length := by omega
  have hu := List.getElem?_eq_getElem hk
  obtain ⟨d, g1, g2⟩ := t.gets hu
  obtain ⟨e, he, rfl⟩ := map_at g1
  refine ⟨_, e, ?_, ?_, g2⟩
  · have e1 : ((xs.length : Int) - 1) = (xs.length - 1 : Nat) := by omega
    rw [e1]
    exact atI_nat hu
  · rw [List.getLast?_eq_getElem?, ← hl]
    exact he
/-- the error that one call raises, as a pair; ("", "") where none -/
def refOf (h : Hs) (es : List Ed) (how : Int) : Str × Str :=
  if how = 0 ∨ how = 1 then (match appAll (cpH h) es with | .ok _ => ("", "") | .error x => x)
  else if how = 2 ∨ how = 3 then (match es.getLast? with | none => ("", "") | some e => (match app1 (cpH h) e with | .ok _ => ("", "") | .error x => x))
  else (if (lk h "x9").isSome = true then ("", "") else ("table", "x9"))

theorem q_neP {K : PySem.W.Frag} {H : Hp} {Q : VK} {p q : Addr} {a b : Str} (hp : SqT K H p [.str a, .str b]) (hq : SqT K H q [.str a, .str b]) (k : Q (.bl false) H) : rNeU K (.ref p) (.ref q) H Q := by
  refine q_neT (P := ff) (d := .tup [.str a, .str b]) (e := .tup [.str a, .str b]) (.tup hp (.cons (.str _) (.cons (.str _) .nil))) (.tup hq (.cons (.str _) (.cons (.str _) .nil))) rfl rfl (show (1 : Nat) ≤ 60 by decide) ?_
  rw [eqb_refl rfl]
  exact k
theorem q_eqP {K : PySem.W.Frag} {H : Hp} {Q : VK} {p q : Addr} {a b : Str} (hp : SqT K H p [.str a, .str b]) (hq : SqT K H q [.str a, .str b]) (k : Q (.bl true) H) : rEqU K (.ref p) (.ref q) H Q := by
  refine q_eqT (P := ff) (d := .tup [.str a, .str b]) (e := .tup [.str a, .str b]) (.tup hp (.cons (.str _) (.cons (.str _) .nil))) (.tup hq (.cons (.str _) (.cons (.str _) .nil))) rfl rfl (show (1 : Nat) ≤ 60 by decide) ?_
  rw [eqb_refl rfl]
  exact k
/-- all names are of a list -/
def Nam (L : List Str) (h : Hs) : Prop := ∀ q ∈ h, ∀ x ∈ q.2, x.1 ∈ L
theorem Nam.cp {L : List Str} {h : Hs} (n : Nam L h) : Nam L (cpH h) := fun q hq x hx => by
  obtain ⟨p, hp, rfl⟩ := List.mem_map.mp hq
  have m : x.1 ∈ nms (ord p.2) := mem_nms hx
  rw [nms_ord] at m
  obtain ⟨y, hy, e⟩ := List.mem_map.mp ((srt_perm _).mem_iff.mp m)
  rw [← e]
  exact n p hp y hy
theorem app1_nam {L : List Str} {h h' : Hs} {e : Ed} (n : Nam L h) (hn : e.name ∈ L) (ha : app1 h e = .ok h') : Nam L h' := by
  cases q : lk h e.key with
  | none =>
    simp only [app1, q] at ha
    cases ha
  | some t =>
    have hm := lk_mem q
    cases e with
    | put k m d =>
      simp only [app1, q] at ha
      cases ha
      intro p hp x hx
      rcases mem_put hp with c | c
      · exact n p c x hx
      · rw [c] at hx
        rcases mem_put hx with c2 | c2
        · exact n _ hm x c2
        · rw [c2]
          exact hn
    | drop k m =>
      by_cases hin : m ∈ nms t
      · simp only [app1, q, if_pos hin] at ha
        cases ha
        intro p hp x hx
        rcases mem_put hp with c | c
        · exact n p c x hx
        · rw [c] at hx
          exact n _ hm x (mem_del hx)
      · simp only [app1, q, if_neg hin] at ha
        cases ha
theorem appAll_nam {L : List Str} : ∀ {es : List Ed} {h h' : Hs}, Nam L h → (∀ e ∈ es, e.name ∈ L) → appAll h es = .ok h' → Nam L h'
  | [], h, h', n, hn, ha => by
    cases ha
    exact n
  | e :: es, h, h', n, hn, ha => by
    rw [appAll_cons] at ha
    cases q : app1 h e with
    | error x =>
      rw [q] at ha
      cases ha
    | ok h1 =>
      rw [q] at ha
      exact appAll_nam (app1_nam n (hn e List.mem_cons_self) q) (fun x hx => hn x (List.mem_cons_of_mem _ hx)) ha
theorem app1_tab {h : Hs} {e : Ed} (m : e.key ∉ nms h) : app1 h e = .error ("table", e.key) := by
  have q := lk_none.mpr m
  simp only [app1, q]
theorem app1_drop {L : List Str} {h : Hs} {k n : Str} (m : k ∈ nms h) (nm : Nam L h) (hn : n ∉ L) : app1 h (.drop k n) = .error (k, n) := by
  obtain ⟨t, q⟩ := lk_mem_nms m
  have c : n ∉ nms t := fun z => by
    obtain ⟨x, hx, e⟩ := List.mem_map.mp z
    rw [← e] at hn
    exact hn (nm _ (lk_mem q) x hx)
  unfold app1
  rw [show (Ed.drop k n).key = k from rfl, q]
  exact if_neg c
theorem ref_how {h f : Hs} {es : List Ed} {e : Ed} {x : Str × Str} {how : Nat} (ha : appAll (cpH h) es = .ok f) (hf : app1 f e = .error x) (hh : app1 (cpH h) e = .error x) (hw : how < 4) : refOf h (es ++ [e]) (0 + how) = x := by
  unfold refOf
  by_cases c : ((0 : Int) + how = 0 ∨ (0 : Int) + how = 1)
  · rw [if_pos c, appAll_append, ha]
    show (match appAll f [e] with | .ok _ => ("", "") | .error x => x) = x
    rw [appAll_one, hf]
  · rw [if_neg c, if_pos (by omega), List.getLast?_concat]
    simp only [hh]
end TU

set_option Elab.async false
set_option linter.all false
set_option maxRecDepth 100000
namespace TU
open PySem PySem.Spec PyProof.Rows L2
/-! ### the outermost call: there no repr runs, so that its guards are known -/
def TopOk (P : Program) (w : World) (K : PySem.W.Frag) (mg : Str → Option Value) (base : Heap) (fa : Addr) (sp : Sp) : Prop := ∀ (z : Shared) (G : Hp) (a : Addr) (Q : VK) (E : XK), Env0 P w K mg base callerA [] z G → sp [.ref a] G Q E →
  codeAny (model P w) callerA (.call (.ref fa) ⟨[.ref a], []⟩) (CR (L2.CX P w) [] P w G z Q E) z
theorem top_ok {P : Program} {w : World} {K : PySem.W.Frag} {mg : Str → Option Value} {base : Heap} {x y : Str} {st : Stmt} {N : List Str} {k : Nat} {sp : Sp} (F : TopF K mg x st [y]) (S : FnScope N [y] (defScope st)) (hr : Room (k + 1) callerA)
    (hbody : ∀ (f : Addr) (cdv : Value) (A : Around) (s : Shared) (H : Hp) (vs : List V) (Q : VK) (E : XK), A.guards = some [] → Room k (A.deeper (envOfC x (defScope st) s.heap.objs.size f cdv)) → sp vs H Q E →
      ∃ t, PSs (cxOf (L2.CX P w) P w K mg base N x (defScope st) f cdv A [] s H E) (defBody st) t ∧ t { nx := fun _ H' => Q .non H', rt := Q } (L2.start N vs) H) : ∃ fa, mg x = some (.ref fa) ∧ TopOk P w K mg base fa sp := by
  obtain ⟨f, fd, F0, hm, hb⟩ := F.ex
  obtain ⟨oc, od, kV, doc, pm, an, cdv, ct, osl, rfl, lk, hcd⟩ := F0.ex
  refine ⟨f, hm, fun z G a Q E e0 h => ?_⟩
  have old := fun b o e => (e0.bs b o e).1
  have kin := e0.mod.kin.keeps old
  have fit : ∀ p ∈ [y].zip [Value.ref a], (defScope st).names.lookup p.1 = some .local ∨ ((defScope st).names.lookup p.1 = some .cell ∧ ((cellsFrom (z.heap.objs.size + 1) (defScope st).names []).lookup p.1).isSome = true) := by
    rintro ⟨n, v⟩ m
    exact (S.par n (List.of_mem_zip m).1).imp id fun q => ⟨q, PySem.W.cellsFrom_some _ _ _ (.inl q)⟩
  refine codeAny_call_function hr.depth (kin _ _ lk) rfl S.co S.gen rfl (PySem.W.codeRec_of kin hcd) ?_
  refine hb z [.ref a] kin rfl _ _ _ _ ?_
  refine wpAny_newFunctionEnv_cells S.kind fit fun env he z1 x1 => ?_
  subst he
  refine ⟨(e0.mod.nolimit.keeps old).keeps x1.toInCall.keep, codeAny_func ?_⟩
  obtain ⟨t, ht, hq⟩ := hbody f cdv callerA z G [.ref a] Q E rfl (hr.deeper _) h
  refine wpAny_mono (ht.run [] z1 (L2.start N [.ref a]) G _ (inv_start S hr.hd e0 rfl (.cons rfl .nil) x1) hq) (fun fl z2 hs => ?_) fun _ _ hs => hs
  cases fl with
  | ret u =>
    obtain ⟨v, _, G2, J, rv, q⟩ := hs
    exact ⟨v, G2, J.os, J.bare, J.base, J.hok, rv, q⟩
  | next =>
    obtain ⟨_, G2, J, q⟩ := hs
    exact ⟨.non, G2, J.os, J.bare, J.base, J.hok, rfl, q⟩
  | brk => exact hs.elim fun _ r => r.elim fun _ r => r.2.elim
  | cont => exact hs.elim fun _ r => r.elim fun _ r => r.2.elim
/-- a law's promise: True of a list of up to 63 numbers -/
def spLaw (K : PySem.W.Frag) : Sp := fun vs H Q _ => ∃ (a : Addr) (ns : List Int), vs = [.ref a] ∧ SqL K H a (ns.map V.int) ∧ ns.length ≤ 63 ∧ ∀ H', Q (.bl true) H'
theorem top_walk {l : PySem.W.OpenLaw} {q : Program} {loose : List Str} {XP : (Str → Option Value) → Heap → Prop} {YP : World → Heap → Prop} {d : DefRec} {K : Params → PySem.W.Frag} (hn : l.most = some 63) (hdf : d.params.defaults = [])
    (hY : ∀ (w : World) (h : Heap), YP w h → (K w.params).In h)
    (F : ∀ (w : World) (mg : Str → Option Value) (fa : Addr) (h : Heap), (K w.params).In h → h.Ns mainGlobals mg → mg d.name = some (.ref fa) →
      ∀ base : Heap, (K w.params).In base → base.Ns mainGlobals mg → TopOk l.prog w (K w.params) mg base fa (spLaw (K w.params))) :
    PySem.W.WalkO q loose XP YP l.row.toRowW d [] (fun f vs => PySem.call f vs) := by
  refine Att.attach_call hn hdf fun w z0 z mg mb fa o pm cd doc a vs ns G Y ho hd hcd hmg hobj hints hlen hg => ?_
  have kin := hY w _ Y
  have size : ns.length ≤ sizeLine := Nat.le_trans hlen (by decide)
  have rel := vals_ints hints
  have obj : ObjOk l.prog w (fun b => if b = a then some (HO.frz { cls := .type "list", data := .seq vs.toArray } (.lst (ns.map V.int))) else none) z.heap a (.frz { cls := .type "list", data := .seq vs.toArray } (.lst (ns.map V.int))) := ⟨hobj, by rw [List.length_map]; exact size, vs, _, rel, hobj⟩
  -- the tracked heap: the script alone, or nothing where the module knows it
  obtain ⟨T, t1, t2, t3, t4⟩ : ∃ T : Hp, SqL (K w.params) T a (ns.map V.int) ∧ HOk l.prog w T z.heap ∧ (∀ b u, T b = some u → b = a ∧ ∃ o xs, u = .frz o (.lst xs)) ∧ (T a ≠ none → (K w.params).lookup a = none) := by
    cases lk : (K w.params).lookup a with
    | none =>
      refine ⟨fun b => if b = a then some (HO.frz { cls := .type "list", data := .seq vs.toArray } (.lst (ns.map V.int))) else none, .inl (.inr ⟨{ cls := .type "list", data := .seq vs.toArray }, if_pos rfl⟩), fun b u e => ?_, fun b u e => ?_, fun _ => rfl⟩
      all_goals
        by_cases c : b = a
        · have e2 := (if_pos c).symm.trans e
          cases e2
          subst c
          first | exact obj | exact ⟨rfl, _, _, rfl⟩
        · have e2 := (if_neg c).symm.trans e
          cases e2
    | some u =>
      have e := kin a u lk
      rw [hobj] at e
      cases e
      exact ⟨fun _ => none, .inr ⟨_, vs.toArray, _, lk, rfl, rfl, rfl, by rw [List.size_toArray, hints.length]; exact size, by simpa using rel⟩, (fun _ _ e => nomatch e), (fun _ _ e => nomatch e), fun c => absurd rfl c⟩
  have dic : ∀ {b : Addr} {ob : Obj} {es : Array DictEntry} {n : Nat}, z.heap.get? b = some ob → ob.data = .dict es n → T b = none := fun {b ob es n} e1 e2 => by
    cases c : T b with
    | none => rfl
    | some u =>
      have e3 := (t3 b u c).1
      subst e3
      rw [hobj] at e1
      cases e1
      exact nomatch e2
  have ns1 : ∀ {b : Addr} {m : Str → Option Value}, z.heap.Ns b m → (hidT z.heap T).Ns b m := fun ⟨ob, es, n, e1, e2, r⟩ => ⟨ob, es, n, hidT_get e1 (dic e1 e2), e2, r⟩
  have kin1 : (K w.params).In (hidT z.heap T) := fun b ob e => hidT_get (kin b ob e) (by
    cases c : T b with
    | none => rfl
    | some u =>
      have e3 := (t3 b u c).1
      subst e3
      rw [t4 (by rw [c]; exact fun z => nomatch z)] at e
      cases e)
  have env : Env0 l.prog w (K w.params) mg (hidT z.heap T) callerA [] z T := by
    refine ⟨rfl, ⟨kin1, ns1 G.T.g, ⟨mb, ns1 G.T.b, G.T.builtins⟩, ?_⟩, fun b ob e => of_hidT e, Nat.le_of_eq (hidT_size _ _), trivial, (fun b m => nomatch (show b ∈ ([] : List Addr) from m)), t2, .of_eq hg⟩
    obtain ⟨mc, h1, h2⟩ := G.T.nolimit
    exact ⟨mc, ns1 h1, h2⟩
  refine codeAny_mono (F w mg fa _ kin G.T.g hmg _ kin1 (ns1 G.T.g) z T a (fun v _ => v = .bl true) (fun _ _ _ => False) env ⟨a, ns, rfl, t1, hlen, fun _ => rfl⟩) fun r z2 hr => ?_
  match r, hr with
  | .error e, hr => exact False.elim (by
      obtain ⟨_, _, _, _, _, _, _, _, _, _, _, _, x⟩ := hr
      exact x)
  | .ok .next, hr => exact hr.elim
  | .ok .brk, hr => exact hr.elim
  | .ok .cont, hr => exact hr.elim
  | .ok (.ret u), ⟨v, T2, os, bare, un, ok2, rv, hv⟩ =>
    have hv2 : v = .bl true := hv
    subst hv2
    have e : u = Value.bool true := rv
    subst e
    refine ⟨rfl, OldK.of_keep fun b ob e => ?_, os, bare⟩
    cases c : T b with
    | none => exact un.keep b ob e c (fun m => nomatch (show b ∈ ([] : List Addr) from m)) (fun m => nomatch (show b ∈ ([] : List Addr) from m))
    | some u =>
      obtain ⟨_, o2, xs, rfl⟩ := t3 b u c
      obtain ⟨g1, _⟩ := t2 b _ c
      obtain ⟨g2, _⟩ := ok2 b _ (un.frzs b o2 _ c)
      rw [e] at g1
      cases g1
      exact g2
end TU

set_option Elab.async false
set_option linter.all false
set_option maxRecDepth 100000
namespace TU
open PySem PySem.Spec PyProof.Rows L2
/-! ### what repr shows, and how long that may be -/
/-- of size n, depth m; j: no list within -/
structure Vw (n m : Nat) (j : Bool) (d : Tr) : Prop where
  sh : (py d).showable = true
  sl : (py d).leavesShort 13 = true
  bk : (py d).bulk ≤ n
  dp : dep d ≤ m
  nl : j = true → nol d = true
theorem Vw.le {n m n' m' : Nat} {j : Bool} {d : Tr} (v : Vw n m j d) (h : n ≤ n') (h' : m ≤ m') : Vw n' m' j d := ⟨v.sh, v.sl, Nat.le_trans v.bk h, Nat.le_trans v.dp h', v.nl⟩
structure Vws (n m : Nat) (j : Bool) (ds : List Tr) : Prop where
  sh : PyData.showableAll (pys ds) = true
  sl : PyData.leavesShortAll 13 (pys ds) = true
  bk : PyData.bulkAll (pys ds) ≤ n
  dp : deps ds ≤ m
  nl : j = true → nols ds = true
theorem Vws.nil {m : Nat} {j : Bool} : Vws 0 m j [] := ⟨rfl, rfl, Nat.le_refl _, Nat.zero_le _, fun _ => rfl⟩
theorem Vws.cons {a b m : Nat} {j : Bool} {d : Tr} {ds : List Tr} (v : Vw a m j d) (vs : Vws b m j ds) : Vws (a + 1 + b) m j (d :: ds) := by
  refine ⟨?_, ?_, ?_, Nat.max_le.mpr ⟨v.dp, vs.dp⟩, fun h => ?_⟩
  · simp only [pys, PyData.showableAll, v.sh, vs.sh, Bool.and_self]
  · simp only [pys, PyData.leavesShortAll, v.sl, vs.sl, Bool.and_self]
  · have := v.bk
    have := vs.bk
    simp only [pys, PyData.bulkAll]
    omega
  · simp only [nols, v.nl h, vs.nl h, Bool.and_self]
theorem Vws.all {a m : Nat} {j : Bool} : ∀ {ds : List Tr}, (∀ d ∈ ds, Vw a m j d) → Vws ((a + 1) * ds.length) m j ds
  | [], _ => .nil
  | d :: ds, h => by
    have v := Vws.cons (h d List.mem_cons_self) (Vws.all fun x hx => h x (List.mem_cons_of_mem _ hx))
    rw [List.length_cons, Nat.mul_add, Nat.mul_one, Nat.add_comm]
    exact v
theorem Vw.tup {n m : Nat} {j : Bool} {ds : List Tr} (v : Vws n m j ds) : Vw n (m + 1) j (.tup ds) := ⟨by simp only [py, PyData.showable]; exact v.sh, by simp only [py, PyData.leavesShort]; exact v.sl, by simp only [py, PyData.bulk]; exact v.bk, Nat.succ_le_succ v.dp, fun h => by simp only [nol]; exact v.nl h⟩
theorem Vw.lst {n m : Nat} {j : Bool} {ds : List Tr} (v : Vws n m j ds) : Vw n (m + 1) false (.lst ds) := ⟨by simp only [py, PyData.showable]; exact v.sh, by simp only [py, PyData.leavesShort]; exact v.sl, by simp only [py, PyData.bulk]; exact v.bk, Nat.succ_le_succ v.dp, fun h => nomatch h⟩
theorem Vw.bl {b j : Bool} : Vw 0 0 j (.bl b) := ⟨rfl, rfl, Nat.le_refl _, Nat.le_refl _, fun _ => rfl⟩
theorem Vw.non {j : Bool} : Vw 0 0 j .non := ⟨rfl, rfl, Nat.le_refl _, Nat.le_refl _, fun _ => rfl⟩
/-- a text: each sign a sign -/
def Pla (n : Nat) (s : Str) : Prop := (s.cps.toList.all fun c => decide (c < 16 ^ 8)) = true ∧ s.cps.size ≤ n
instance (n : Nat) (s : Str) : Decidable (Pla n s) := inferInstanceAs (Decidable (_ ∧ _))
theorem Vw.str {n : Nat} {j : Bool} {s : Str} (h : Pla n s) : Vw n 0 j (.str s) := ⟨rfl, h.1, h.2, Nat.le_refl _, fun _ => rfl⟩
def Sho (i : Int) : Prop := i.natAbs.log2 < 1920 ∧ (PyData.shown (.int i)).length ≤ 13
instance (i : Int) : Decidable (Sho i) := inferInstanceAs (Decidable (_ ∧ _))
theorem Vw.int {j : Bool} {i : Int} (h : Sho i) : Vw 0 0 j (.int i) := ⟨decide_eq_true h.1, decide_eq_true h.2, Nat.le_refl _, Nat.le_refl _, fun _ => rfl⟩
theorem small_sho : ∀ k : Fin 1000, Sho (k.val : Int) := by decide +kernel
theorem sho_of {i : Int} (h0 : 0 ≤ i) (h1 : i < 1000) : Sho i := by
  have := small_sho ⟨i.toNat, by omega⟩
  rw [show (i : Int) = ((⟨i.toNat, by omega⟩ : Fin 1000).val : Int) from by show i = (i.toNat : Int); omega]
  exact this
/-- a dict whose keys are texts -/
structure Vwk (n m : Nat) (j : Bool) (ks : List (Key × Tr)) : Prop where
  sh : PyData.showableKv (pyk ks) = true
  sl : PyData.leavesShortKv 13 (pyk ks) = true
  bk : PyData.bulkKv (pyk ks) ≤ n
  dp : depk ks ≤ m
  nl : j = true → nolk ks = true
theorem Vwk.all {c a m : Nat} {j : Bool} : ∀ {ks : List (Key × Tr)}, (∀ p ∈ ks, (∃ s, p.1 = .inr s ∧ Pla c s) ∧ Vw a m j p.2) → Vwk ((c + a + 2) * ks.length) m j ks
  | [], _ => ⟨rfl, rfl, Nat.le_refl _, Nat.zero_le _, fun _ => rfl⟩
  | (k, d) :: ks, h => by
    obtain ⟨⟨s, e, ps⟩, v⟩ := h _ List.mem_cons_self
    have e' : k = .inr s := e
    subst e'
    have vs := Vwk.all fun p hp => h p (List.mem_cons_of_mem _ hp)
    refine ⟨?_, ?_, ?_, Nat.max_le.mpr ⟨v.dp, vs.dp⟩, fun q => ?_⟩
    · simp only [pyk, PyData.showableKv, PyData.showable, v.sh, vs.sh, Bool.and_self]
    · have e : (PyData.str s).leavesShort 13 = true := ps.1
      simp only [pyk, PyData.leavesShortKv, e, v.sl, vs.sl, Bool.and_self]
    · have b1 := v.bk
      have b2 := vs.bk
      have b3 := ps.2
      rw [List.length_cons, Nat.mul_add, Nat.mul_one]
      simp only [pyk, PyData.bulkKv, PyData.bulk]
      simp only at b1
      omega
    · simp only [nolk, v.nl q, vs.nl q, Bool.and_self]
theorem Vw.dic {n m : Nat} {j : Bool} {ks : List (Key × Tr)} (v : Vwk n m j ks) : Vw n (m + 1) j (.dic ks) := ⟨by simp only [py, PyData.showable]; exact v.sh, by simp only [py, PyData.leavesShort]; exact v.sl, by simp only [py, PyData.bulk]; exact v.bk, Nat.succ_le_succ v.dp, fun h => by simp only [nol]; exact v.nl h⟩
theorem Vw.len {n m : Nat} {j : Bool} {d : Tr} (v : Vw n m j d) : (py d).shown.length ≤ 15 * n + 13 := by
  have h := PyData.shown_le_bulk 13 (by decide) (py d) v.sl
  have : (13 + 2) * (py d).bulk ≤ 15 * n := Nat.mul_le_mul (by decide) v.bk
  omega
section
variable {K : PySem.W.Frag} {H : Hp} {Q : VK} {N : Addr → Prop} {a : Addr}
/-- repr of a tree without dicts, or without lists -/
theorem q_reprN {n m : Nat} {d : Tr} (t : T K H N (.ref a) d) (v : Vw n m true d) (hn : n ≤ 100000) (hm : m ≤ 60) (q : Q (.str (py d).shown) H) : rReprT K [.ref a] H Q :=
  ⟨N, a, d, rfl, t, v.sh, fun _ => v.nl rfl, Nat.le_trans v.dp hm, Nat.le_trans v.len (Nat.le_trans (show 15 * n + 13 ≤ 15 * 100000 + 13 by omega) (by decide)), q⟩
theorem q_reprL {n m : Nat} {j : Bool} {d : Tr} (t : T K H N (.ref a) d) (v : Vw n m j d) (nd : (py d).hasDict = false) (hn : n ≤ 100000) (hm : m ≤ 60) (q : Q (.str (py d).shown) H) : rReprT K [.ref a] H Q :=
  ⟨N, a, d, rfl, t, v.sh, (fun z => absurd (nd.symm.trans z) (by decide)), Nat.le_trans v.dp hm, Nat.le_trans v.len (Nat.le_trans (show 15 * n + 13 ≤ 15 * 100000 + 13 by omega) (by decide)), q⟩
mutual
theorem hasDict_py : ∀ d : Tr, nod d = true → (py d).hasDict = false
  | .non, _ => rfl
  | .bl _, _ => rfl
  | .int _, _ => rfl
  | .str _, _ => rfl
  | .lst xs, h => by
    simp only [py, PyData.hasDict]
    exact hasDict_pys xs (by simpa [nod] using h)
  | .tup xs, h => by
    simp only [py, PyData.hasDict]
    exact hasDict_pys xs (by simpa [nod] using h)
  | .dic _, h => by simp [nod] at h
theorem hasDict_pys : ∀ ds : List Tr, nods ds = true → PyData.hasDictAll (pys ds) = false
  | [], _ => rfl
  | x :: xs, h => by
    have h' : nod x = true ∧ nods xs = true := by simpa [nods] using h
    simp only [pys, PyData.hasDictAll, hasDict_py x h'.1, hasDict_pys xs h'.2, Bool.or_self]
end
end
end TU

set_option Elab.async false
set_option linter.all false
set_option maxRecDepth 100000
namespace TU
open PySem PySem.Spec PyProof.Rows L2
/-- all entries are such -/
def All (P : Tr → Prop) (h : Hs) : Prop := ∀ q ∈ h, ∀ x ∈ q.2, P x.2
def EdP (P : Tr → Prop) (e : Ed) : Prop := ∀ k n d, e = .put k n d → P d
section
variable {P : Tr → Prop}
theorem All.lk {h : Hs} (a : All P h) {k n : Str} {t : Tab} {d : Tr} (e : lk h k = some t) (e2 : lk t n = some d) : P d := a _ (lk_mem e) _ (lk_mem e2)
theorem All.cp {h : Hs} (a : All P h) : All P (cpH h) := fun q hq x hx => by
  obtain ⟨p, hp, rfl⟩ := List.mem_map.mp hq
  obtain ⟨n, hn, e⟩ := List.mem_map.mp (show x ∈ (srt (nms p.2)).map fun n => (n, (TU.lk p.2 n).getD default) from hx)
  have m : n ∈ nms p.2 := (srt_perm _).mem_iff.mp hn
  obtain ⟨d, hd⟩ := lk_mem_nms m
  rw [← e]
  show P ((TU.lk p.2 n).getD default)
  rw [hd]
  exact a p hp _ (lk_mem hd)
theorem app1_all {h h' : Hs} {e : Ed} (a : All P h) (b : EdP P e) (ha : app1 h e = .ok h') : All P h' := by
  cases q : TU.lk h e.key with
  | none =>
    simp only [app1, q] at ha
    cases ha
  | some t =>
    have hm := lk_mem q
    cases e with
    | put k m d =>
      simp only [app1, q] at ha
      cases ha
      intro p hp x hx
      rcases mem_put hp with c | c
      · exact a p c x hx
      · rw [c] at hx
        rcases mem_put hx with c2 | c2
        · exact a _ hm x c2
        · rw [c2]
          exact b _ _ _ rfl
    | drop k m =>
      by_cases hin : m ∈ nms t
      · simp only [app1, q, if_pos hin] at ha
        cases ha
        intro p hp x hx
        rcases mem_put hp with c | c
        · exact a p c x hx
        · rw [c] at hx
          exact a _ hm x (mem_del hx)
      · simp only [app1, q, if_neg hin] at ha
        cases ha
theorem appAll_all : ∀ {es : List Ed} {h h' : Hs}, All P h → (∀ e ∈ es, EdP P e) → appAll h es = .ok h' → All P h'
  | [], h, h', n, hn, ha => by
    cases ha
    exact n
  | e :: es, h, h', n, hn, ha => by
    rw [appAll_cons] at ha
    cases q : app1 h e with
    | error x =>
      rw [q] at ha
      cases ha
    | ok h1 =>
      rw [q] at ha
      exact appAll_all (app1_all n (hn e List.mem_cons_self) q) (fun x hx => hn x (List.mem_cons_of_mem _ hx)) ha
theorem inv1_all {h : Hs} {e : Ed} (a : All P h) : EdP P (inv1 h e) := fun k n d z => by
  unfold inv1 at z
  cases q : TU.lk h e.key with
  | none =>
    rw [q] at z
    cases z
  | some t =>
    rw [q] at z
    cases q2 : TU.lk t e.name with
    | none =>
      simp only [q2] at z
      cases z
    | some d2 =>
      simp only [q2] at z
      cases z
      exact a.lk q q2
end
theorem nods_all : ∀ {ds : List Tr}, (∀ d ∈ ds, TU.nod d = true) → nods ds = true
  | [], _ => rfl
  | d :: ds, h => by
    have h1 := h d List.mem_cons_self
    have h2 := nods_all fun x hx => h x (List.mem_cons_of_mem _ hx)
    simp only [nods, h1, h2, Bool.and_self]
theorem Ed.nod {e : Ed} (i : e.Imm) : TU.nod e.tr = true := by
  cases e with
  | put k n d =>
    have := nod_of_imm (show imm d = true from i)
    simp only [Ed.tr, TU.nod, nods, this, Bool.and_self]
  | drop k n => rfl
theorem deps_all {n : Nat} : ∀ {ds : List Tr}, (∀ d ∈ ds, TU.dep d ≤ n) → deps ds ≤ n
  | [], _ => Nat.zero_le _
  | d :: ds, h => Nat.max_le.mpr ⟨h d List.mem_cons_self, deps_all fun x hx => h x (List.mem_cons_of_mem _ hx)⟩
theorem invs_all {P : Tr → Prop} : ∀ {es : List Ed} {h : Hs}, All P h → (∀ e ∈ es, EdP P e) → ∀ e ∈ invs h es, EdP P e
  | [], h, a, b, e, m => nomatch m
  | e :: es, h, a, b, x, m => by
    unfold invs at m
    rcases List.mem_cons.mp m with rfl | m
    · exact inv1_all a
    · cases q : app1 h e with
      | error z =>
        rw [q] at m
        cases m
      | ok h1 =>
        rw [q] at m
        exact invs_all (app1_all a (b e List.mem_cons_self) q) (fun y hy => b y (List.mem_cons_of_mem _ hy)) x m
theorem Ed.dep {e : Ed} (i : EdP (fun d => TU.dep d ≤ 50) e) : TU.dep e.tr ≤ 51 := by
  cases e with
  | put k n d =>
    have := i _ _ _ rfl
    simp only [Ed.tr, TU.dep, deps]
    omega
  | drop k n => exact (by decide : 1 ≤ 51)
section
variable {K : PySem.W.Frag} {H : Hp} {Q : VK}
theorem q_neR {x y : V} {d : Tr} (hx : T K H ff x d) (hy : T K H ff y d) (n : nod d = true) (m : dep d ≤ 60) (k : Q (.bl false) H) : rNeU K x y H Q := by
  refine q_neT hx hy n n m ?_
  rw [eqb_refl n]
  exact k
theorem q_eqR {x y : V} {d : Tr} (hx : T K H ff x d) (hy : T K H ff y d) (n : nod d = true) (m : dep d ≤ 60) (k : Q (.bl true) H) : rEqU K x y H Q := by
  refine q_eqT hx hy n n m ?_
  rw [eqb_refl n]
  exact k
theorem q_eqSS {s : Str} (k : Q (.bl true) H) : rEqU K (.str s) (.str s) H Q := q_eqS (by rw [decide_eq_true rfl]; exact k)
theorem q_neSS {s : Str} (k : Q (.bl false) H) : rNeU K (.str s) (.str s) H Q := q_neS (by rw [decide_eq_true rfl]; exact k)
end
/-- one edit, in all the forms that the laws ask for -/
structure Step (s : Hs) (e : Ed) (g u : Hs) : Prop where
  a1 : app1 s e = .ok g
  a2 : app1 (cpH s) e = .ok g
  b : app1 (cpH (cpH g)) (inv1 s e) = .ok u
  c : cpH u = s
theorem step_of {f f' : Hs} {e : Ed} (w : Wf f) (im : e.Imm) (h : app1 f e = .ok f') : ∃ g u, Step (cpH f) e g u ∧ cpH f' = cpH g ∧ Wf g ∧ Wf u ∧ nms g = nms f ∧ nms u = nms f := by
  obtain ⟨g, hg, hc⟩ := app1_cp w w.cp (cp_cp w).symm h
  obtain ⟨wg, ng⟩ := app1_wf w.cp im hg
  obtain ⟨u, hu, hcu⟩ := undo1 w.cp hg
  obtain ⟨v, hv, hcv⟩ := app1_cp wg wg.cp (cp_cp wg).symm hu
  obtain ⟨wv, nv⟩ := app1_wf wg.cp (inv1_imm w.cp e) hv
  rw [nms_cp] at ng nv
  refine ⟨g, v, ⟨hg, by rw [cp_cp w]; exact hg, by rw [cp_cp wg]; exact hv, ?_⟩, hc, wg, wv, ng, nv.trans ng⟩
  rw [← hcv, hcu, cp_cp w]
theorem appAll_next {h f hz : Hs} {es : List Ed} {i : Nat} {e : Ed} (he : es[i]? = some e) (ha : appAll h (es.take i) = .ok f) (hz : appAll h es = .ok hz) : ∃ f', app1 f e = .ok f' := by
  cases q : app1 f e with
  | ok f' => exact ⟨f', rfl⟩
  | error x =>
    rw [appAll_stop he ha q] at hz
    cases hz
theorem nt_rd {H : Hp} {a : Addr} {kvs : List (Key × V)} {xs : List V} (h : Rd H a (.dK kvs)) (h' : Rd H a (.tup xs)) : False := by
  rcases h with e | ⟨o, e⟩ <;> rcases h' with e' | ⟨o', e'⟩ <;> (rw [e] at e'; cases e')
end TU

set_option Elab.async false
set_option linter.all false
set_option maxRecDepth 100000
namespace TU
open PySem PySem.Spec PyProof.Rows L2
/-! ### what the top has written -/
theorem top_mk {K : PySem.W.Frag} {h : Heap} {mg : Str → Option Value} {x : Str} {st : Stmt} {ps : List Str} {f : Addr} {oc : Value} {od an : Option Addr} {osl : Array (Option Value)} {kV doc pm cdv ct : Value} (X : K.In h) (G : h.Ns mainGlobals mg)
    (ha : PySem.W.nsIn K mainGlobals x = some (some (.ref f))) (hl : K.lookup f = some ⟨oc, od, .func (PySem.W.fnOf x x (defArgs st) (defBody st) (defScope st) .none kV doc pm an cdv ct), osl⟩) (hc : PySem.W.codeIn K cdv x = true) (hk : PySem.W.keepIn K (.ref f) = true)
    (hb : ∀ (kV doc pm : Value) (an : Option Addr) (cdv ct : Value) (us : List Value), us.length = ps.length → bindArgs (PySem.W.fnOf x x (defArgs st) (defBody st) (defScope st) .none kV doc pm an cdv ct) ⟨us, []⟩ = pure (ps.zip us)) : TopF K mg x st ps :=
  ⟨f, _, fun_mk hl hc hk, PySem.W.mg_of X G ha, (fun_mk hl hc hk).binds hb⟩
/-- an error of its own class is caught by it -/
theorem exm_me {K : PySem.W.Frag} {C : Addr} (h1 : PySem.W.subIn K (.ref C) (.type "BaseException") = some true) (h2 : PySem.W.isClsIn K C = true) (h3 : PySem.W.typeIn K (.ref C) = some (.type "type")) (h4 : PySem.W.subIn K (.ref C) (.ref C) = some true) :
    PySem.W.exmOne K (.ref C) (.ref C) = some true := by
  have c1 : (PySem.W.clsIn K C).isSome = true := h2
  have c2 : ((PySem.W.clsIn K C).isSome && PySem.W.typeIn K (.ref C) == some (.type "type")) = true := by
    rw [c1, h3]
    rfl
  have c3 : (PySem.W.subIn K (.ref C) (.type "BaseException") == some true) = true := by
    rw [h1]
    rfl
  unfold PySem.W.exmOne
  simp only [c3, if_true]
  unfold PySem.W.kitCls
  simp only [c2, if_true]
  exact h4
theorem xc_mk2 {P : Program} {w : World} {K : PySem.W.Frag} {h : Heap} {mg : Str → Option Value} {base : Heap} {x qual f1 f2 : Str} {st : Stmt} {C f : Addr} (X : K.In h) (G : h.Ns mainGlobals mg)
    {nm q : Str} {N : Addr} {bs bm : List Value} {sn : List Str} {sub : List Value} {ab : Bool} {col : Option Bool} {dd : Option Addr} {m0 m1 m2 m3 m5 : Option Value}
    {od an : Option Addr} {sl : Array (Option Value)} {oc kV dc pm cd ct : Value} {p1 p2 p3 p4 q1 q2 q3 q4 : Pos}
    (aC : PySem.W.nsIn K mainGlobals x = some (some (.ref C))) (xL : K.lookup C = some (excClassObj nm q C N bs bm true sn sub ab col dd m0 m1 m2 m3 m5 "ValueError.__new__")) (xb : PySem.HandSPX.refsVE bm = true)
    (sa : PySem.W.findIn K (.ref C) "__setattr__" = some (some (.builtin "object.__setattr__"))) (ga : PySem.W.findIn K (.ref C) "__getattribute__" = some (some (.builtin "BaseException.__getattribute__"))) (gg : PySem.W.findIn K (.ref C) "__getattr__" = some none)
    (n1 : PySem.W.findIn K (.ref C) f1 = some none) (n2 : PySem.W.findIn K (.ref C) f2 = some none)
    (a1 : PySem.W.findIn K (.ref C) "__init__" = some (some (.ref f))) (t1 : PySem.W.typeIn K (.ref f) = some (.type "function"))
    (l1 : K.lookup f = some ⟨oc, od, .func (PySem.W.fnOf "__init__" qual (defArgs st) (defBody st) (defScope st) .none kV dc pm an cd ct), sl⟩) (c1 : PySem.W.codeIn K cd qual = true) (k1 : PySem.W.keepIn K (.ref f) = true)
    (kC : PySem.W.keepIn K (.ref C) = true) (eC : PySem.W.subIn K (.ref C) (.type "BaseException") = some true) (tC : PySem.W.typeIn K (.ref C) = some (.type "type")) (hC : PySem.W.hasDictIn K C = true) (iC : PySem.W.isClsIn K C = true) (sC : PySem.W.subIn K (.ref C) (.ref C) = some true)
    (S : FnScope ["self", f1, f2] ["self", f1, f2] (defScope st)) (hb : defBody st = [.Assign [.Attribute (.Name "self" p1) f1 p2] (.Name f1 p3) p4, .Assign [.Attribute (.Name "self" q1) f2 q2] (.Name f2 q3) q4])
    (d1 : (f1 == ("__debug__" : Str)) = false) (d2 : (f1 == ("__classdict__" : Str)) = false) (e1 : (f2 == ("__debug__" : Str)) = false) (e2 : (f2 == ("__classdict__" : Str)) = false)
    (v0 : Vis (defScope st) "self") (v1 : Vis (defScope st) f1) (v2 : Vis (defScope st) f2)
    (bi : ∀ (kV doc pm : Value) (an : Option Addr) (cdv ct : Value) (us : List Value), us.length = 3 → bindArgs (PySem.W.fnOf "__init__" qual (defArgs st) (defBody st) (defScope st) .none kV doc pm an cdv ct) ⟨us, []⟩ = pure ((["self", f1, f2] : List Str).zip us)) :
    Xc P w K mg base x [f1, f2] C := by
  have T : OexC K C := ⟨⟨nm, q, N, bs, bm, sn, sub, ab, col, dd, m0, m1, m2, m3, m5, xL, xb⟩, sa, eC, tC, kC⟩
  have F := fun_mk (st := st) l1 c1 k1
  refine ⟨T, ⟨ga, gg, eC, hC⟩, PySem.W.mg_of X G aC, fun y hy => ?_, exm_me eC iC tC sC, f, _, a1, t1, ok_init2 F S hb T n1 n2 d1 d2 e1 e2 v0 v1 v2, F.binds bi⟩
  rcases List.mem_cons.mp hy with rfl | hy
  · exact n1
  · rw [List.mem_singleton.mp hy]
    exact n2
end TU

set_option Elab.async false
set_option linter.all false
set_option maxRecDepth 100000
namespace TU
open PySem PySem.Spec PyProof.Rows L2
/-! ### sorted lists of pairs of texts -/
abbrev SP := Str × Str
def lexS (p q : SP) : Bool := if p.1 = q.1 then ltS p.2 q.2 else ltS p.1 q.1
theorem lexS_eq {p q : SP} (h : p.1 = q.1) : lexS p q = ltS p.2 q.2 := if_pos h
theorem lexS_ne {p q : SP} (h : ¬ p.1 = q.1) : lexS p q = ltS p.1 q.1 := if_neg h
theorem lexS_asymm {p q : SP} (h : lexS p q = true) : lexS q p = false := by
  by_cases e : p.1 = q.1
  · rw [lexS_eq e] at h
    rw [lexS_eq e.symm]
    exact ltS_asymm h
  · rw [lexS_ne e] at h
    rw [lexS_ne (Ne.symm e)]
    exact ltS_asymm h
theorem lexS_tri {p q : SP} (h1 : lexS p q = false) (h2 : lexS q p = false) : p = q := by
  by_cases e : p.1 = q.1
  · rw [lexS_eq e] at h1
    rw [lexS_eq e.symm] at h2
    exact Prod.ext e (ltS_tri h1 h2)
  · rw [lexS_ne e] at h1
    rw [lexS_ne (Ne.symm e)] at h2
    exact absurd (ltS_tri h1 h2) e
theorem lexS_trans {p q r : SP} (h1 : lexS p q = true) (h2 : lexS q r = true) : lexS p r = true := by
  by_cases e : p.1 = q.1
  · rw [lexS_eq e] at h1
    by_cases e2 : q.1 = r.1
    · rw [lexS_eq e2] at h2
      rw [lexS_eq (e.trans e2)]
      exact ltS_trans h1 h2
    · rw [lexS_ne e2] at h2
      rw [lexS_ne (by rw [e]; exact e2), e]
      exact h2
  · rw [lexS_ne e] at h1
    by_cases e2 : q.1 = r.1
    · rw [lexS_ne (by rw [← e2]; exact e), ← e2]
      exact h1
    · rw [lexS_ne e2] at h2
      have h3 := ltS_trans h1 h2
      rw [lexS_ne fun z => ?_]
      · exact h3
      · rw [z, ltS_irr] at h3
        cases h3
theorem swo_lexS {α : Type} (k : α → SP) : SrtO.Swo fun v u => lexS (k v) (k u) := by
  refine ⟨fun x y h => lexS_asymm h, fun x y z h1 h2 => ?_⟩
  cases q : lexS (k z) (k x) with
  | false => rfl
  | true =>
    cases q2 : lexS (k x) (k y) with
    | true =>
      have := lexS_trans q q2
      rw [show lexS (k z) (k y) = false from h2] at this
      cases this
    | false =>
      have e := lexS_tri q2 h1
      rw [e] at q
      rw [show lexS (k z) (k y) = false from h2] at q
      cases q
def insP (x : SP) : List SP → List SP
  | [] => [x]
  | y :: r => if lexS y x = true then y :: insP x r else x :: y :: r
def srtP : List SP → List SP
  | [] => []
  | x :: r => insP x (srtP r)
theorem insP_perm (x : SP) : ∀ l : List SP, (insP x l).Perm (x :: l)
  | [] => List.Perm.refl _
  | y :: r => by
    unfold insP
    by_cases h : lexS y x = true
    · rw [if_pos h]
      exact ((insP_perm x r).cons y).trans (List.Perm.swap x y r)
    · rw [if_neg h]
theorem srtP_perm : ∀ l : List SP, (srtP l).Perm l
  | [] => List.Perm.refl _
  | x :: r => (insP_perm x (srtP r)).trans ((srtP_perm r).cons x)
/-- no later one is below an earlier one -/
def AscP (l : List SP) : Prop := l.Pairwise fun x y => lexS y x = false
theorem insP_asc (x : SP) : ∀ {l : List SP}, AscP l → AscP (insP x l)
  | [], _ => List.pairwise_singleton _ _
  | y :: r, h => by
    have hc := List.pairwise_cons.mp h
    unfold insP
    by_cases c : lexS y x = true
    · rw [if_pos c]
      refine List.pairwise_cons.mpr ⟨fun z hz => ?_, insP_asc x hc.2⟩
      rcases List.mem_cons.mp ((insP_perm x r).mem_iff.mp hz) with e | hz
      · rw [e]
        exact lexS_asymm c
      · exact hc.1 z hz
    · rw [if_neg c]
      have c' : lexS y x = false := by cases q : lexS y x with
        | true => exact absurd q c
        | false => rfl
      refine List.pairwise_cons.mpr ⟨fun z hz => ?_, h⟩
      rcases List.mem_cons.mp hz with e | hz
      · rw [e]
        exact c'
      · exact (swo_lexS (fun x : SP => x)).tr _ _ _ c' (hc.1 z hz)
theorem srtP_asc : ∀ l : List SP, AscP (srtP l)
  | [] => List.Pairwise.nil
  | x :: r => insP_asc x (srtP_asc r)
theorem ascP_uniq : ∀ {l m : List SP}, AscP l → AscP m → l.Perm m → l = m
  | [], m, _, _, p => (List.nil_perm.mp p).symm
  | x :: l, [], _, _, p => absurd (List.perm_nil.mp p) (by simp)
  | x :: l, y :: m, hl, hm, p => by
    have h1 := List.pairwise_cons.mp hl
    have h2 := List.pairwise_cons.mp hm
    have e : x = y := by
      rcases List.mem_cons.mp (p.mem_iff.mp List.mem_cons_self) with e | mx
      · exact e
      · rcases List.mem_cons.mp (p.mem_iff.mpr (List.mem_cons_self (a := y) (l := m))) with e | my
        · exact e.symm
        · exact lexS_tri (h2.1 x mx) (h1.1 y my)
    subst e
    rw [ascP_uniq h1.2 h2.2 p.cons_inv]
theorem srtP_is {l m : List SP} (p : m.Perm l) (h : AscP m) : m = srtP l := ascP_uniq h (srtP_asc l) (p.trans (srtP_perm l).symm)
theorem srtP_of {l m : List SP} (p : l.Perm m) : srtP l = srtP m := ascP_uniq (srtP_asc l) (srtP_asc m) (((srtP_perm l).trans p).trans (srtP_perm m).symm)
/-! the values -/
def IsPS (h : Heap) (v : Value) (p : SP) : Prop := ∃ a o t u n, v = .ref a ∧ h.get? a = some o ∧ o.cls = .type "tuple" ∧ o.data = .seq #[.str p.1 t, .str p.2 u] n
theorem IsPS.keeps {h h' : Heap} {v : Value} {p : SP} (x : IsPS h v p) (k : ∀ b o, h.get? b = some o → o.cls = .type "tuple" → h'.get? b = some o) : IsPS h' v p := by
  obtain ⟨a, o, t, u, n, e, ho, hc, hd⟩ := x
  exact ⟨a, o, t, u, n, e, k _ _ ho hc, hc, hd⟩
theorem IsPS.uniq {h : Heap} {v : Value} {p q : SP} (x : IsPS h v p) (y : IsPS h v q) : p = q := by
  obtain ⟨a, o, t, u, n, e, ho, hc, hd⟩ := x
  obtain ⟨a', o', t', u', n', e', ho', hc', hd'⟩ := y
  subst e
  cases e'
  rw [ho] at ho'
  cases ho'
  rw [hd] at hd'
  have e2 := (Data.seq.inj hd').1
  have e3 : [Value.str p.1 t, .str p.2 u] = [Value.str q.1 t', .str q.2 u'] := congrArg Array.toList e2
  have e4 := List.cons.inj e3
  have e5 := (List.cons.inj e4.2).1
  exact Prod.ext (Value.str.inj e4.1).1 (Value.str.inj e5).1
theorem firstsS {h : Heap} {k : Value → SP} : ∀ {vs : List Value}, (∀ v ∈ vs, IsPS h v (k v)) → ∃ fs : List Value, PySem.W.KatTups h vs fs ∧ fs.length = vs.length ∧ ∀ f ∈ fs, ∃ x t, f = Value.str x t
  | [], _ => ⟨[], PySem.W.KatTups.nil, rfl, fun _ m => nomatch m⟩
  | v :: vs, hp => by
    obtain ⟨fs, h1, h2, h3⟩ := firstsS (vs := vs) fun y m => hp y (List.mem_cons_of_mem _ m)
    obtain ⟨a, o, t, u, n, e, ho, hc, hd⟩ := hp v List.mem_cons_self
    refine ⟨.str (k v).1 t :: fs, ?_, congrArg Nat.succ h2, fun f m => ?_⟩
    · have z : PySem.W.KatTups h (.ref a :: vs) (.str (k v).1 t :: fs) := .cons ho hc hd rfl h1
      rw [← e] at z
      exact z
    · rcases List.mem_cons.mp m with c | c
      · exact ⟨_, _, c⟩
      · exact h3 f c
section
variable {prog : Program} {w : World} {A : Around} {E : Value → Shared → Prop} {s : Shared}
theorem pairS_cmp {vs : List Value} {k : Value → SP} (hp : ∀ v ∈ vs, IsPS s.heap v (k v)) : SrtO.Cmp prog w A s (tuples' true) (fun p => p.1 ∈ vs) (SrtO.lt2 fun v u => lexS (k v) (k u)) := by
  intro p q m1 m2
  have h1 := hp _ m1
  have h2 := hp _ m2
  show wpAny (model prog w) A (keyLt' (tuples' true) p.1 q.1) (fun r z => z = s ∧ r = lexS (k p.1) (k q.1)) (fun _ _ => False) s
  generalize k p.1 = x at h1 ⊢
  generalize k q.1 = y at h2 ⊢
  obtain ⟨a, o, t, u, n, e, ho, hc, hd⟩ := h1
  obtain ⟨b, o2, t2, u2, n2, e2, ho2, hc2, hd2⟩ := h2
  rw [e, e2]
  refine PySem.W.kat_lt ho hd ho2 hd2 ?_
  show PySem.W.KatLex prog w A true (decide (2 < 2)) _ [(.str x.1 t, .str y.1 t2), (.str x.2 u, .str y.2 u2)] 0 s
  refine PySem.W.kat_cons (SeqAt.EqAt.str_str x.1 t y.1 t2 prog w _ _ ?_)
  refine PySem.W.kat_go (fun c => ?_) (fun c => ?_)
  · have c1 : x.1 = y.1 := by simpa using c
    refine PySem.W.kat_yes (PySem.W.kat_cons (SeqAt.EqAt.str_str x.2 u y.2 u2 prog w _ _ ?_))
    refine PySem.W.kat_go (fun d => ?_) (fun d => ?_)
    · have c2 : x.2 = y.2 := by simpa using d
      refine PySem.W.kat_yes (PySem.W.kat_nil ⟨rfl, ?_⟩)
      rw [lexS_eq c1, c2, ltS_irr]
      rfl
    · refine PySem.W.kat_no (oneLt_any_str ⟨rfl, ?_⟩)
      rw [lexS_eq c1]
      exact (Bool.eq_iff_iff.mpr (by rw [decide_eq_true_eq, ltS_iff]))
  · have c1 : ¬ x.1 = y.1 := by simpa using c
    refine PySem.W.kat_no (oneLt_any_str ⟨rfl, ?_⟩)
    rw [lexS_ne c1]
    exact (Bool.eq_iff_iff.mpr (by rw [decide_eq_true_eq, ltS_iff]))
theorem pairS_sortable {a : Addr} {vs : List Value} {k : Value → SP} (h0 : 0 < vs.length) (hp : ∀ v ∈ vs, IsPS s.heap v (k v)) (ha : ∀ o, s.heap.get? a = some o → o.cls ≠ .type "tuple") : SrtO.SortableO prog w A s a vs fun v u => lexS (k v) (k u) := by
  intro h1 keep
  have hq : ∀ v ∈ vs, IsPS h1 v (k v) := fun v m => (hp v m).keeps fun b o e c => keep b o (fun z => by subst z; exact ha o e c) e
  obtain ⟨fs, f1, f2, f3⟩ := firstsS hq
  refine ⟨tuples' true, fun Q E hh => ?_, pairS_cmp hq⟩
  refine PySem.W.kat_kind (T := .type "str") f1 (by omega) (fun f m => ?_) (by rfl) ?_
  · obtain ⟨x, t, rfl⟩ := f3 f m
    exact PySem.W.Looks.now
  · rw [show (Value.type "str" != Value.type "tuple") = true by first | rfl | decide +kernel]
    exact hh
end
def pr (p : SP) : Tr := .tup [.str p.1, .str p.2]
/-- sorted(c), c a list of pairs of texts -/
def rSortP (K : PySem.W.Frag) : List V → Hp → VK → Prop := fun vs H Q => ∃ (a : Addr) (xs : List V) (ps : List SP), vs = [.ref a] ∧ SqL K H a xs ∧ Ts K H ff xs (ps.map pr) ∧
  ∀ ys p, Ts K H ff ys ((srtP ps).map pr) → H p = none → Q (.ref p) (upd H p (.lst ys))
theorem T.pair {X : Cx} {pins : List (Addr × Obj)} {σ : L2.St} {H : Hp} {s : Shared} (I : Inv X pins σ H s) {x : V} {v : Value} {p : SP} (t : T X.K H ff x (pr p)) (r : RelV x v) : (∃ b, x = .ref b) ∧ IsPS s.heap v p := by
  obtain ⟨p1, p2⟩ := p
  cases t with
  | @tup b ws _ hq ts =>
    refine ⟨⟨b, rfl⟩, ?_⟩
    have e : v = .ref b := r
    subst e
    obtain ⟨its, rv, ht, hz⟩ := I.tuple hq
    cases ts with
    | cons t1 ts =>
      cases ts with
      | cons t2 ts =>
        cases ts
        cases t1
        cases t2
        obtain ⟨u1, u2, rfl, ri, rj⟩ := vals2 rv
        obtain ⟨k1, rfl⟩ := ri
        obtain ⟨k2, rfl⟩ := rj
        obtain ⟨o, ho, hc, n, hd⟩ := ht
        exact ⟨b, o, k1, k2, n, rfl, ho, hc, hd⟩
theorem call_sortP {X : Cx} : CallR X (.builtin "sorted") (rSortP X.K) := by
  intro pins s σ H vs us Q I r h
  obtain ⟨a, xs, ps, rfl, hs, ht, q⟩ := h
  obtain ⟨its, rv, hl, hz⟩ := I.list hs
  obtain ⟨u, rfl, ru⟩ := vals1 r
  obtain rfl : u = Value.ref a := ru
  haveI dec : ∀ v, Decidable (∃ p, IsPS s.heap v p) := fun v => Classical.propDecidable _
  let k : Value → SP := fun v => if c : ∃ p, IsPS s.heap v p then Classical.choose c else ("", "")
  have kis : ∀ {v p}, IsPS s.heap v p → k v = p := fun {v p} x => by
    have c : ∃ p, IsPS s.heap v p := ⟨p, x⟩
    show (if c : ∃ p, IsPS s.heap v p then Classical.choose c else ("", "")) = p
    rw [dif_pos c]
    exact (Classical.choose_spec c).uniq x
  have all : ∀ {xs : List V} {its : List Value} {ps : List SP}, Vals xs its → Ts X.K H ff xs (ps.map pr) → its.map k = ps ∧ (∀ v ∈ its, IsPS s.heap v (k v)) ∧ ∀ v ∈ its, T X.K H ff (backV v) (pr (k v)) := by
    intro xs its ps rv
    induction rv generalizing ps with
    | nil =>
      intro h
      cases ps with
      | nil => exact ⟨rfl, (fun v m => nomatch m), fun v m => nomatch m⟩
      | cons p ps => cases h
    | @cons x u xs its r1 r2 ih =>
      intro h
      cases ps with
      | nil => cases h
      | cons p ps =>
        cases h with
        | cons t1 t2 =>
          obtain ⟨⟨b, eb⟩, ip⟩ := T.pair I t1 r1
          obtain ⟨i1, i2, i3⟩ := ih t2
          subst eb
          have eu : u = .ref b := r1
          subst eu
          have ek := kis ip
          refine ⟨?_, fun v m => ?_, fun v m => ?_⟩
          · rw [List.map_cons, ek, i1]
          · rcases List.mem_cons.mp m with c | c
            · rw [c, ek]
              exact ip
            · exact i2 v c
          · rcases List.mem_cons.mp m with c | c
            · rw [c, ek]
              exact t1
            · exact i3 v c
  obtain ⟨a1, a2, a3⟩ := all rv ht
  have refs : ∀ v ∈ its, ∃ b, v = Value.ref b := fun v m => by
    obtain ⟨b, _, _, _, _, e, _⟩ := a2 v m
    exact ⟨b, e⟩
  refine SrtO.sorted_ord (swo_lexS k) hl.isList (by rw [← rv.length]; exact hz) (fun h2 h1 d hd kk => ?_) fun out o1 o2 => ?_
  · refine pairS_sortable (s := { s with heap := h1 }) (by omega) (fun v m => (a2 v m).keeps fun b o e _ => (kk b o e).2) fun o e c => ?_
    have e2 : some o = some (seqObj "list" its.toArray 0) := e.symm.trans hd
    cases e2
    exact absurd (Value.type.inj c) (by decide)
  · have mem : ∀ v ∈ out, v ∈ its := fun v m => o2.perm.mem_iff.mp m
    have ok : out.map k = srtP ps := by
      refine srtP_is ?_ (List.pairwise_map.mpr o1)
      rw [← a1]
      exact o2.perm.map k
    have build : ∀ {l : List Value}, (∀ v ∈ l, v ∈ its) → Ts X.K H ff (l.map backV) ((l.map k).map pr) := by
      intro l
      induction l with
      | nil => exact fun _ => .nil
      | cons v l ih => exact fun m => .cons (a3 v (m v List.mem_cons_self)) (ih fun y hy => m y (List.mem_cons_of_mem _ hy))
    have tb := build mem
    rw [ok] at tb
    have hd : s.heap.objs.size ≤ s.heap.objs.size + 1 := Nat.le_succ _
    obtain ⟨n, hn⟩ := sortedAll_at s.heap its out.toArray
    refine ⟨.ref (s.heap.objs.size + 1), upd H (s.heap.objs.size + 1) (.lst (out.map backV)), I.laid (t' := s.toks) (fun b o e => sortedAll_old e) hd ⟨?_, out, n, vals_back fun v m => refs v (mem v m), hn⟩, rfl, q _ _ tb (I.hok.fresh hd)⟩
    rw [List.length_map, o2.perm.length_eq, ← rv.length]
    exact hz
theorem k_sortP {X : Cx} {K : PySem.W.Frag} (h : X.K = K) : CallR X (.builtin "sorted") (rSortP K) := h ▸ call_sortP
theorem q_sortP {K : PySem.W.Frag} {H : Hp} {Q : VK} {a : Addr} {xs : List V} {ps : List SP} (h : SqL K H a xs) (t : Ts K H ff xs (ps.map pr)) (q : ∀ ys p, Ts K H ff ys ((srtP ps).map pr) → H p = none → Q (.ref p) (upd H p (.lst ys))) : rSortP K [.ref a] H Q := ⟨a, xs, ps, rfl, h, t, q⟩
end TU

set_option Elab.async false
set_option linter.all false
set_option maxRecDepth 100000
namespace TU
open PySem PySem.Spec PyProof.Rows L2
open PySem.SeqAt PySem.MeetsSeq PySem.MeetsSeq2 PySem.MeetsSeq3 PySem.SeqRoads2
open PySem.AutoSeq1 (wpAny_loadPart')
/-! ### houses told to be equal, in a pair with a list -/
theorem ne_tupIn {prog : Program} {w : World} (l b : Addr) (xs ys : Array Value) (n m : Nat) (dx dy : Option Addr) (sx sy : Array (Option Value)) : MeetsIn prog w (Builtin.«tuple.__ne__» ⟨[.ref l, .ref b], []⟩)
    (fun A R s => s.heap.get? l = some { cls := .type "tuple", dict := dx, data := .seq xs n, slots := sx } ∧ s.heap.get? b = some { cls := .type "tuple", dict := dy, data := .seq ys m, slots := sy } ∧ xs.size = ys.size ∧
      (∀ j (h1 : j < xs.size) (h2 : j < ys.size), EqIn prog w A.in1 s xs[j] ys[j] true) ∧ R (.ok (.ret (.bool false))) s) :=
  .of_wp fun A R s h => by
    obtain ⟨hp, g, d, tk, os⟩ := s
    obtain ⟨hl, hb, hsz, he, h⟩ := h
    have f2 := AutoSeq1.sub_tuple_tuple
    have hZ : (xs.toList.zip ys.toList).length = xs.size := by simp [hsz]
    wp_walk using wpAny_loadPart' hl, wpAny_loadPart' hb, wpAny_forIn_list _ (fun rest c z => c.1 = none ∧ z = ⟨hp, g, d, tk, os⟩ ∧ ∃ i, rest = (xs.toList.zip ys.toList).drop i) _
    case turn =>
      rintro ⟨y, x⟩ rest c z ⟨hc, rfl, i, hz⟩
      have hi : i < (xs.toList.zip ys.toList).length := by
        rcases Nat.lt_or_ge i (xs.toList.zip ys.toList).length with q | q
        · exact q
        · rw [List.drop_of_length_le q] at hz
          cases hz
      have h1 : i < xs.size := hZ ▸ hi
      have h2 : i < ys.size := hsz ▸ h1
      rw [List.drop_eq_getElem_cons hi] at hz
      injection hz with hyx hrest
      have e1 : y = xs[i] := by simpa using congrArg Prod.fst hyx
      have e2 : x = ys[i] := by simpa using congrArg Prod.snd hyx
      subst e1 e2
      refine wpAny_bind (he i h1 h2 _ _ ?_)
      wp_walk
      exact ⟨rfl, rfl, i + 1, hrest⟩
    case fin =>
      rintro ⟨c1, c2⟩ z ⟨hc, rfl, i, hz⟩
      simp only at hc
      subst hc
      wp_walk
      exact ⟨_, rfl, by simpa [Builtin.Tuple.tupleCompareSizes, hsz] using h⟩
    case h => exact ⟨rfl, rfl, 0, rfl⟩
theorem ne_tupsT {prog : Program} {w : World} {A : Around} {E : Value → Shared → Prop} {s : Shared} {l b : Addr} {xs ys : Array Value} {n : Nat} {Q : Value → Shared → Prop} (hl : s.heap.IsTuple l xs) (hb : s.heap.IsTuple b ys) (hsz : xs.size = ys.size)
    (t : ∀ j (h1 : j < xs.size) (h2 : j < ys.size), PySem.W.EqTree prog w s n xs[j] ys[j] true) (hu : A.units + (n + 1) < cLine) (h : Q (.bool false) s) : wpAny (model prog w) A (compareOp .NotEq (.ref l) (.ref b)) Q E s := by
  obtain ⟨⟨cls, dd, data, sl⟩, ho, hc, k, hd⟩ := id hl
  obtain ⟨⟨cls2, dd2, data2, sl2⟩, ho2, hc2, k2, hd2⟩ := id hb
  simp only at hc hd hc2 hd2
  subst hc hd hc2 hd2
  exact wpAny_richCompare_same_room (T := "tuple") (op := .NotEq) ⟨_, ho, rfl⟩ ⟨_, ho2, rfl⟩ F.slot_tuple_ne (call_meetsIn F.slot_tuple_ne ⟨_, ho, rfl⟩ F.entry_tuple_ne (F.args_tuple_ne_2 _ _) (ne_tupIn l b xs ys k k2 dd dd2 sl sl2)
    ⟨ho, ho2, hsz, fun j h1 h2 => (t j h1 h2).at A.in1 (by show A.units + 1 + _ < cLine; omega), show Value.bool false ≠ Value.notImplemented ∧ Q (.bool false) s from ⟨(fun z => nomatch z), h⟩⟩) (by omega)
theorem kv_mem {vk : List (Key × V)} {va : List (Key × Value)} (r : KV vk va) : ∀ {k : Key} {v : Value}, (k, v) ∈ va → ∃ x, (k, x) ∈ vk ∧ RelV x v := by
  unfold KV at r
  induction r with
  | nil => exact fun m => nomatch m
  | @cons p q ps qs h t ih =>
    intro k v m
    obtain ⟨e1, e2⟩ := h
    rcases List.mem_cons.mp m with c | c
    · rw [← c] at e1 e2
      obtain ⟨k2, x⟩ := p
      have e3 : k2 = k := e1
      subst e3
      exact ⟨x, List.mem_cons_self, e2⟩
    · obtain ⟨x, m2, rx⟩ := ih c
      exact ⟨x, List.mem_cons_of_mem _ m2, rx⟩
theorem Tk.mem {K : PySem.W.Frag} {H : Hp} {P : Addr → Prop} : ∀ {vk : List (Key × V)} {ks : List (Key × Tr)} {k : Key} {x : V}, Tk K H P vk ks → (k, x) ∈ vk → ∃ d, (k, d) ∈ ks ∧ T K H P x d
  | _, _, _, _, .nil, m => nomatch m
  | _, _, k, x, .cons h t, m => by
    rcases List.mem_cons.mp m with c | c
    · cases c
      exact ⟨_, List.mem_cons_self, h⟩
    · obtain ⟨d, m2, td⟩ := Tk.mem t c
      exact ⟨d, List.mem_cons_of_mem _ m2, td⟩
section
variable {X : Cx} {pins : List (Addr × Obj)} {σ : L2.St} {H : Hp} {s : Shared} {P P' : Addr → Prop}
theorem tree_leaf (I : Inv X pins σ H s) {x y : V} {v u : Value} {d : Tr} (hx : T X.K H P x d) (hy : T X.K H P' y d) (n : nod d = true) (m : dep d ≤ 60) (rx : RelV x v) (ry : RelV y u) : PySem.W.EqTree X.prog X.w s 60 v u true := by
  obtain ⟨as, q1, _⟩ := T.reads I d x v hx rx
  obtain ⟨bs, q2, _⟩ := T.reads I d y u hy ry
  refine .leaf fun A hu => ?_
  have z := SeqAt.eqAt_plain _ _ A s v u _ _ q1 q2 (plain_py d n) (plain_py d n) (by
    rw [depth_py, Nat.min_self]
    omega)
  rw [show PyData.eqv (py d) (py d) = true from eqb_refl n] at z
  exact z
theorem tree_dict (I : Inv X pins σ H s) {a b : Addr} {vk vl : List (Key × V)} {ks ls : List (Key × Tr)} {n : Nat} (ha : Rd H a (.dK vk)) (hb : Rd H b (.dK vl)) (ta : Tk X.K H P vk ks) (tb : Tk X.K H P' vl ls) (hl : ks.length = ls.length) (ne : a ≠ b)
    (hs : ∀ k d x v, (k, d) ∈ ks → T X.K H P x d → RelV x v → ∃ e, getD ls k = some e ∧ ∀ y u, T X.K H P' y e → RelV y u → PySem.W.EqTree X.prog X.w s n v u true) : PySem.W.EqTree X.prog X.w s (n + 1) (.ref a) (.ref b) true := by
  obtain ⟨_, ya, va, ra, da⟩ := dk_rd I.hok ha
  obtain ⟨_, yb, vb, rb, db⟩ := dk_rd I.hok hb
  have get : ∀ k v, (k, v) ∈ va → ∃ y u, valueAt vb k = some u ∧ RelV y u ∧ PySem.W.EqTree X.prog X.w s n v u true := fun k v m => by
    obtain ⟨x, m2, rx⟩ := kv_mem ra m
    obtain ⟨d, m3, td⟩ := Tk.mem ta m2
    obtain ⟨e, g, f⟩ := hs k d x v m3 td rx
    obtain ⟨y, z1, z2⟩ := tb.gets g
    have rr := rb.val k
    rw [z1] at rr
    obtain ⟨u, hu, ru⟩ := rr.some_of
    exact ⟨y, u, hu, ru, f y u z2 ru⟩
  have tr : PySem.W.EqTree X.prog X.w s (n + 1) (.ref a) (.ref b) (va.length == vb.length && va.all fun p => (valueAt vb p.1).isSome && true) :=
    .dicts (e := fun _ => true) ne ya yb da db fun k v y m hv => by
      obtain ⟨_, u, hu, _, t⟩ := get k v m
      rw [hv] at hu
      cases hu
      exact t
  have e1 : va.length = vb.length := by rw [← ra.length, ta.length, hl, ← tb.length, rb.length]
  have e2 : (va.all fun p => (valueAt vb p.1).isSome && true) = true := by
    rw [List.all_eq_true]
    intro p m
    obtain ⟨_, u, hu, _⟩ := get p.1 p.2 m
    rw [hu]
    rfl
  rw [e1, e2] at tr
  simpa using tr
/-- two houses, equal up to the order of names -/
theorem tree_house (I : Inv X pins σ H s) {a b : Addr} {h g : Hs} (ta : T X.K H P (.ref a) (.dic (hK h))) (tb : T X.K H P' (.ref b) (.dic (hK g))) (dis : ∀ x, P x → ¬ P' x) (wh : Wf h) (wg : Wf g) (sm : Sml h) (e : cpH h = cpH g) : PySem.W.EqTree X.prog X.w s 62 (.ref a) (.ref b) true := by
  obtain ⟨a', vk, ea, pa, ra, ka⟩ := ta.dicAt
  cases ea
  obtain ⟨b', vl, eb, pb, rb, kb⟩ := tb.dicAt
  cases eb
  refine tree_dict (n := 61) I ra rb ka kb ?_ (fun z => dis a pa (by rw [z]; exact pb)) fun k d x v m tx rx => ?_
  · unfold hK
    rw [List.length_map, List.length_map, ← len_cp h, e, len_cp]
  · obtain ⟨p, hp, ep⟩ := List.mem_map.mp m
    cases ep
    have l1 : lk h p.1 = some p.2 := lk_of_mem wh.nd hp
    obtain ⟨t2, l2, ho⟩ := cp_lk e l1
    refine ⟨.dic (tK t2), by rw [get_hK, l2]; rfl, fun y u ty ry => ?_⟩
    obtain ⟨q, es, ex, pq, rq, kq⟩ := tx.dicAt
    subst ex
    obtain ⟨q2, es2, ey, pq2, rq2, kq2⟩ := ty.dicAt
    subst ey
    have ev : v = .ref q := rx
    have eu : u = .ref q2 := ry
    subst ev eu
    have wt := wh.tab p hp
    refine tree_dict (n := 60) I rq rq2 kq kq2 ?_ (fun z => dis q pq (by rw [z]; exact pq2)) fun k d x v m tx rx => ?_
    · unfold tK
      rw [List.length_map, List.length_map, ← len_ord p.2, ho, len_ord]
    · obtain ⟨r, hr, er⟩ := List.mem_map.mp m
      cases er
      have l3 : lk p.2 r.1 = some r.2 := lk_of_mem wt.1 hr
      rw [ord_lk ho] at l3
      exact ⟨r.2, by rw [get_tK, l3], fun y u ty ry => tree_leaf I tx ty (nod_of_imm (wt.2 r hr)) (sm p hp r hr) rx ry⟩
end
/-- (house, list) != (house, list), both equal -/
def rNeH (K : PySem.W.Frag) : R2 := fun x y H Q => ∃ (p q a b : Addr) (v u : V) (h g : Hs) (d : Tr) (N1 N2 M1 M2 : Addr → Prop), x = .ref p ∧ y = .ref q ∧ SqT K H p [.ref a, v] ∧ SqT K H q [.ref b, u] ∧ T K H N1 (.ref a) (.dic (hK h)) ∧ T K H N2 (.ref b) (.dic (hK g)) ∧
  (∀ z, N1 z → ¬ N2 z) ∧ Wf h ∧ Wf g ∧ Sml h ∧ cpH h = cpH g ∧ T K H M1 v d ∧ T K H M2 u d ∧ nod d = true ∧ dep d ≤ 60 ∧ Q (.bl false) H
theorem op_neH {X : Cx} (hu : X.A.units + 64 < cLine) : OpR X (compareOp .NotEq) (rNeH X.K) := by
  intro pins s σ H x y v u Q I rx ry h
  obtain ⟨p, q, a, b, v1, u1, h, g, d, N1, N2, M1, M2, rfl, rfl, sp, sq, ta, tb, dis, wh, wg, sm, e, td, te, nd, dd, k⟩ := h
  cases (show v = Value.ref p from rx)
  cases (show u = Value.ref q from ry)
  obtain ⟨its, r1, t1, _⟩ := I.tuple sp
  obtain ⟨jts, r2, t2, _⟩ := I.tuple sq
  obtain ⟨i1, i2, rfl, ri1, ri2⟩ := vals2 r1
  obtain ⟨j1, j2, rfl, rj1, rj2⟩ := vals2 r2
  have ei : i1 = Value.ref a := ri1
  have ej : j1 = Value.ref b := rj1
  subst ei ej
  have tr := tree_house I ta tb dis wh wg sm e
  have tl := tree_leaf I td te nd dd ri2 rj2
  refine ne_tupsT (n := 62) (xs := #[Value.ref a, i2]) (ys := #[Value.ref b, j2]) t1 t2 rfl (fun j h1 h2 => ?_) (by omega) ⟨.bl _, H, I, rfl, k⟩
  have t62 : PySem.W.EqTree X.prog X.w s 62 i2 j2 true := by
    refine .leaf fun A hu => ?_
    obtain ⟨as, q1, _⟩ := T.reads I d v1 i2 td ri2
    obtain ⟨bs, q2, _⟩ := T.reads I d u1 j2 te rj2
    have z := SeqAt.eqAt_plain _ _ A s i2 j2 _ _ q1 q2 (plain_py d nd) (plain_py d nd) (by
      rw [depth_py, Nat.min_self]
      omega)
    rw [show PyData.eqv (py d) (py d) = true from eqb_refl nd] at z
    exact z
  match j, h1, h2 with
  | 0, _, _ => exact tr
  | 1, _, _ => exact t62
/-- != of anything, of such pairs too -/
def rNeV (K : PySem.W.Frag) : R2 := fun x y H Q => rNeU K x y H Q ∨ rNeH K x y H Q
theorem k_neV {X : Cx} {K : PySem.W.Frag} (h : X.K = K) (hu : X.A.units + 64 < cLine) : OpR X (compareOp .NotEq) (rNeV K) := h ▸ (op_neU hu).or (op_neH hu)
end TU

set_option Elab.async false
set_option linter.all false
set_option maxRecDepth 100000
namespace TU
open PySem PySem.Spec PyProof.Rows L2
/-! ### merges -/
section
variable {K : PySem.W.Frag} {H : Hp} {Q : VK}
theorem q_isB {a b : Bool} (q : Q (.bl (decide (a = b))) H) : rIsB (.bl a) (.bl b) H Q := ⟨a, b, rfl, rfl, q⟩
theorem q_notB {a b : Bool} (q : Q (.bl (!decide (a = b))) H) : rNotB (.bl a) (.bl b) H Q := ⟨a, b, rfl, rfl, q⟩
theorem q_gtup {σ : L2.St} {n : Nat} {t : TGs} {a : Addr} {xs : List V} {R : L2.St → Hp → Prop} (hs : SqT K H a xs) (hn : xs.length = n) (h : t xs σ H R) : gTup K n t (.ref a) σ H R := ⟨a, xs, rfl, hs, hn, h⟩
theorem q_isiBl {b : Bool} (q : Q (.bl true) H) : rIsi K [.bl b, .ty "bool"] H Q := ⟨.bl b, .ty "bool", .type "bool", .type "bool", true, rfl, .ty _, .base (.bl b), kit_ty (by decide +kernel), q⟩
theorem q_gcons {σ : L2.St} {t : TG} {u : TGs} {v : V} {r : List V} {R : L2.St → Hp → Prop} (h : t v σ H fun σ' H' => u r σ' H' R) : gCons t u (v :: r) σ H R := ⟨v, r, rfl, h⟩
theorem q_gnil {σ : L2.St} {R : L2.St → Hp → Prop} (h : R σ H) : gNil [] σ H R := ⟨rfl, h⟩
end
theorem eqb_strs : ∀ (xs ys : List Str), eqb (.lst (xs.map Tr.str)) (.lst (ys.map Tr.str)) = decide (xs = ys) := by
  have key : ∀ xs ys : List Str, PyData.eqvAll (pys (xs.map Tr.str)) (pys (ys.map Tr.str)) = decide (xs = ys) := by
    intro xs
    induction xs with
    | nil =>
      intro ys
      cases ys <;> simp [pys, PyData.eqvAll]
    | cons x xs ih =>
      intro ys
      cases ys with
      | nil => simp [pys, PyData.eqvAll]
      | cons y ys =>
        simp only [List.map_cons, pys, py, PyData.eqvAll, PyData.eqv, ih ys]
        by_cases h : x = y <;> by_cases h' : xs = ys <;> simp [h, h']
  intro xs ys
  unfold eqb
  simp only [py, PyData.eqv]
  exact key xs ys
theorem q_eqSs {K : PySem.W.Frag} {H : Hp} {Q : VK} {p q : Addr} {ss ts : List Str} (hp : SqL K H p (ss.map V.str)) (hq : SqL K H q (ts.map V.str)) (k : Q (.bl (decide (ss = ts))) H) : rEqU K (.ref p) (.ref q) H Q := by
  refine q_eqT (P := fun _ => True) (d := .lst (ss.map Tr.str)) (e := .lst (ts.map Tr.str)) (.lst trivial hp (Ts.strs ss)) (.lst trivial hq (Ts.strs ts)) (by simp only [TU.nod]; exact nods_strs ss) (by simp only [TU.nod]; exact nods_strs ts) (by simp only [TU.dep]; rw [deps_strs]; decide) ?_
  rw [eqb_strs]
  exact k
/-- a name is met -/
def addN (l : List Str) (n : Str) : List Str := if n ∈ l then l else l ++ [n]
def uni (ts : List Tab) : List Str := ts.foldl (fun acc t => (nms t).foldl addN acc) []
theorem addN_mem {l : List Str} {n x : Str} : x ∈ addN l n ↔ x ∈ l ∨ x = n := by
  unfold addN
  by_cases h : n ∈ l
  · rw [if_pos h]
    exact ⟨.inl, fun z => z.elim id fun e => by rw [e]; exact h⟩
  · rw [if_neg h, List.mem_append, List.mem_singleton]
theorem addN_nd {l : List Str} {n : Str} (h : l.Nodup) : (addN l n).Nodup := by
  unfold addN
  by_cases c : n ∈ l
  · rw [if_pos c]
    exact h
  · rw [if_neg c]
    exact List.nodup_append.mpr ⟨h, by simp, fun a ha b hb e => c (by rw [List.mem_singleton] at hb; rw [← hb, ← e]; exact ha)⟩
theorem foldN_mem : ∀ {ns l : List Str} {x : Str}, x ∈ ns.foldl addN l ↔ x ∈ l ∨ x ∈ ns
  | [], l, x => by simp
  | n :: ns, l, x => by
    rw [List.foldl_cons, foldN_mem, addN_mem, List.mem_cons, or_assoc]
theorem foldN_nd : ∀ {ns l : List Str}, l.Nodup → (ns.foldl addN l).Nodup
  | [], l, h => h
  | n :: ns, l, h => foldN_nd (ns := ns) (addN_nd h)
theorem foldT_mem : ∀ {ts : List Tab} {l : List Str} {x : Str}, x ∈ ts.foldl (fun acc t => (nms t).foldl addN acc) l ↔ x ∈ l ∨ ∃ t ∈ ts, x ∈ nms t
  | [], l, x => by simp
  | t :: ts, l, x => by
    rw [List.foldl_cons, foldT_mem, foldN_mem, or_assoc]
    refine or_congr Iff.rfl ⟨fun z => ?_, fun z => ?_⟩
    · rcases z with h | ⟨u, hu, hx⟩
      · exact ⟨t, List.mem_cons_self, h⟩
      · exact ⟨u, List.mem_cons_of_mem _ hu, hx⟩
    · obtain ⟨u, hu, hx⟩ := z
      rcases List.mem_cons.mp hu with e | hu
      · rw [e] at hx
        exact .inl hx
      · exact .inr ⟨u, hu, hx⟩
theorem foldT_nd : ∀ {ts : List Tab} {l : List Str}, l.Nodup → (ts.foldl (fun acc t => (nms t).foldl addN acc) l).Nodup
  | [], l, h => h
  | t :: ts, l, h => foldT_nd (ts := ts) (foldN_nd h)
theorem uni_mem {ts : List Tab} {x : Str} : x ∈ uni ts ↔ ∃ t ∈ ts, x ∈ nms t := by
  unfold uni
  rw [foldT_mem]
  simp
theorem uni_nd (ts : List Tab) : (uni ts).Nodup := foldT_nd List.nodup_nil
theorem addN_len (l : List Str) (n : Str) : (addN l n).length ≤ l.length + 1 := by
  unfold addN
  by_cases h : n ∈ l
  · rw [if_pos h]
    omega
  · rw [if_neg h, List.length_append]
    exact Nat.le_refl _
theorem foldN_len : ∀ (ns l : List Str), (ns.foldl addN l).length ≤ l.length + ns.length
  | [], l => Nat.le_refl _
  | n :: ns, l => by
    have h1 := foldN_len ns (addN l n)
    have h2 := addN_len l n
    rw [List.foldl_cons, List.length_cons]
    omega
theorem keys_putN {kvs : List (Key × V)} {l : List Str} {n : Str} {v : V} (h : kvs.map (·.1) = l.map Sum.inr) : (putK kvs (.inr n) v).map (·.1) = (addN l n).map Sum.inr := by
  by_cases c : n ∈ l
  · have hm : (Sum.inr n : Key) ∈ kvs.map (·.1) := by rw [h]; exact inr_mem.mpr c
    unfold putK addN
    rw [if_pos c, if_pos, ← h]
    · rw [List.map_map]
      refine List.map_congr_left fun p hp => ?_
      show (if _ then _ else _ : Key × V).1 = p.1
      split
      · rename_i e
        simpa using Eq.symm (by simpa using e)
      · rfl
    · rw [List.any_eq_true]
      obtain ⟨p, hp, e⟩ := List.mem_map.mp hm
      exact ⟨p, hp, by simpa using e⟩
  · have hm : (Sum.inr n : Key) ∉ kvs.map (·.1) := by rw [h]; exact fun z => c (inr_mem.mp z)
    rw [putK_fresh hm]
    unfold addN
    rw [if_neg c, List.map_append, List.map_append, h]
    rfl
/-- a table is put, its dict known already -/
theorem Own.push2 {K : PySem.W.Frag} {H : Hp} {N N' : Addr → Prop} {r q : Addr} {h : Hs} {k : Str} {t : Tab} {es : List (Key × V)} (o : Own K N' H r h) (nk : k ∉ nms h) (hq' : ¬ N' q) (sub : ∀ b, N' b → N b) (hq : N q) (e : H q = some (.dK es)) (tk : Tk K H ff es (tK t)) :
    ∃ kvs, H r = some (.dK kvs) ∧ kvs.length = h.length ∧ Own K N (upd H r (.dK (putK kvs (.inr k) (.ref q)))) r (h ++ [(k, t)]) := by
  obtain ⟨qs, kvs, h1, h2, h3, h4⟩ := o.ex
  have nd := List.nodup_cons.mp h3
  have hr : r ≠ q := fun z => hq' (by rw [← z]; exact h4 r List.mem_cons_self)
  have nq' : q ∉ qs := fun m => hq' (h4 q (List.mem_cons_of_mem _ m))
  refine ⟨kvs, h1, h2.len, qs ++ [q], _, upd_same, ?_, ?_, fun a m => ?_⟩
  · rw [putK_fresh (by rw [h2.keys]; exact fun z => nk (inr_mem.mp z))]
    refine (h2.snoc (k := k) e tk).keep keeps_upd (no_tup h1) fun a m z => ?_
    rw [z] at m
    rcases List.mem_append.mp m with m | m
    · exact nd.1 m
    · exact hr (List.mem_singleton.mp m)
  · refine List.nodup_cons.mpr ⟨fun m => ?_, List.nodup_append.mpr ⟨nd.2, by simp, fun a ha b hb e => nq' (by
      rw [List.mem_singleton] at hb
      rw [← hb, ← e]
      exact ha)⟩⟩
    rcases List.mem_append.mp m with m | m
    · exact nd.1 m
    · exact hr (List.mem_singleton.mp m)
  · rcases List.mem_cons.mp m with e | m
    · rw [e]
      exact sub _ (h4 r List.mem_cons_self)
    · rcases List.mem_append.mp m with m | m
      · exact sub _ (h4 a (List.mem_cons_of_mem _ m))
      · rw [List.mem_singleton.mp m]
        exact hq
/-- == of two houses, table by table -/
def eqTb (g : Hs) (p : Str × Tab) : Bool := match lk g p.1 with
  | some t => eqk (tK p.2) (tK t)
  | none => false
def eqHs (h g : Hs) : Bool := decide (srt (nms h) = srt (nms g)) && h.all (eqTb g)
/-- an entry, or none -/
abbrev En := Option Tr
def enc : En → Tr
  | some d => .tup [.bl true, d]
  | none => .tup [.bl false, .non]
def eqO (a b : En) : Bool := eqb (enc a) (enc b)
def set1 (b o t : En) : Bool × En := if eqO o t = true ∨ eqO t b = true then (false, o) else if eqO o b = true then (false, t) else (true, b)
def ent (h : Hs) (k n : Str) : En := (lk h k).bind fun t => lk t n
def tabs (k : Str) (gs : List Hs) : List Tab := gs.map fun g => (lk g k).getD []
def mN (b o t : Hs) (k : Str) : List Str := srt (uni (tabs k [b, o, t]))
def mS (b o t : Hs) (k n : Str) : Bool × En := set1 (ent b k n) (ent o k n) (ent t k n)
def mTab (b o t : Hs) (k : Str) : Tab := (mN b o t k).filterMap fun n => (mS b o t k n).2.map fun d => (n, d)
def mCon (b o t : Hs) (k : Str) : List SP := (mN b o t k).filterMap fun n => if (mS b o t k n).1 = true then some (k, n) else none
def mHs (b o t : Hs) : Hs := (nms b).map fun k => (k, mTab b o t k)
def mCs (b o t : Hs) : List SP := (nms b).flatMap fun k => mCon b o t k
theorem fm_one {α β : Type} (f : α → Option β) (x : α) : [x].filterMap f = (f x).toList := by
  cases e : f x <;> simp [e]
/-- a test, what follows it written once -/
theorem q_then {c : TT} {t u : TS} {D : Ends} {σ : L2.St} {H : Hp} (P : L2.St → Hp → Prop) (h3 : ∀ σ' H', P σ' H' → D.nx σ' H') (h1 : (∀ σ' H', P σ' H' → D.nx σ' H') → tIfS c t u D σ H) : tIfS c t u D σ H := h1 h3
/-- a statement under a test, what follows written once -/
theorem q_opt {c : Bool} {te : TE} {D : Ends} {σ : L2.St} {H : Hp} (P : Hp → Prop) (h3 : ∀ H', P H' → D.nx σ H') (h1 : (∀ H', P H' → D.nx σ H') → c = true → te σ H fun _ H' => D.nx σ H') (h2 : c = false → P H) : if c = true then tDrop te D σ H else tNext D σ H := by
  cases e : c with
  | true => exact q_t (h1 h3 e)
  | false => exact q_f (h3 H (h2 e))
theorem nms_fm (g : Str → En) : ∀ ns : List Str, (nms (ns.filterMap fun x => (g x).map fun d => (x, d))).Sublist ns
  | [] => List.Sublist.refl _
  | n :: ns => by
    rw [List.filterMap_cons]
    cases e : g n with
    | none => exact (nms_fm g ns).cons n
    | some d => exact (nms_fm g ns).cons_cons n
theorem mN_nd (b o t : Hs) (k : Str) : (mN b o t k).Nodup := (srt_perm _).nodup_iff.mpr (uni_nd _)
theorem uni_len : ∀ (ts : List Tab) (l : List Str), (ts.foldl (fun acc t => (nms t).foldl addN acc) l).length ≤ l.length + (ts.map List.length).sum
  | [], l => Nat.le_refl _
  | t :: ts, l => by
    have h1 := uni_len ts ((nms t).foldl addN l)
    have h2 := foldN_len (nms t) l
    rw [nms_len] at h2
    rw [List.foldl_cons, List.map_cons, List.sum_cons]
    omega
theorem nms_mHs (b o t : Hs) : nms (mHs b o t) = nms b := by
  unfold mHs nms
  rw [List.map_map]
  exact List.map_id' _
end TU

set_option Elab.async false
set_option linter.all false
set_option maxRecDepth 100000
namespace TU
open PySem PySem.Spec PyProof.Rows L2
/-! ### repr of trees with lists and dicts -/
/-- sys.modules stands in the heap, a dict -/
structure SysM (h : Heap) : Prop where
  ex : ∃ o es n, h.get? sysModules = some o ∧ o.data = .dict es n
theorem SysM.no_seq {h : Heap} (x : SysM h) {o : Obj} {xs : Array Value} {n : Nat} (e : h.get? sysModules = some o) (d : o.data = .seq xs n) : False := by
  obtain ⟨o2, es, m, e2, d2⟩ := x.ex
  rw [e] at e2
  cases e2
  rw [d] at d2
  cases d2
section
variable {X : Cx} {pins : List (Addr × Obj)} {σ : L2.St} {H : Hp} {s : Shared} {P : Addr → Prop}
theorem SysM.on (x : SysM X.base) (I : Inv X pins σ H s) : SysM s.heap := by
  obtain ⟨o, es, n, e, d⟩ := x.ex
  exact ⟨o, es, n, I.bk _ _ e, d⟩
mutual
/-- a tree is read, and sys.modules is none of its objects: that is a dict of the module's own -/
theorem T.reads2 (I : Inv X pins σ H s) (hS : SysM s.heap) : ∀ (d : Tr) (v : V) (u : Value), T X.K H P v d → RelV v u → ∃ as, Reads s.heap u (py d) as ∧ sysModules ∉ as
  | .non, _, _, h, r => by
    cases h
    cases r
    exact ⟨_, Reads.none, fun h => nomatch h⟩
  | .bl b, _, _, h, r => by
    cases h
    cases r
    exact ⟨_, Reads.bool b, fun h => nomatch h⟩
  | .int i, _, _, h, r => by
    cases h
    obtain ⟨t, rfl⟩ := r
    exact ⟨_, Reads.int i t, fun h => nomatch h⟩
  | .str x, _, _, h, r => by
    cases h
    obtain ⟨t, rfl⟩ := r
    exact ⟨_, Reads.str x t, fun h => nomatch h⟩
  | .lst ds, _, _, h, r => by
    cases h with
    | lst p hs ha =>
      cases r
      obtain ⟨its, rv, ⟨o, n, ho, hc, _, hd⟩, _⟩ := I.list hs
      obtain ⟨as, hr, hn⟩ := Ts.reads2 I hS ds _ its ha rv
      refine ⟨_, Reads.list ho hc hd hr, fun q => ?_⟩
      rcases List.mem_cons.mp q with e | q
      · exact hS.no_seq (by rw [e]; exact ho) hd
      · exact hn q
  | .tup ds, _, _, h, r => by
    cases h with
    | tup hs ha =>
      cases r
      obtain ⟨its, rv, ⟨o, ho, hc, n, hd⟩, _⟩ := I.tuple hs
      obtain ⟨as, hr, hn⟩ := Ts.reads2 I hS ds _ its ha rv
      exact ⟨_, Reads.tuple ho hc hd hr, hn⟩
  | .dic ds, _, _, h, r => by
    cases h with
    | @dic a kvs _ p hs ha =>
      cases r
      obtain ⟨z, hd, vs, rel, o, es, ep, ho, hx, hdat, hk, hp, nd⟩ := dk_rd I.hok hs
      have hkeys : vs.map (·.1) = ds.map (·.1) := rel.keys.symm.trans ha.keys
      obtain ⟨bs, hr, hn⟩ := Tk.reads2 I hS ds kvs vs ha rel
      have e2 : es.toList.map (·.val) = vs.map (·.2) := vals_of_pairs hp
      rw [← e2, ← pyk_snd] at hr
      have hd' : a ≠ sysModules := by simpa using hd
      refine ⟨_, Reads.dict ho hx.1 hdat (reads_keys hp hkeys) hr, ?_⟩
      simp only [List.cons_append, List.nil_append, List.mem_cons, not_or]
      exact ⟨fun z => hd' z.symm, hn⟩
theorem Ts.reads2 (I : Inv X pins σ H s) (hS : SysM s.heap) : ∀ (ds : List Tr) (vs : List V) (us : List Value), Ts X.K H P vs ds → Vals vs us → ∃ as, ReadsAll s.heap us (pys ds) as ∧ sysModules ∉ as
  | [], _, _, h, r => by
    cases h
    cases r
    exact ⟨_, ReadsAll.nil, fun h => nomatch h⟩
  | d :: ds, _, _, h, r => by
    cases h with
    | cons h1 h2 =>
      cases r with
      | cons r1 r2 =>
        obtain ⟨as, q1, n1⟩ := T.reads2 I hS d _ _ h1 r1
        obtain ⟨bs, q2, n2⟩ := Ts.reads2 I hS ds _ _ h2 r2
        refine ⟨_, ReadsAll.cons q1 q2, ?_⟩
        rw [List.mem_append, not_or]
        exact ⟨n1, n2⟩
theorem Tk.reads2 (I : Inv X pins σ H s) (hS : SysM s.heap) : ∀ (ds : List (Key × Tr)) (kvs : List (Key × V)) (vs : List (Key × Value)), Tk X.K H P kvs ds → KV kvs vs → ∃ as, ReadsAll s.heap (vs.map (·.2)) (pys (ds.map (·.2))) as ∧ sysModules ∉ as
  | [], _, _, h, r => by
    cases h
    cases r
    exact ⟨_, ReadsAll.nil, fun h => nomatch h⟩
  | d :: ds, _, _, h, r => by
    cases h with
    | cons h1 h2 =>
      cases r with
      | cons r1 r2 =>
        obtain ⟨as, q1, n1⟩ := T.reads2 I hS _ _ _ h1 r1.2
        obtain ⟨bs, q2, n2⟩ := Tk.reads2 I hS ds _ _ h2 r2
        refine ⟨_, ReadsAll.cons q1 q2, ?_⟩
        rw [List.mem_append, not_or]
        exact ⟨n1, n2⟩
end
end
def rReprS (K : PySem.W.Frag) : List V → Hp → VK → Prop := fun xs H Q => ∃ P a d, xs = [.ref a] ∧ T K H P (.ref a) d ∧ (py d).showable = true ∧ dep d ≤ 60 ∧ (py d).shown.length ≤ sizeLine ∧ Q (.str (py d).shown) H
theorem call_reprS {X : Cx} (hS : SysM X.base) (hg : X.A.guards = some []) (hu : X.A.units + 64 < cLine) : CallR X (.builtin "repr") (rReprS X.K) := by
  intro pins s σ H xs us Q I r h
  obtain ⟨P, a, d, rfl, ht, hs, hd, hz, q⟩ := h
  obtain ⟨u, rfl, rx⟩ := vals1 r
  cases (show u = Value.ref a from rx)
  obtain ⟨as, r1, na⟩ := T.reads2 I (hS.on I) d _ _ ht rfl
  exact repr_of_reads' r1 hs (fun _ => na) hg (by rw [depth_py]; omega) (fun _ _ e => e) (fun h' u tk k => ⟨.str _, H, I.kept (t' := tk) k, ⟨u, rfl⟩, q⟩) hz
theorem k_reprS {X : Cx} {K : PySem.W.Frag} (h : X.K = K) (hS : SysM X.base) (hg : X.A.guards = some []) (hu : X.A.units + 64 < cLine) : CallR X (.builtin "repr") (rReprS K) := h ▸ call_reprS hS hg hu
theorem q_reprS {K : PySem.W.Frag} {H : Hp} {Q : VK} {N : Addr → Prop} {a : Addr} {n m : Nat} {j : Bool} {d : Tr} (t : T K H N (.ref a) d) (v : Vw n m j d) (hn : n ≤ 100000) (hm : m ≤ 60) (q : Q (.str (py d).shown) H) : rReprS K [.ref a] H Q :=
  ⟨N, a, d, rfl, t, v.sh, Nat.le_trans v.dp hm, Nat.le_trans v.len (Nat.le_trans (show 15 * n + 13 ≤ 15 * 100000 + 13 by omega) (by decide)), q⟩
/-- the outermost call, where sys.modules is known to stand in the base -/
theorem sysM_of {l : PySem.W.OpenLaw} {q : Program} {loose : List Str} {XP : (Str → Option Value) → Heap → Prop} {w : World} {z0 : Shared} {mg mb : Str → Option Value} {h : Heap} (G : PySem.W.Ground q loose [] XP w z0 mg mb h) (hi : importsNone q = true) : SysM h := by
  obtain ⟨m, hm, _⟩ := (G.T.seer hi).mods
  obtain ⟨o, es, n, e, d, _⟩ := hm
  exact ⟨o, es, n, e, d⟩
end TU

set_option Elab.async false
set_option linter.all false
set_option maxRecDepth 100000
namespace TU
open PySem PySem.Spec PyProof.Rows L2
/-! ### sets: what their laying and their walk need, whatever the members -/
def fshO (w : World) : Obj := { cls := .type "set", dict := none, data := .set #[] 0 (.fresh 0 0 (!w.params.followText "set-order")) }
/-- V h v k: the value v bears the member k; M h a L: the set at a has the values and members L -/
structure SetLaw (P : Program) (w : World) {κ : Type} (V : Heap → Value → κ → Prop) (M : Heap → Addr → List (Value × κ) → Prop) : Prop where
  mo : ∀ {h h' a L}, M h a L → (∀ o, h.get? a = some o → h'.get? a = some o) → M h' a L
  vk : ∀ {h h' v x}, V h v x → (∀ b o, h.get? b = some o → h'.get? b = some o) → V h' v x
  nw : ∀ {h a}, h.get? a = some (fshO w) → M h a []
  ad : ∀ {A : Around} {E : Value → Shared → Prop} {s : Shared} {a : Addr} {L : List (Value × κ)} {v : Value} {x : κ} {Q : Bool → Shared → Prop}, M s.heap a L → (∀ z ∈ L, V s.heap z.1 z.2) → V s.heap v x → L.length + 1 < 64 → A.units < cLine →
    (∀ b h' L' tk, Heap.SameBut a s.heap h' → s.toks ≤ tk → M h' a L' → (x ∈ L.map (·.2) → L' = L) → (x ∉ L.map (·.2) → L'.Perm ((v, x) :: L)) → Q b { s with heap := h', toks := tk }) → wpAny (model P w) A (setAdd a v) Q E s
  ot : ∀ {h a L}, M h a L → ∃ o es ep t, h.get? a = some o ∧ o.ExactSet ∧ o.data = .set es ep t ∧ t.fits es.size = true ∧ es.size < scanBound ∧ Ris t.place.toList ∧ (w.params.followText "set-order" = true ∨ t.led = true) ∧ es.toList.map (·.2) = L.map (·.1)
  nd : ∀ {h a L}, M h a L → (L.map (·.2)).Nodup
/-- what came of the first i items -/
structure Gath {κ : Type} (ks : List (Value × κ)) (i : Nat) (L : List (Value × κ)) : Prop where
  sub : ∀ p ∈ L, p ∈ ks.take i
  all : ∀ p ∈ ks.take i, p.2 ∈ L.map (·.2)
  len : L.length ≤ i
section
variable {κ : Type} {ks L L' : List (Value × κ)} {i : Nat} {x : Value × κ}
theorem Gath.old (g : Gath ks i L) (h : ks[i]? = some x) (hm : x.2 ∈ L.map (·.2)) : Gath ks (i + 1) L := by
  refine ⟨fun p hp => ?_, fun p hp => ?_, Nat.le_succ_of_le g.len⟩
  · rw [take_more h]
    exact List.mem_append_left _ (g.sub p hp)
  · rw [take_more h] at hp
    rcases List.mem_append.mp hp with c | c
    · exact g.all p c
    · rw [List.mem_singleton.mp c]
      exact hm
theorem Gath.add (g : Gath ks i L) (h : ks[i]? = some x) (pm : L'.Perm (x :: L)) : Gath ks (i + 1) L' := by
  have mem : ∀ k, k ∈ L'.map (·.2) ↔ k = x.2 ∨ k ∈ L.map (·.2) := fun k => by
    rw [(pm.map (·.2)).mem_iff, List.map_cons, List.mem_cons]
  refine ⟨fun p hp => ?_, fun p hp => ?_, by rw [pm.length_eq]; exact Nat.succ_le_succ g.len⟩
  · rw [take_more h]
    rcases List.mem_cons.mp (pm.mem_iff.mp hp) with c | c
    · rw [c]
      exact List.mem_append_right _ (List.mem_singleton.mpr rfl)
    · exact List.mem_append_left _ (g.sub p c)
  · rw [take_more h] at hp
    refine (mem _).mpr ?_
    rcases List.mem_append.mp hp with c | c
    · exact .inr (g.all p c)
    · exact .inl (by rw [List.mem_singleton.mp c])
end
section
variable {P : Program} {w : World} {κ : Type} {V : Heap → Value → κ → Prop} {M : Heap → Addr → List (Value × κ) → Prop}
/-- the loop of update -/
theorem SetLaw.loop (Z : SetLaw P w V M) {A : Around} {J d : Addr} {fp wr : List Addr} {G : Array GenState → Array GenState → Prop} {n : Nat} {Pv : Nat → Value → Prop} {St : Nat → Shared → Prop} {R : Result → Shared → Prop}
    (Wk : WalksS P w A.in1 J fp wr G n Pv St) (hd : d ∉ fp) (ks : List (Value × κ)) (hn : n = ks.length) (few : ks.length < 64) (val : ∀ i v, Pv i v → ∃ p, ks[i]? = some p ∧ v = p.1)
    (h0 : Heap) (hk : ∀ p ∈ ks, V h0 p.1 p.2) (hd0 : h0.get? d = none) (hw0 : ∀ b ∈ wr, h0.get? b = none) (hu : A.in1.units < cLine) :
    ∀ (m i : Nat) (s : Shared), n - i = m → i ≤ n → St i s → (∀ b o, h0.get? b = some o → s.heap.get? b = some o) → (∃ L, M s.heap d L ∧ Gath ks i L) →
      (∀ s' L, Moved (d :: wr) G s s' → M s'.heap d L → Gath ks n L → (∀ b o, h0.get? b = some o → s'.heap.get? b = some o) → R (.ok (.ret .none)) s') →
      codeAny (model P w) A (.builtin "set.update.loop" ⟨[.ref d, .ref J], []⟩) R s := by
  have dw : d ∉ wr := fun c => hd (Wk.sub _ c)
  have up : ∀ b ∈ wr, b ∈ d :: wr := fun b c => List.mem_cons_of_mem _ c
  have kp : ∀ {s s' : Shared}, Moved wr G s s' → (∀ b o, h0.get? b = some o → s.heap.get? b = some o) → ∀ b o, h0.get? b = some o → s'.heap.get? b = some o := fun mv k b o e =>
    mv.heap b o (fun c => by rw [hw0 b c] at e; cases e) (k b o e)
  intro m
  induction m with
  | zero =>
    rintro i s hm hi st k0 ⟨L, hL, g⟩ fin
    obtain rfl : i = n := by omega
    refine codeAny_builtin PyProof.Rows.F.entry_set_update_loop ?_
    rw [Around.under_plainId PyProof.Rows.F.plain_set_update_loop _]
    show wpAny _ A.in1 (pyNext (.ref J) >>= _) _ _ s
    refine wpAny_bind (Wk.done s _ _ st fun s' mv => ?_)
    show wpAny _ A.in1 (ret Value.none) _ _ s'
    exact wpAny_pure (fin s' L (mv.mono up) (Z.mo hL fun o e => mv.heap d o dw e) g (kp mv k0))
  | succ m ih =>
    rintro i s hm hi st k0 ⟨L, hL, g⟩ fin
    have lt : i < n := by omega
    refine codeAny_builtin PyProof.Rows.F.entry_set_update_loop ?_
    rw [Around.under_plainId PyProof.Rows.F.plain_set_update_loop _]
    show wpAny _ A.in1 (pyNext (.ref J) >>= _) _ _ s
    refine wpAny_bind (Wk.item i s _ _ lt st fun v s' hP st' mv => ?_)
    obtain ⟨p, hp, rfl⟩ := val i v hP
    have k1 := kp mv k0
    have sub : ∀ q ∈ L, q ∈ ks := fun q c => List.mem_of_mem_take (g.sub q c)
    show wpAny _ A.in1 (holding [p.1] (setAdd d p.1) >>= _) _ _ s'
    refine wpAny_bind (wpAny_holding (Z.ad (Z.mo hL fun o e => mv.heap d o dw e) (fun q c => Z.vk (hk q (sub q c)) k1) (Z.vk (hk p (List.mem_of_getElem? hp)) k1) (by have := g.len; omega) hu fun b h' L' tk sb ht hL' c1 c2 => ?_))
    have g' : Gath ks (i + 1) L' := by
      rcases Classical.em (p.2 ∈ L.map (·.2)) with c | c
      · rw [c1 c]
        exact g.old hp c
      · exact g.add hp (c2 c)
    have k2 : ∀ b o, h0.get? b = some o → h'.get? b = some o := fun b o e => (sb.2 b fun c => by rw [c, hd0] at e; cases e).trans (k1 b o e)
    refine wpAny_pure ⟨plainId_quiet PyProof.Rows.F.plain_set_update_loop _, ih (i + 1) _ (by omega) lt (Wk.frame _ s' _ _ st' ht fun b hb o e => ?_) k2 ⟨L', hL', g'⟩ fun s2 L2 mv2 hL2 g2 k3 => ?_⟩
    · exact (sb.2 b fun c => hd (by rw [← c]; exact hb)).trans e
    · refine fin s2 L2 (Moved.trans Wk.gtrans ((mv.mono up).then_heap ht fun b o hb e => ?_) mv2) hL2 g2 k3
      exact (sb.2 b fun c => hb (by rw [c]; exact List.mem_cons_self)).trans e
end
end TU

set_option Elab.async false
set_option linter.all false
set_option maxRecDepth 100000
namespace TU
open PySem PySem.Spec PyProof.Rows L2
section
variable {P : Program} {w : World} {κ : Type} {V : Heap → Value → κ → Prop} {M : Heap → Addr → List (Value × κ) → Prop} {A : Around} {E : Value → Shared → Prop} {s : Shared}
theorem fresh_none (h : Heap) {b : Addr} (hb : h.objs.size ≤ b) : h.get? b = none := by
  cases e : h.get? b with
  | none => rfl
  | some o => exact absurd (Heap.lt_size e) (Nat.not_lt.mpr hb)
theorem get_push (h : Heap) {b : Addr} {o u : Obj} (e : h.get? b = some o) : (h.push u).get? b = some o := Heap.get?_push_of_some _ e
theorem size_push2 (h : Heap) (u : Obj) : (h.push u).objs.size = h.objs.size + 1 := Heap.size_push h u
theorem get_own (h : Heap) {u : Obj} (f : u.isFreed = false := by rfl) : (h.push u).get? h.objs.size = some u := Heap.get?_push_size _ f
set_option maxHeartbeats 3200000 in
/-- set(xs), xs a list -/
theorem SetLaw.call (Z : SetLaw P w V M) {l : Addr} {its : Array Value} (ks : List (Value × κ)) {Q : Value → Shared → Prop} (hh : A.handled = none) (hl : s.heap.IsList l its) (hit : its.toList = ks.map (·.1)) (hk : ∀ p ∈ ks, V s.heap p.1 p.2) (few : ks.length < 64) (hu : A.units + 3 < cLine)
    (fin : ∀ (h' : Heap) (tk : Nat) L, M h' s.heap.objs.size L → Gath ks ks.length L → (∀ b o, s.heap.get? b = some o → h'.get? b = some o) → Q (.ref s.heap.objs.size) { s with heap := h', toks := tk }) :
    wpAny (model P w) A (call (.type "set") [.ref l]) Q E s := by
  have len : its.size = ks.length := by
    have e := congrArg List.length hit
    rwa [Array.length_toList, List.length_map] at e
  obtain ⟨cc, cl, mro⟩ := PySem.F.called_set.mro
  have made := PySem.F.called_set.made
  have sub := PySem.F.called_set.sub
  refine wpAny_call (codeAny_of_tree ?_)
  show wpAny _ _ (callAny (.type "set") ⟨[.ref l], []⟩) _ _ _
  refine wpAny_pure ⟨Code.quiet_builtin _ (by decide +kernel), codeAny_builtin PySem.F.entry_type_call ?_⟩
  rw [Around.under_plain (weight_type_call_type "set" [.ref l] []) rfl]
  have nt := PySem.F.called_set.notType
  have cr := PySem.F.called_set.canCreate
  have tc := PySem.F.typeCall_set_1 (.ref l)
  repeat (any_goals (first | assumption | wp_step))
  refine codeAny_mono (code_set_led1 (.ref l) (E := E) (Q₁ := fun x z => x = .ref s.heap.objs.size ∧ z = { s with heap := s.heap.push (fshO w) }) ⟨rfl, rfl⟩) fun r z hr => ?_
  match r, hr with
  | .error e, hr => exact hr
  | .ok .next, hr => exact hr.elim
  | .ok .brk, hr => exact hr.elim
  | .ok .cont, hr => exact hr.elim
  | .ok (.ret x), ⟨ex, ez⟩ =>
    subst ex ez
    have own := get_own s.heap (u := fshO w)
    have ty : Shared.TypeIs { s with heap := s.heap.push (fshO w) } (.ref s.heap.objs.size) "set" := ⟨_, own, rfl⟩
    have li := PySem.F.called_set.init.lookup
    have bi := PySem.F.called_set.init.bind (.ref s.heap.objs.size)
    repeat (any_goals (first | assumption | wp_step))
    refine codeAny_mono (codeAny_call_builtin (R := wants (fun r z => r = .none ∧ ∃ h' tk L, z = { s with heap := h', toks := tk } ∧ M h' s.heap.objs.size L ∧ Gath ks ks.length L ∧ ∀ b o, s.heap.get? b = some o → h'.get? b = some o) E) PySem.F.called_set.init.plain PySem.F.entry_set_init (check_set_init_1 ty ?_)) fun r z hr => ?_
    · obtain ⟨ol, hol, hcl, nl, hdl⟩ := id hl
      have hol2 := get_push s.heap hol (u := fshO w)
      have sl := PySem.F.sub_list_set
      have sf := PySem.F.sub_list_frozenset
      have ne : (Value.type "list" == Value.type "dict") = false := by decide
      have hl2 : (s.heap.push (fshO w)).IsList l its := ⟨_, hol2, hcl, nl, hdl⟩
      obtain ⟨ocls, od, odata, oslots⟩ := ol
      simp only at hcl hdl
      subst hcl hdl
      unfold Builtin.«set.__init__» noKeywords Builtin.Frozenset.updateFrom
      generalize hy : pyIter = PI
      wp_walk
      subst hy
      refine wpAny_pyIter_list hl2 (wpAny_bind (wpAny_runValue ?_))
      have lt : l < s.heap.objs.size := Heap.lt_size hol
      have sz := size_push2 s.heap (fshO w)
      have nh : A.in1.in1.in1.handled = none := by simp [hh]
      have lne : l ≠ (s.heap.push (fshO w)).objs.size := by
        rw [sz]
        exact Nat.ne_of_lt (Nat.lt_succ_of_lt lt)
      have dn : s.heap.objs.size ∉ [(s.heap.push (fshO w)).objs.size, l] := by
        rw [sz]
        intro c
        rcases List.mem_cons.mp c with c | c
        · exact absurd c (Nat.ne_of_lt (Nat.lt_succ_self _))
        · exact absurd (List.mem_singleton.mp c) (Nat.ne_of_gt lt)
      refine Z.loop ((Walks.list nh _ l lne its).toS) dn ks len few (fun i v hv => ?_) s.heap hk (fresh_none _ (Nat.le_refl _)) (fun b hb => fresh_none _ (by rw [List.mem_singleton.mp hb, sz]; exact Nat.le_succ _)) hu (its.size - 0) 0 _ (by omega) (Nat.zero_le _)
        ⟨⟨_, Heap.get?_push_size _ rfl, rfl, rfl⟩, hl2.push _⟩ (fun b o e => get_push _ (get_push _ e)) ⟨[], Z.nw (get_push _ own), ⟨(fun p hp => nomatch hp), (fun p hp => nomatch hp), Nat.le_refl _⟩⟩ fun z L mv hM g k => ?_
      · have e : its.toList[i]? = some v := by rw [Array.getElem?_toList]; exact hv
        rw [hit] at e
        obtain ⟨p, hp, rfl⟩ := map_at e
        exact ⟨p, hp, rfl⟩
      · obtain ⟨h', g2, d2, tk, o2⟩ := z
        have eg : g2 = s.gens := mv.gens
        have ed : d2 = s.drawn := mv.drawn
        have eo : o2 = s.os := mv.os
        subst eg ed eo
        show wpAny _ _ _ _ _ _
        refine wpAny_pure ?_
        show wpAny _ _ (ret Value.none) _ _ _
        rw [len] at g
        exact wpAny_pure ⟨rfl, h', tk, L, rfl, hM, g, k⟩
    · match r, hr with
      | .error e, hr => exact hr
      | .ok .next, hr => exact hr.elim
      | .ok .brk, hr => exact hr.elim
      | .ok .cont, hr => exact hr.elim
      | .ok (.ret x), ⟨ex, h', tk, L, ez, hM, g, k⟩ =>
        subst ex ez
        repeat (any_goals (first | assumption | wp_step))
        exact fin _ _ _ hM g k
end
end TU

set_option Elab.async false
set_option linter.all false
set_option maxRecDepth 100000
namespace TU
open PySem PySem.Spec PyProof.Rows L2
/-- what is in another order than a list's images is the images in another order -/
theorem perm_img {α β : Type} {f : α → β} : ∀ {l : List β} {m : List α}, l.Perm (m.map f) → ∃ m' : List α, m'.Perm m ∧ l = m'.map f
  | [], m, p => by
    have : m = [] := List.length_eq_zero_iff.mp (by have := p.length_eq; rw [List.length_map] at this; exact this.symm)
    exact ⟨[], by rw [this], rfl⟩
  | y :: l, m, p => by
    obtain ⟨x, hx, rfl⟩ := List.mem_map.mp (p.mem_iff.mp List.mem_cons_self)
    obtain ⟨a, b, rfl⟩ := List.append_of_mem hx
    have q : (a ++ x :: b).Perm (x :: (a ++ b)) := List.perm_middle
    have p2 : l.Perm ((a ++ b).map f) := (p.trans (q.map f)).cons_inv
    obtain ⟨m', h1, h2⟩ := perm_img p2
    exact ⟨x :: m', (h1.cons x).trans q.symm, by rw [List.map_cons, h2]⟩
/-! ### sets of texts -/
def VT (_ : Heap) (v : Value) (x : Str) : Prop := ∃ t, v = .str x t
def rowT (P : Program) (w : World) (z : Value × Str) : Int × Value := ((strKind P w).hash z.2, z.1)
structure MTR (P : Program) (w : World) (L : List (Value × Str)) (es : Array (Int × Value)) (t : SetTable) : Prop where
  rows : es.toList = L.map (rowT P w)
  txt : ∀ z ∈ L, ∃ tk, z.1 = .str z.2 tk
  nd : (L.map (·.2)).Nodup
  few : es.size < scanBound
  fit : t.fits es.size = true
  ris : Ris t.place.toList
  led : w.params.followText "set-order" = true ∨ t.led = true
def MT (P : Program) (w : World) (h : Heap) (a : Addr) (L : List (Value × Str)) : Prop := ∃ o es ep t, h.get? a = some o ∧ o.ExactSet ∧ o.data = .set es ep t ∧ MTR P w L es t
section
variable {P : Program} {w : World} {L : List (Value × Str)} {es : Array (Int × Value)} {t : SetTable}
theorem MTR.len (R : MTR P w L es t) : es.size = L.length := by
  rw [← Array.length_toList, R.rows, List.length_map]
theorem MTR.elems (R : MTR P w L es t) : ElemsOf (strKind P w) es.toList := fun e he => by
  rw [R.rows] at he
  obtain ⟨z, hz, rfl⟩ := List.mem_map.mp he
  obtain ⟨tk, e⟩ := R.txt z hz
  refine ⟨⟨z.2, ?_, rfl⟩, ?_⟩
  · show (strKind P w).is z.2 z.1 = true
    rw [e]
    exact strKind_is P w _ _
  · show z.1.scannable = true
    rw [e]
    rfl
theorem is_txt {x y : Str} {tk : Tok} : (strKind P w).is x (.str y tk) = true ↔ y = x := by
  constructor
  · intro e
    obtain ⟨t, ev⟩ := Value.isStrOf_shape (x := x) (v := .str y tk) e
    injection ev
  · rintro rfl
    exact strKind_is P w _ _
theorem MTR.has (R : MTR P w L es t) (x : Str) : x ∈ L.map (·.2) ↔ ∃ e ∈ es.toList, (strKind P w).is x e.2 = true := by
  rw [R.rows]
  constructor
  · intro h
    obtain ⟨z, hz, rfl⟩ := List.mem_map.mp h
    obtain ⟨tk, e⟩ := R.txt z hz
    exact ⟨_, List.mem_map.mpr ⟨z, hz, rfl⟩, by show (strKind P w).is z.2 z.1 = true; rw [e]; exact strKind_is P w _ _⟩
  · rintro ⟨e, he, q⟩
    obtain ⟨z, hz, rfl⟩ := List.mem_map.mp he
    obtain ⟨tk, e⟩ := R.txt z hz
    have q2 : (strKind P w).is x z.1 = true := q
    rw [e] at q2
    exact List.mem_map.mpr ⟨z, hz, is_txt.mp q2⟩
variable {A : Around} {E : Value → Shared → Prop} {s : Shared} {a : Addr}
/-- the last steps: what is stored, laid anew where it is too full -/
theorem mt_tail {g : Bool → Sem Unit} (hg : ∀ (b : Bool) (z : Shared) (Q' : Unit → Shared → Prop), Q' () z → wpAny (model P w) A (g b) Q' E z) {o : Obj} {es : Array (Int × Value)} {ep : Nat} {t : SetTable} (hob : s.heap.get? a = some o) (hx : o.ExactSet) (hda : o.data = .set es ep t)
    {es1 : Array (Int × Value)} {t2 : SetTable} {L1 : List (Value × Str)} (R1 : MTR P w L1 es1 t2) {wd : Bool} {R : Option Bool → Shared → Prop}
    (fin : ∀ h' L', Heap.SameBut a s.heap h' → MT P w h' a L' → L'.Perm L1 → R (some true) { s with heap := h' }) :
    wpAny (model P w) A (do
        storeSet a es1 t2
        if (!wd && t2.tooFull) = true then do
            g (relayAll t2 es1 (SetTable.grown es1.size)).2.2
            storeSet a (relayAll t2 es1 (SetTable.grown es1.size)).1 (relayAll t2 es1 (SetTable.grown es1.size)).2.1
            pure (some true)
          else pure (some true)) R E s := by
  refine wpAny_bind (wpAny_storeSet_of hob hda ?_ (fits_of_scanBound R1.few))
  have ob1 := store_at (es' := es1) (t' := t2) hob hda
  have b1 := Heap.SameBut.update s.heap a (Obj.putSet es1 t2)
  split
  · have y1 := relayAll_perm t2 es1 (SetTable.grown es1.size)
    have y2 := relayAll_fits t2 es1 (SetTable.grown es1.size)
    have y3 := relayAll_ris t2 es1 (SetTable.grown es1.size)
    have y4 := relayAll_led t2 es1 (SetTable.grown es1.size)
    generalize relayAll t2 es1 (SetTable.grown es1.size) = Y at y1 y2 y3 y4 ⊢
    obtain ⟨es2, t3, gv⟩ := Y
    dsimp only at y1 y2 y3 y4 ⊢
    rw [R1.rows] at y1
    obtain ⟨L', z1, z2⟩ := perm_img y1
    have sz : es2.size = es1.size := by rw [← Array.length_toList, z2, List.length_map, z1.length_eq, R1.len]
    have R2 : MTR P w L' es2 t3 := ⟨z2, fun q hq => R1.txt q (z1.mem_iff.mp hq), (z1.map (·.2)).nodup_iff.mpr R1.nd, by rw [sz]; exact R1.few, y2, y3, R1.led.imp id fun q => by rw [y4]; exact q⟩
    refine wpAny_bind (hg _ _ _ (wpAny_bind (wpAny_storeSet_of ob1 rfl ?_ (fits_of_scanBound R2.few))))
    have ob2 := store_at (es' := es2) (t' := t3) ob1 rfl
    exact wpAny_pure (fin _ L' (b1.trans (Heap.SameBut.update _ a _)) ⟨_, es2, _, t3, ob2, hx, rfl, R2⟩ z1)
  · exact wpAny_pure (fin _ L1 b1 ⟨_, es1, _, t2, ob1, hx, rfl, R1⟩ (List.Perm.refl _))
theorem mt_add {L : List (Value × Str)} {x : Str} {tk : Tok} {Q : Bool → Shared → Prop} (hM : MT P w s.heap a L) (few : L.length + 1 < scanBound)
    (fin : ∀ b h' L', Heap.SameBut a s.heap h' → MT P w h' a L' → (x ∈ L.map (·.2) → L' = L) → (x ∉ L.map (·.2) → L'.Perm ((.str x tk, x) :: L)) → Q b { s with heap := h' }) :
    wpAny (model P w) A (setAddHashed a (.str x tk) ((strKind P w).hash x)) Q E s := by
  obtain ⟨o, es, ep, t, hob, hx, hda, R⟩ := hM
  have ky : (strKind P w).is x (.str x tk) = true := strKind_is P w _ _
  have scn : (Value.str x tk).scannable = true := rfl
  unfold setAddHashed setAddHashedIn
  refine wpAny_holding (wpAny_bind (wpAny_setState_of hob hda R.fit ?_))
  dsimp only
  rw [byScan_of scn R.few R.elems]
  simp only [↓reduceIte]
  unfold setAddByScan
  refine wpAny_bind (wpAny_bind (wpAny_rule (wpAny_bind (wpAny_setScan_of ky hob hda R.fit R.elems ?_))))
  cases fi : List.findIdx? (fun e => (strKind P w).is x e.2) es.toList with
  | some j =>
    dsimp only
    obtain ⟨hj, pj, _⟩ := List.findIdx?_eq_some_iff_getElem.mp fi
    have m : x ∈ L.map (·.2) := (R.has x).mpr ⟨_, List.getElem_mem hj, pj⟩
    exact wpAny_pure (wpAny_pure (fin false s.heap L (Heap.SameBut.refl a s.heap) ⟨o, es, ep, t, hob, hx, hda, R⟩ (fun _ => rfl) fun c => absurd m c))
  | none =>
    dsimp only
    have nm : x ∉ L.map (·.2) := fun c => by
      obtain ⟨e, he, q⟩ := (R.has x).mp c
      have c := List.findIdx?_eq_none_iff.mp fi e he
      rw [q] at c
      cases c
    have give : ∀ (b : Bool) {z : Shared} {Q' : Unit → Shared → Prop}, Q' () z → wpAny (model P w) A (match b with | true => rule "set.scan.the-table-gave-way" | false => pure ()) Q' E z := fun b z Q' q => by
      cases b <;> first | exact wpAny_pure q | exact wpAny_rule q
    have y1 := layNew_perm t es ((strKind P w).hash x) (.str x tk)
    have y2 := layNew_fits t es ((strKind P w).hash x) (.str x tk)
    have y3 := layNew_ris t es ((strKind P w).hash x) (.str x tk) R.ris
    have y4 := layNew_led t es ((strKind P w).hash x) (.str x tk)
    generalize layNew t es ((strKind P w).hash x) (.str x tk) = Y at y1 y2 y3 y4 ⊢
    obtain ⟨es1, t1, wd, gv⟩ := Y
    dsimp only at y1 y2 y3 y4 ⊢
    rw [Array.toList_push] at y1
    have y5 : es1.toList.Perm (((Value.str x tk, x) :: L).map (rowT P w)) := by
      rw [List.map_cons, ← R.rows]
      exact y1.trans (List.perm_append_singleton _ _)
    obtain ⟨L1, z1, z2⟩ := perm_img y5
    have sz : es1.size = L.length + 1 := by rw [← Array.length_toList, z2, List.length_map, z1.length_eq, List.length_cons]
    have R1 : ∀ t2 : SetTable, t2.fits es1.size = true → Ris t2.place.toList → (w.params.followText "set-order" = true ∨ t2.led = true) → MTR P w L1 es1 t2 := fun t2 f r l =>
      ⟨z2, fun q hq => by
        rcases List.mem_cons.mp (z1.mem_iff.mp hq) with c | c
        · rw [c]
          exact ⟨tk, rfl⟩
        · exact R.txt q c, (z1.map (·.2)).nodup_iff.mpr (List.nodup_cons.mpr ⟨nm, R.nd⟩), by rw [sz]; exact few, f, r, l⟩
    have lled : w.params.followText "set-order" = true ∨ t1.led = true := R.led.imp id fun q => by rw [y4]; exact q
    refine wpAny_bind (give _ ?_)
    split
    · refine wpAny_bind ?_
      rw [hashByValue_scannable 8 scn]
      refine wpAny_pure ?_
      refine mt_tail (L1 := L1) ?_ hob hx hda (R1 _ ?_ ?_ ?_) ?_
      · intro b z Q' q
        cases b <;> first | exact wpAny_pure q | exact wpAny_rule q
      · first | (split <;> first | exact y2 | exact SetTable.fits_plain_off y2) | exact y2
      · first | (split <;> exact y3) | exact y3
      · first | (split <;> exact lled) | exact lled
      · intro h' L' sb hM pm
        dsimp only
        exact wpAny_pure (fin true h' L' sb hM (fun c => absurd c nm) fun _ => pm.trans z1)
    · refine wpAny_bind (wpAny_pure ?_)
      simp only [↓reduceIte]
      refine mt_tail (L1 := L1) ?_ hob hx hda (R1 _ y2 y3 lled) ?_
      · intro b z Q' q
        cases b <;> first | exact wpAny_pure q | exact wpAny_rule q
      · intro h' L' sb hM pm
        dsimp only
        exact wpAny_pure (fin true h' L' sb hM (fun c => absurd c nm) fun _ => pm.trans z1)
end
theorem mt_law (P : Program) (w : World) : SetLaw P w VT (MT P w) where
  mo := fun ⟨o, es, ep, t, e, r⟩ k => ⟨o, es, ep, t, k o e, r⟩
  vk := fun h _ => h
  nw := fun e => ⟨_, #[], 0, _, e, ⟨rfl, rfl, rfl⟩, rfl, rfl, (fun z hz => nomatch hz), List.nodup_nil, by decide, rfl, List.Pairwise.nil, by
    show _ ∨ (!w.params.followText "set-order") = true
    cases w.params.followText "set-order"
    · exact .inr rfl
    · exact .inl rfl⟩
  ad := fun {A E s a L v x Q} hM _ hv few hu fin => by
    obtain ⟨tk, rfl⟩ := hv
    unfold setAdd
    refine wpAny_holding (wpAny_bind ((strKind P w).pyHash (k := x) (strKind_is P w _ _) ?_))
    exact mt_add (s := { s with toks := s.toks + 1 }) hM (by unfold scanBound; omega) fun b h' L' sb hM' c1 c2 => fin b h' L' _ sb (Nat.le_succ _) hM' c1 c2
  ot := fun ⟨o, es, ep, t, e, x, d, R⟩ => ⟨o, es, ep, t, e, x, d, R.fit, R.few, R.ris, R.led, by rw [R.rows, List.map_map]; rfl⟩
  nd := fun ⟨o, es, ep, t, e, x, d, R⟩ => R.nd
end TU

set_option Elab.async false
set_option linter.all false
set_option maxRecDepth 100000
namespace TU
open PySem PySem.Spec PyProof.Rows L2
/-- a set of texts: its members -/
def STO (P : Program) (w : World) (a : Addr) (ss : List Str) : HO := .ext fun h => ∃ L, MT P w h a L ∧ L.map (·.2) = ss
theorem sto_ok {P : Program} {w : World} {H : Hp} {h : Heap} {a : Addr} {L : List (Value × Str)} (m : MT P w h a L) : ObjOk P w H h a (STO P w a (L.map (·.2))) := by
  refine ⟨⟨L, m, rfl⟩, ?_, fun h1 h2 ⟨L', m', e⟩ k => ⟨L', (mt_law P w).mo m' k, e⟩⟩
  obtain ⟨o, _, _, _, e, _⟩ := m
  exact ⟨o, e⟩
theorem strs_zip : ∀ {vs : List Value} {ss : List Str}, StrsAre vs ss → ∃ ks : List (Value × Str), vs = ks.map (·.1) ∧ ss = ks.map (·.2) ∧ ∀ p ∈ ks, ∃ t, p.1 = .str p.2 t
  | _, _, .nil => ⟨[], rfl, rfl, fun _ m => nomatch m⟩
  | _, _, .cons y t r => by
    obtain ⟨ks, h1, h2, h3⟩ := strs_zip r
    refine ⟨(.str y t, y) :: ks, by rw [h1]; rfl, by rw [h2]; rfl, fun p m => ?_⟩
    rcases List.mem_cons.mp m with c | c
    · rw [c]
      exact ⟨t, rfl⟩
    · exact h3 p c
theorem zip_strs : ∀ {ks : List (Value × Str)}, (∀ p ∈ ks, ∃ t, p.1 = .str p.2 t) → StrsAre (ks.map (·.1)) (ks.map (·.2))
  | [], _ => .nil
  | p :: ks, h => by
    obtain ⟨t, e⟩ := h p List.mem_cons_self
    rw [List.map_cons, List.map_cons, e]
    exact .cons _ t (zip_strs fun q m => h q (List.mem_cons_of_mem _ m))
/-- set(xs), xs a list of texts -/
def rSetL (K : PySem.W.Frag) (P : Program) (w : World) : List V → Hp → VK → Prop := fun vs H Q => ∃ (l : Addr) (ss : List Str), vs = [.ref l] ∧ SqL K H l (ss.map V.str) ∧ ss.length < 64 ∧
  ∀ p zs, H p = none → zs.Nodup → (∀ x, x ∈ zs ↔ x ∈ ss) → zs.length ≤ ss.length → Q (.ref p) (upd H p (STO P w p zs))
theorem call_setL {X : Cx} (hc : X.calm = true) (hu : X.A.units + 64 < cLine) : CallR X (.type "set") (rSetL X.K X.prog X.w) := by
  intro pins s σ H vs us Q I r h
  obtain ⟨l, ss, rfl, hs, few, q⟩ := h
  obtain ⟨its, rv, hl, _⟩ := I.list hs
  rw [Vals.ref1 r]
  obtain ⟨ks, e1, e2, e3⟩ := strs_zip rv.strs
  subst e2
  rw [List.length_map] at few q
  refine (mt_law X.prog X.w).call (A := X.A) ks (I.ok.hd hc) hl.isList (by rw [e1]) e3 few (by omega) fun h' tk L m g k => ?_
  refine ⟨.ref _, _, I.laid (t' := tk) k (Nat.le_refl _) (sto_ok m), rfl, q _ _ (I.hok.fresh (Nat.le_refl _)) ((mt_law X.prog X.w).nd m) (fun x => ?_) (by rw [List.length_map]; exact g.len)⟩
  have tk : ks.take ks.length = ks := List.take_length
  constructor
  · intro hx
    obtain ⟨z, hz, rfl⟩ := List.mem_map.mp hx
    have := g.sub z hz
    rw [tk] at this
    exact List.mem_map.mpr ⟨z, this, rfl⟩
  · intro hx
    obtain ⟨z, hz, rfl⟩ := List.mem_map.mp hx
    exact g.all z (by rw [tk]; exact hz)
/-- sorted(s), s a set of texts -/
def rSortST (P : Program) (w : World) : List V → Hp → VK → Prop := fun vs H Q => ∃ (a : Addr) (zs : List Str), vs = [.ref a] ∧ H a = some (STO P w a zs) ∧ zs.length < 64 ∧ ∀ p, H p = none → Q (.ref p) (upd H p (.lst ((srt zs).map V.str)))
theorem call_sortST {X : Cx} (hc : X.calm = true) : CallR X (.builtin "sorted") (rSortST X.prog X.w) := by
  intro pins s σ H vs us Q I r h
  obtain ⟨a, zs, rfl, ha, few, q⟩ := h
  rw [Vals.ref1 r]
  obtain ⟨L, m, rfl⟩ := (I.hok a _ ha).1
  obtain ⟨o, es, ep, t, hob, hx, hda, fit, fw, ris, led, ev⟩ := (mt_law X.prog X.w).ot m
  have txt : ∀ p ∈ L, ∃ t, p.1 = .str p.2 t := by
    obtain ⟨_, _, _, _, _, _, _, R⟩ := m
    exact R.txt
  refine Calls.call_function_entry kind_sorted plain_sorted entry_sorted (args_sorted1 _) ?_
  unfold Builtin.«sorted»
  refine wpAny_bind (wpAny_pure ?_)
  refine wpAny_bind (collect_set (A := X.A.in1) (I.ok.hd hc) ⟨o, hob, hx.1, hda⟩ fit fw ris led fun s1 vs k1 z1 g1 o1 pm => ?_)
  rw [ev] at pm
  obtain ⟨L1, p1, e1⟩ := perm_img pm
  subst e1
  have sa : StrsAre (L1.map (·.1)) (L1.map (·.2)) := zip_strs fun p mp => txt p (p1.mem_iff.mp mp)
  have ln : L1.length < 64 := by
    rw [p1.length_eq]
    rwa [List.length_map] at few
  refine wpAny_bind (wpAny_newList ?_ (by rw [List.length_map, sizeLine_eq]; omega))
  have own := get_own s1.heap (u := seqObj "list" (L1.map (·.1)).toArray 0)
  show wpAny _ _ _ _ _ { s1 with heap := s1.heap.push (seqObj "list" (L1.map (·.1)).toArray 0) }
  refine wpAny_bind (wpAny_holding (wpAny_call_entry slot_list_sort ⟨_, own, rfl⟩ entry_list_sort (list_sort_treeK strKind_oneLt (s := { s1 with heap := s1.heap.push (seqObj "list" (L1.map (·.1)).toArray 0) }) own sa.keysOf (fun v1 v2 rest e => keyKind_strs (by rw [← e]; exact sa)) (by rw [List.length_map]; exact ln) fun st hp hs => ⟨_, rfl, ?_⟩) (args_list_sort _)))
  obtain ⟨ys, y1, y2, y3⟩ := sorted_out_str sa hp hs
  obtain ⟨n2, hn2⟩ := sortedHeap_at (vs := L1.map (·.1)) (out := (arrOf st).map (·.2)) own
  have ey : ys = srt (L.map (·.2)) := sorted_is (y2.trans (p1.map _)) y3
  have lz : (ys.map V.str).length ≤ sizeLine := by
    rw [List.length_map, y2.length_eq, List.length_map, sizeLine_eq]
    omega
  have es : s1 = { s with heap := s1.heap, gens := s1.gens, drawn := s1.drawn, toks := s1.toks } := by
    cases s1
    cases s
    cases o1
    rfl
  have old : ∀ b u, s.heap.get? b = some u → (sortedHeap (s1.heap.push (seqObj "list" (L1.map (·.1)).toArray 0)) s1.heap.objs.size (L1.map (·.1)) ((arrOf st).map (·.2))).get? b = some u := fun b u e => by
    have e2 := k1 b u e
    have hb : b < s1.heap.objs.size := Heap.lt_size e2
    rw [sortedHeap_old (Nat.ne_of_lt hb) (by rw [size_push']; exact Nat.lt_succ_of_lt hb)]
    exact get_push _ e2
  have hn : H s1.heap.objs.size = none := I.hok.fresh z1
  have J : Inv X pins σ (upd H s1.heap.objs.size (.lst (ys.map V.str))) { s with heap := sortedHeap (s1.heap.push (seqObj "list" (L1.map (·.1)).toArray 0)) s1.heap.objs.size (L1.map (·.1)) ((arrOf st).map (·.2)), gens := s1.gens, drawn := s1.drawn, toks := s1.toks } :=
    I.call (ch := []) (Un.laid old z1 hn) (I.hok.laid old z1 ⟨lz, ((arrOf st).map (·.2)).toList, n2, vals_of_strs y1, by rw [Array.toArray_toList]; exact hn2⟩) (by rw [g1]; exact I.bare) (fun _ z => nomatch z)
  refine wpAny_pure ⟨_, rfl, .ref s1.heap.objs.size, _, ?_, rfl, q _ hn⟩
  rw [← ey]
  have e3 : s1.os = s.os := o1
  rw [show ({ s1 with heap := sortedHeap (s1.heap.push (seqObj "list" (L1.map (·.1)).toArray 0)) s1.heap.objs.size (L1.map (·.1)) ((arrOf st).map (·.2)) } : Shared) = { s with heap := sortedHeap (s1.heap.push (seqObj "list" (L1.map (·.1)).toArray 0)) s1.heap.objs.size (L1.map (·.1)) ((arrOf st).map (·.2)), gens := s1.gens, drawn := s1.drawn, toks := s1.toks } from by rw [← e3]]
  exact J
section
variable {K : PySem.W.Frag} {H : Hp} {Q : VK} {P : Program} {w : World}
theorem k_setL {X : Cx} (h : X.K = K) (hp : X.prog = P) (hw : X.w = w) (hc : X.calm = true) (hu : X.A.units + 64 < cLine) : CallR X (.type "set") (rSetL K P w) := by
  subst h hp hw
  exact call_setL hc hu
theorem k_sortST {X : Cx} (hp : X.prog = P) (hw : X.w = w) (hc : X.calm = true) : CallR X (.builtin "sorted") (rSortST P w) := by
  subst hp hw
  exact call_sortST hc
end
end TU

set_option Elab.async false
set_option linter.all false
set_option maxRecDepth 100000
namespace TU
open PySem PySem.Spec PyProof.Rows L2
/-! ### classes: methods, calls that may raise, fields -/
structure Dm (P : Program) (w : World) (K : PySem.W.Frag) (mg : Str → Option Value) (base : Heap) (C : Addr) (m : Str) (ps : List Str) (k : Nat) (sp : Sp) : Prop where
  ex : ∃ f fd, FnOk P w K mg base (L2.CX P w) k f fd ps sp ∧ Meth K C m f ∧ Binds K fd ps []
structure TopM (K : PySem.W.Frag) (C : Addr) (m qual : Str) (st : Stmt) (ps : List Str) : Prop where
  ex : ∃ f fd, Fun K m qual st f fd ∧ Meth K C m f ∧ Binds K fd ps []
/-- a class: how it is made, what it has -/
structure Kl (K : PySem.W.Frag) (mg : Str → Option Value) (x : Str) (C : Addr) (fs : List Str) : Prop where
  cl : Cls K C
  g : mg x = some (.ref C)
  no : ∀ f ∈ fs, NoAttr K C f
  mks : PySem.W.makesIn K C = true
  kp : PySem.W.keepIn K (.ref C) = true
section
variable {P : Program} {w : World} {K : PySem.W.Frag} {mg : Str → Option Value} {base : Heap} {C : Addr}
theorem TopM.dm {m qual : Str} {st : Stmt} {N ps : List Str} {k : Nat} {sp : Sp} (F : TopM K C m qual st ps) (S : FnScope N ps (defScope st)) (len : ∀ vs H Q E, sp vs H Q E → vs.length = ps.length)
    (hbody : ∀ (f : Addr) (cdv : Value) (A : Around) (outer : List Env) (s : Shared) (H : Hp) (vs : List V) (Q : VK) (E : XK), Room k (A.deeper (envOfC qual (defScope st) s.heap.objs.size f cdv)) → sp vs H Q E →
      ∃ t, PSs (cxOf (L2.CX P w) P w K mg base N qual (defScope st) f cdv A outer s H E) (defBody st) t ∧ t { nx := fun _ H' => Q .non H', rt := Q } (start N vs) H) : Dm P w K mg base C m ps (k + 1) sp := by
  obtain ⟨f, fd, F0, hm, hb⟩ := F.ex
  exact ⟨f, fd, F0.okX S len fun cdv A outer s H vs Q E hr h => hbody f cdv A outer s H vs Q E hr h, hm, hb⟩
/-- o.m(e, ..), what is raised wished for at the slots -/
def tMethX (C : Addr) (m : Str) (sp : Sp) (E : L2.St → XK) (ta : TE) (t : TA) : TE := fun σ H Q => ta σ H fun x H1 => ∃ a dx fs, x = .ref a ∧ H1 a = some (.ins C dx fs) ∧ fs.lookup m = none ∧ t σ H1 fun vs H2 => sp (x :: vs) H2 Q (E σ)
end
section
variable {X : Cx} {C : Addr} {m x : Str} {k : Nat} {ps fs : List Str} {sp : Sp} {o e : Expr} {es : List Expr} {ta : TE} {t : TA} {pos apos p : Pos} {E : L2.St → XK}
theorem pe_dm {pl : Sem Bool} (he : PE X o ta) (c : Kl X.K X.mg x C fs) (F : Dm X.prog X.w X.K X.mg X.base C m ps k sp) (hr : Room k X.A) (hx : ∀ σ, PassesAt (L2.CX X.prog X.w) X σ (E σ)) (ha : PA X (e :: es) t)
    (hst : starEach (e :: es) X.env = (false, eval e X.env) :: starEach es X.env := by rfl) (hpl : (backTo pos (starEach es X.env)).any (·.1) = false := by rfl)
    (ht : eval (.Call (.Attribute o m apos) (e :: es) [] pos) X.env = (do
      let ov ← eval o X.env
      standAt apos.atName
      let (f, first) ← holding [ov] (getMethod ov m pl)
      callWith pos f first (backTo pos (starEach (e :: es) X.env)) (backToKw pos (keywordEach [] X.env))) := by rfl) :
    PE X (.Call (.Attribute o m apos) (e :: es) [] pos) (tMethX C m sp E ta t) := by
  obtain ⟨f, fd, F0, hm, hb⟩ := F.ex
  refine ⟨fun pins s σ H Q I h => PySem.W.methodCall_KW (pl := pl) (thn (he.run pins s σ H _ I h) fun u s1 ⟨x, H1, I1, rx, a, dx, fs, ex, ea, l, q⟩ => ?_) ht⟩
  subst ex
  cases (show u = Value.ref a from rx)
  refine getmeth_ok I1 ea c.cl hm l (PySem.W.callWith_K (first := [.ref a]) (h₀ := X.base) I.ok.mod.kin hm.kp (thn (ha.run pos pins s1 σ H1 _ I1 q) fun us s2 ⟨vs, H2, I2, r, q2⟩ => ⟨I2.kIn, ?_⟩) hst hpl)
  exact run_fnS (us := .ref a :: us) (vs := .ref a :: vs) F0 hr hb (hx σ) I2 (.cons rfl r) q2
theorem pe_dm0 {pl : Sem Bool} (he : PE X o ta) (c : Kl X.K X.mg x C fs) (F : Dm X.prog X.w X.K X.mg X.base C m ps k sp) (hr : Room k X.A) (hx : ∀ σ, PassesAt (L2.CX X.prog X.w) X σ (E σ))
    (ht : eval (.Call (.Attribute o m apos) [] [] pos) X.env = (do
      let ov ← eval o X.env
      standAt apos.atName
      let (f, first) ← holding [ov] (getMethod ov m pl)
      callWith pos f first (backTo pos (starEach [] X.env)) (backToKw pos (keywordEach [] X.env))) := by rfl) :
    PE X (.Call (.Attribute o m apos) [] [] pos) (tMethX C m sp E ta tNil) := by
  obtain ⟨f, fd, F0, hm, hb⟩ := F.ex
  refine ⟨fun pins s σ H Q I h => PySem.W.methodCall_KW (pl := pl) (thn (he.run pins s σ H _ I h) fun u s1 ⟨x, H1, I1, rx, a, dx, fs, ex, ea, l, q⟩ => ?_) ht⟩
  subst ex
  cases (show u = Value.ref a from rx)
  exact getmeth_ok I1 ea c.cl hm l (PySem.W.callWith_K0 (first := [.ref a]) I1.kIn hm.kp (run_fnS (us := [.ref a]) (vs := [.ref a]) F0 hr hb (hx σ) I1 (.cons rfl .nil) q))
/-- C(e, ..), nothing is raised -/
theorem pe_mkC (c : Kl X.K X.mg x C fs) (F : Dm X.prog X.w X.K X.mg X.base C "__init__" ps k sp) (hr : Room (k + 1) X.A) (ha : PA X (e :: es) t) (hg : Gl X x := by rfl)
    (hdb : (x == ("__debug__" : Str)) = false := by decide) (he : starEach (e :: es) X.env = (false, eval e X.env) :: starEach es X.env := by rfl) (hpl : (backTo pos (starEach es X.env)).any (·.1) = false := by rfl) :
    PE X (.Call (.Name x p) (e :: es) [] pos) (tMake C sp [] E0 t) := by
  obtain ⟨f, fd, F0, hm, hb⟩ := F.ex
  exact pe_make ⟨c.mks, hm.at_, hm.fn, c.kp⟩ F0 hr hg c.g hb .nil passL ha hdb he hpl
end
section
variable {K : PySem.W.Frag} {σ : L2.St} {H : Hp} {D : Ends} {Q : VK} {te ta tb tc : TE} {tr : TA} {C : Addr} {m : Str} {sp : Sp} {E : L2.St → XK}
theorem q_methX (h : ta σ H fun x H1 => ∃ a dx fs, x = .ref a ∧ H1 a = some (.ins C dx fs) ∧ fs.lookup m = none ∧ tr σ H1 fun vs H2 => sp (x :: vs) H2 Q (E σ)) : tMethX C m sp E ta tr σ H Q := h
theorem q_make {sp : Sp} (h : tr σ H fun vs H1 => ∀ x dx, H1 x = none → H1 dx = none → dx ≠ x → sp (.ref x :: (vs ++ [])) (upd (upd H1 dx (.own x)) x (.ins C dx [])) (fun v H2 => v = .non ∧ Q (.ref x) H2) E0) : tMake C sp [] E0 tr σ H Q := h
theorem q_fld {f : Str} (h : te σ H fun x H1 => ∃ a C dx fs v, x = .ref a ∧ H1 a = some (.ins C dx fs) ∧ Cls K C ∧ NoAttr K C f ∧ fs.lookup f = some v ∧ Q v H1) : tFld K te f σ H Q := h
theorem q_fldE {f : Str} {mg : Str → Option Value} {x : Str} {fl : List Str} {a dx : Addr} {fs : List (Str × V)} {v : V} {R : V → Prop} (c : Kl K mg x C fl) (e : H a = some (.ins C dx fs)) (hf : f ∈ fl) (l : fs.lookup f = some v) (q : R v) :
    ∃ b C dx fs v, V.ref a = .ref b ∧ H b = some (.ins C dx fs) ∧ Cls K C ∧ NoAttr K C f ∧ fs.lookup f = some v ∧ R v := ⟨a, C, dx, fs, v, rfl, e, c.cl, c.no f hf, l, q⟩
theorem q_sfld {f : Str} {tv : TE} (h : tv σ H fun y H1 => te σ H1 fun x H2 => ∃ a C dx fs, x = .ref a ∧ H2 a = some (.ins C dx fs) ∧ Cls K C ∧ NoAttr K C f ∧ fs.length < 1000 ∧ D.nx σ (upd H2 a (.ins C dx (putF f y fs)))) : sFld K te tv f D σ H := h
theorem q_sfldE {f : Str} {mg : Str → Option Value} {x : Str} {fl : List Str} {a dx : Addr} {fs : List (Str × V)} {v : V} {R : Hp → Prop} (c : Kl K mg x C fl) (e : H a = some (.ins C dx fs)) (hf : f ∈ fl) (l : fs.length < 1000) (q : R (upd H a (.ins C dx (putF f v fs)))) :
    ∃ b C dx fs, V.ref a = .ref b ∧ H b = some (.ins C dx fs) ∧ Cls K C ∧ NoAttr K C f ∧ fs.length < 1000 ∧ R (upd H b (.ins C dx (putF f v fs))) := ⟨a, C, dx, fs, rfl, e, c.cl, c.no f hf, l, q⟩
theorem q_chain {r r' : R2} (h : ta σ H fun x H1 => tb σ H1 fun y H2 => r x y H2 fun z H3 => ∃ k, z = .bl k ∧ (if k = true then tc σ H3 fun w' H4 => r' y w' H4 Q else Q (.bl false) H3)) : tChain r r' ta tb tc σ H Q := h
theorem q_blE {b : Bool} {R : Bool → Prop} (h : R b) : ∃ k, V.bl b = V.bl k ∧ R k := ⟨b, rfl, h⟩
theorem q_bm0 {T : String} {r : V → List V → Hp → VK → Prop} (h : ta σ H fun x H1 => tyV K T x H1 ∧ r x [] H1 Q) : tBM0 K T r ta σ H Q := h
theorem q_pop {l : Addr} {xs : List V} {y : V} (h : H l = some (.lst (xs ++ [y]))) (q : Q y (upd H l (.lst xs))) : rPop (.ref l) [] H Q := by
  refine ⟨l, xs ++ [y], y, rfl, rfl, h, ?_, ?_⟩
  · rw [List.length_append]
    show (xs ++ [y])[xs.length + 1 - 1]? = _
    rw [Nat.add_sub_cancel, List.getElem?_append_right (Nat.le_refl _), Nat.sub_self]
    rfl
  · rw [List.dropLast_concat]
    exact q
theorem q_extend {l b : Addr} {xs zs : List V} (h : H l = some (.lst xs)) (hb : H b = some (.lst zs)) (z : xs.length + zs.length ≤ sizeLine) (q : Q .non (upd H l (.lst (xs ++ zs)))) : rExtend (.ref l) [.ref b] H Q := ⟨l, b, xs, zs, rfl, rfl, h, hb, z, q⟩
end
section
variable {X : Cx} {K : PySem.W.Frag} {o e : Expr} {to : TE} {t : TA} {apos cpos pos : Pos}
theorem k_extend (h : X.K = K) (ho : PE X o to) (ha : PA X [e] t) (hbase : attributeBase o "extend" X.env (eval o X.env) = eval o X.env := by rfl)
    (hfew : ((backTo cpos (starEach [e] X.env)).all (fun x => !x.1) && (backToKw cpos (keywordEach [] X.env)).all (fun x => x.1.isSome) && decide (([e] : List Expr).length + ([] : List Keyword).length + (if ([] : List Keyword).isEmpty then 0 else 1) < 30)) = true := by rfl)
    (hline : (apos.endLine == cpos.line) = true := by rfl) (hs : starEach [e] X.env = (false, eval e X.env) :: starEach [] X.env := by rfl) (hplain : (backTo cpos (starEach [] X.env)).any (·.1) = false := by rfl) :
    PE X (.Call (.Attribute o "extend" apos) [e] [] cpos) (tBM K "list" rExtend to t) := h ▸ pe_bm PySem.F.plainAttrs_list PySem.F.slot_list_extend PySem.F.type_list_extend mt_extend ho ha hbase hfew hline hs hplain
theorem k_popL (h : X.K = K) (ho : PE X o to) (hbase : attributeBase o "pop" X.env (eval o X.env) = eval o X.env := by rfl) (hline : (apos.endLine == cpos.line) = true := by rfl) :
    PE X (.Call (.Attribute o "pop" apos) [] [] cpos) (tBM0 K "list" rPop to) := h ▸ pe_bm0 PySem.F.plainAttrs_list PySem.F.slot_list_pop PySem.F.type_list_pop mt_pop ho hbase hline
/-- a statement that is never reached -/
theorem ps_never {s : Stmt} : PS X s (fun _ _ _ => False) := ⟨fun _ _ _ _ _ _ h => h.elim⟩
theorem k_sortX {P : Program} {w : World} (h : X.K = K) (hp : X.prog = P) (hw : X.w = w) (hc : X.calm = true) : CallR X (.builtin "sorted") (fun vs H Q => rSortU K vs H Q ∨ rSortST P w vs H Q) := (k_sort h hc).or (k_sortST hp hw hc)
end
/-! ### what the top has written, of methods and classes -/
theorem top_mkM {K : PySem.W.Frag} {C : Addr} {m qual : Str} {st : Stmt} {ps : List Str} {f : Addr} {oc : Value} {od an : Option Addr} {osl : Array (Option Value)} {kV doc pm cdv ct : Value} (ha : PySem.W.findIn K (.ref C) m = some (some (.ref f))) (hi : PySem.W.isFn K (.ref f) = true)
    (hl : K.lookup f = some ⟨oc, od, .func (PySem.W.fnOf m qual (defArgs st) (defBody st) (defScope st) .none kV doc pm an cdv ct), osl⟩) (hc : PySem.W.codeIn K cdv qual = true) (hk : PySem.W.keepIn K (.ref f) = true)
    (hb : ∀ (kV doc pm : Value) (an : Option Addr) (cdv ct : Value) (us : List Value), us.length = ps.length → bindArgs (PySem.W.fnOf m qual (defArgs st) (defBody st) (defScope st) .none kV doc pm an cdv ct) ⟨us, []⟩ = pure (ps.zip us)) : TopM K C m qual st ps :=
  ⟨f, _, fun_mk hl hc hk, ⟨ha, hi, hk⟩, (fun_mk hl hc hk).binds hb⟩
theorem glob_int {K : PySem.W.Frag} {h : Heap} {mg : Str → Option Value} {x : Str} {i : Int} {t : Tok} (X : K.In h) (G : h.Ns mainGlobals mg) (ha : PySem.W.nsIn K mainGlobals x = some (some (.int i t))) : ∃ t, mg x = some (.int i t) := ⟨t, PySem.W.mg_of X G ha⟩
theorem xc_mk1 {P : Program} {w : World} {K : PySem.W.Frag} {h : Heap} {mg : Str → Option Value} {base : Heap} {x qual f1 : Str} {st : Stmt} {C f : Addr} (X : K.In h) (G : h.Ns mainGlobals mg)
    {nm q : Str} {N : Addr} {bs bm : List Value} {sn : List Str} {sub : List Value} {ab : Bool} {col : Option Bool} {dd : Option Addr} {m0 m1 m2 m3 m5 : Option Value}
    {od an : Option Addr} {sl : Array (Option Value)} {oc kV dc pm cd ct : Value} {p1 p2 p3 p4 : Pos}
    (aC : PySem.W.nsIn K mainGlobals x = some (some (.ref C))) (xL : K.lookup C = some (excClassObj nm q C N bs bm true sn sub ab col dd m0 m1 m2 m3 m5 "ValueError.__new__")) (xb : PySem.HandSPX.refsVE bm = true)
    (sa : PySem.W.findIn K (.ref C) "__setattr__" = some (some (.builtin "object.__setattr__"))) (ga : PySem.W.findIn K (.ref C) "__getattribute__" = some (some (.builtin "BaseException.__getattribute__"))) (gg : PySem.W.findIn K (.ref C) "__getattr__" = some none)
    (n1 : PySem.W.findIn K (.ref C) f1 = some none)
    (a1 : PySem.W.findIn K (.ref C) "__init__" = some (some (.ref f))) (t1 : PySem.W.typeIn K (.ref f) = some (.type "function"))
    (l1 : K.lookup f = some ⟨oc, od, .func (PySem.W.fnOf "__init__" qual (defArgs st) (defBody st) (defScope st) .none kV dc pm an cd ct), sl⟩) (c1 : PySem.W.codeIn K cd qual = true) (k1 : PySem.W.keepIn K (.ref f) = true)
    (kC : PySem.W.keepIn K (.ref C) = true) (eC : PySem.W.subIn K (.ref C) (.type "BaseException") = some true) (tC : PySem.W.typeIn K (.ref C) = some (.type "type")) (hC : PySem.W.hasDictIn K C = true) (iC : PySem.W.isClsIn K C = true) (sC : PySem.W.subIn K (.ref C) (.ref C) = some true)
    (S : FnScope ["self", f1] ["self", f1] (defScope st)) (hb : defBody st = [.Assign [.Attribute (.Name "self" p1) f1 p2] (.Name f1 p3) p4])
    (d1 : (f1 == ("__debug__" : Str)) = false) (d2 : (f1 == ("__classdict__" : Str)) = false)
    (v0 : Vis (defScope st) "self") (v1 : Vis (defScope st) f1)
    (bi : ∀ (kV doc pm : Value) (an : Option Addr) (cdv ct : Value) (us : List Value), us.length = 2 → bindArgs (PySem.W.fnOf "__init__" qual (defArgs st) (defBody st) (defScope st) .none kV doc pm an cdv ct) ⟨us, []⟩ = pure ((["self", f1] : List Str).zip us)) :
    Xc P w K mg base x [f1] C := by
  have T : OexC K C := ⟨⟨nm, q, N, bs, bm, sn, sub, ab, col, dd, m0, m1, m2, m3, m5, xL, xb⟩, sa, eC, tC, kC⟩
  have F := fun_mk (st := st) l1 c1 k1
  refine ⟨T, ⟨ga, gg, eC, hC⟩, PySem.W.mg_of X G aC, fun y hy => ?_, exm_me eC iC tC sC, f, _, a1, t1, ok_init1 F S hb T n1 d1 d2 v0 v1, F.binds bi⟩
  rw [List.mem_singleton.mp hy]
  exact n1
end TU

set_option Elab.async false
set_option linter.all false
set_option maxRecDepth 100000
namespace TU
open PySem PySem.Spec PyProof.Rows L2
theorem k_sfld {X : Cx} {K : PySem.W.Frag} {o value : Expr} {f : Str} {ta tv : TE} {pos pos' : Pos} (h : X.K = K) (ha : PE X o ta) (hv : PE X value tv) (hs : swapsWith value (some (.Attribute o f pos')) pos.line X.env = pure false) :
    PS X (.Assign [.Attribute o f pos'] value pos) (sFld K ta tv f) := h ▸ ps_fld ha hv hs
theorem no_nil {K : PySem.W.Frag} {C : Addr} : ∀ f ∈ ([] : List Str), NoAttr K C f := fun _ m => nomatch m
theorem no_cons {K : PySem.W.Frag} {C : Addr} {f : Str} {fs : List Str} (h : PySem.W.findIn K (.ref C) f = some none) (t : ∀ g ∈ fs, NoAttr K C g) : ∀ g ∈ f :: fs, NoAttr K C g := fun g m => by
  rcases List.mem_cons.mp m with c | c
  · rw [c]
    exact h
  · exact t g c
/-! ### a history at an address -/
def hfs (a b c d : V) : List (Str × V) := [("houses", a), ("labels", b), ("lists", c), ("now", d)]
section
variable {a b c d x : V}
theorem hfs_h : (hfs a b c d).lookup ("houses" : Str) = some a := by kernel_rfl
theorem hfs_b : (hfs a b c d).lookup ("labels" : Str) = some b := by kernel_rfl
theorem hfs_l : (hfs a b c d).lookup ("lists" : Str) = some c := by kernel_rfl
theorem hfs_n : (hfs a b c d).lookup ("now" : Str) = some d := by kernel_rfl
theorem hfs_sh : putF "houses" x (hfs a b c d) = hfs x b c d := by kernel_rfl
theorem hfs_sb : putF "labels" x (hfs a b c d) = hfs a x c d := by kernel_rfl
theorem hfs_sl : putF "lists" x (hfs a b c d) = hfs a b x d := by kernel_rfl
theorem hfs_sn : putF "now" x (hfs a b c d) = hfs a b c x := by kernel_rfl
theorem hfs_new : putF "now" d (putF "lists" c (putF "labels" b (putF "houses" a []))) = hfs a b c d := by kernel_rfl
theorem hfs_no {m : Str} (h : ¬ m = "houses" ∧ ¬ m = "labels" ∧ ¬ m = "lists" ∧ ¬ m = "now") : (hfs a b c d).lookup m = none := by
  have f : ∀ {y : Str}, ¬ m = y → (m == y) = false := fun h => beq_eq_false_iff_ne.mpr h
  simp only [hfs, List.lookup, f h.1, f h.2.1, f h.2.2.1, f h.2.2.2]
end
theorem putF_le (f : Str) (x : V) : ∀ fs : List (Str × V), (putF f x fs).length ≤ fs.length + 1
  | [] => Nat.le_refl _
  | p :: r => by
    have ih := putF_le f x r
    unfold putF
    split
    · exact Nat.le_succ _
    · rw [List.length_cons, List.length_cons]
      omega
theorem putF_small {f : Str} {x : V} {fs : List (Str × V)} {n : Nat} (h : fs.length ≤ n) (hn : n + 1 < 1000) : (putF f x fs).length < 1000 := by
  have := putF_le f x fs
  omega
/-- lists of lists of edits: their addresses satisfy N -/
inductive EL (K : PySem.W.Frag) (N : Addr → Prop) (H : Hp) : List V → List (List Ed) → Prop
  | nil : EL K N H [] []
  | cons {b : Addr} {zs : List V} {es : List Ed} {xs : List V} {ess : List (List Ed)} : N b → H b = some (.lst zs) → Ts K H ff zs (es.map Ed.tr) → EL K N H xs ess → EL K N H (.ref b :: xs) (es :: ess)
section
variable {K : PySem.W.Frag} {H H' : Hp} {N N' W : Addr → Prop}
theorem EL.keep (k : Keeps W H H') (nt : ∀ a xs, W a → ¬ Rd H a (.tup xs)) (hN : ∀ a, N a → N' a ∧ ¬ W a) : ∀ {xs : List V} {ess : List (List Ed)}, EL K N H xs ess → EL K N' H' xs ess
  | _, _, .nil => .nil
  | _, _, .cons n e t r => .cons (hN _ n).1 (k _ _ (hN _ n).2 e) (t.keep k nt fun _ z => z.elim) (EL.keep k nt hN r)
theorem EL.mono (s : Same H H') {xs : List V} {ess : List (List Ed)} (h : EL K N H xs ess) : EL K N H' xs ess := h.keep (W := ff) (.of_same s) (fun _ _ z => z.elim) fun _ n => ⟨n, fun z => z⟩
theorem EL.imp {xs : List V} {ess : List (List Ed)} (h : EL K N H xs ess) (i : ∀ a, N a → N' a) : EL K N' H xs ess := h.keep (W := ff) (.of_same (Same.refl H)) (fun _ _ z => z.elim) fun a n => ⟨i a n, fun z => z⟩
theorem EL.len : ∀ {xs : List V} {ess : List (List Ed)}, EL K N H xs ess → xs.length = ess.length
  | _, _, .nil => rfl
  | _, _, .cons _ _ _ r => congrArg Nat.succ (EL.len r)
theorem EL.append : ∀ {xs ys : List V} {es fs : List (List Ed)}, EL K N H xs es → EL K N H ys fs → EL K N H (xs ++ ys) (es ++ fs)
  | _, _, _, _, .nil, h => h
  | _, _, _, _, .cons n e t r, h => .cons n e t (EL.append r h)
theorem EL.at : ∀ {xs : List V} {ess : List (List Ed)} {i : Nat} {es : List Ed}, EL K N H xs ess → ess[i]? = some es → ∃ b zs, xs[i]? = some (.ref b) ∧ N b ∧ H b = some (.lst zs) ∧ Ts K H ff zs (es.map Ed.tr)
  | _, _, _, _, .nil, e => by simp at e
  | _, _, 0, _, .cons n h t r, e => by
    cases (show some _ = some _ from e)
    exact ⟨_, _, rfl, n, h, t⟩
  | _, _, i + 1, _, .cons n h t r, e => by
    obtain ⟨b, zs, h1, h2⟩ := EL.at (i := i) r (by simpa using e)
    exact ⟨b, zs, by simpa using h1, h2⟩
theorem EL.take (i : Nat) : ∀ {xs : List V} {ess : List (List Ed)}, EL K N H xs ess → EL K N H (xs.take i) (ess.take i) := by
  induction i with
  | zero => exact fun _ => .nil
  | succ i ih =>
    intro xs ess h
    cases h with
    | nil => exact .nil
    | cons n e t r => exact .cons n e t (ih r)
theorem Ts.take (i : Nat) {P : Addr → Prop} : ∀ {xs : List V} {ds : List Tr}, Ts K H P xs ds → Ts K H P (xs.take i) (ds.take i) := by
  induction i with
  | zero => exact fun _ => .nil
  | succ i ih =>
    intro xs ds h
    cases h with
    | nil => exact .nil
    | cons a b => exact .cons a (ih b)
end
/-- a version: its house, its label, its edits -/
structure Ver where
  h : Hs
  lb : Str
  es : List Ed
def vH (vs : List Ver) : List Tr := vs.map fun v => .dic (hK v.h)
def vL (vs : List Ver) : List (List Ed) := vs.map Ver.es
def vB (vs : List Ver) : List V := vs.map fun v => V.str v.lb
structure HiAt (C : Addr) (K : PySem.W.Frag) (N : Addr → Prop) (H : Hp) (p : Addr) (vs : List Ver) (now : Nat) : Prop where
  ex : ∃ dx lh ll le xh xe, H p = some (.ins C dx (hfs (.ref lh) (.ref ll) (.ref le) (.int now))) ∧ N lh ∧ N ll ∧ N le ∧ H lh = some (.lst xh) ∧ Ts K H N xh (vH vs) ∧ H ll = some (.lst (vB vs)) ∧ H le = some (.lst xe) ∧ EL K N H xe (vL vs)
  lt : now < vs.length
  few : vs.length ≤ 401
section
variable {K : PySem.W.Frag} {H H' : Hp} {N N' W : Addr → Prop} {C p : Addr} {vs : List Ver} {now : Nat}
theorem HiAt.keep (h : HiAt C K N H p vs now) (k : Keeps W H H') (nt : ∀ a xs, W a → ¬ Rd H a (.tup xs)) (hN : ∀ a, N a → N' a ∧ ¬ W a) (hp : ¬ W p) : HiAt C K N' H' p vs now := by
  obtain ⟨dx, lh, ll, le, xh, xe, h1, n1, n2, n3, h2, h3, h4, h5, h6⟩ := h.ex
  exact ⟨⟨dx, lh, ll, le, xh, xe, k _ _ hp h1, (hN _ n1).1, (hN _ n2).1, (hN _ n3).1, k _ _ (hN _ n1).2 h2, h3.keep k nt hN, k _ _ (hN _ n2).2 h4, k _ _ (hN _ n3).2 h5, h6.keep k nt hN⟩, h.lt, h.few⟩
theorem HiAt.mono (h : HiAt C K N H p vs now) (s : Same H H') : HiAt C K N H' p vs now := h.keep (W := ff) (.of_same s) (fun _ _ z => z.elim) (fun _ n => ⟨n, fun z => z⟩) fun z => z
theorem HiAt.imp (h : HiAt C K N H p vs now) (i : ∀ a, N a → N' a) : HiAt C K N' H p vs now := h.keep (W := ff) (.of_same (Same.refl H)) (fun _ _ z => z.elim) (fun a n => ⟨i a n, fun z => z⟩) fun z => z
end
end TU

set_option Elab.async false
set_option linter.all false
set_option maxRecDepth 100000
namespace TU
open PySem PySem.Spec PyProof.Rows L2
theorem cutV_to {xs : List V} {n : Nat} (h : n ≤ xs.length) : cutV xs none (some (n : Int)) = xs.take n := by
  unfold cutV
  have e1 : HT.sIx xs.length 0 none = 0 := rfl
  have e2 : HT.sIx xs.length xs.length (some (n : Int)) = n := by
    unfold HT.sIx
    have hn : ¬ (n : Int) < 0 := by omega
    simp [hn]
    omega
  rw [e1, e2, List.drop_zero, Nat.sub_zero]
theorem atI_neg {xs : List V} {u : V} : atI (xs ++ [u]) (-1) = some u := by
  have e : ixN (xs ++ [u]).length (-1) = some xs.length := by
    unfold ixN
    rw [if_neg (by decide), List.length_append]
    show (if _ then _ else _) = _
    rw [if_pos (by show -((xs.length + 1 : Nat) : Int) ≤ -1; omega)]
    refine congrArg some ?_
    show (((xs.length + 1 : Nat) : Int) + -1).toNat = xs.length
    omega
  unfold atI
  rw [e]
  simp
/-- a Stale with its version; a TooMany of versions -/
def XSt (C : Addr) (v : Int) (H : Hp) (E : XK) : Prop := ∀ d H', Same H H' → H' d = some (.xd [("version", .int v)]) → E (.ref C) (some d) H'
def XTm (C : Addr) (H : Hp) (E : XK) : Prop := ∀ d H', Same H H' → H' d = some (.xd [("limit", .int 401), ("what", .str "versions")]) → E (.ref C) (some d) H'
theorem XSt.mono {C : Addr} {v : Int} {H H' : Hp} {E : XK} (s : Same H H') (x : XSt C v H E) : XSt C v H' E := fun d H1 s1 e => x d H1 (s.trans s1) e
theorem XTm.mono {C : Addr} {H H' : Hp} {E : XK} (s : Same H H') (x : XTm C H E) : XTm C H' E := fun d H1 s1 e => x d H1 (s.trans s1) e
structure VOk (v : Ver) : Prop where
  wf : Wf v.h
  fit : Fits 20 v.h
  len : v.h.length ≤ 40
  imm : ∀ e ∈ v.es, e.Imm
  few : v.es.length ≤ 30
/-- each version comes from the one before it by its edits -/
def Chn (vs : List Ver) : Prop := (∀ v ∈ vs, VOk v) ∧ ∀ (i : Nat) (u v : Ver), vs[i]? = some u → vs[i + 1]? = some v → ∃ f, appAll (cpH u.h) v.es = .ok f ∧ cpH f = v.h
instance : Inhabited Ver := ⟨⟨[], "", []⟩⟩
def vAt (vs : List Ver) (i : Nat) : Ver := (vs[i]?).getD default
/-- the edits forwards, behind version i up to i + n; backwards, from version i on n steps -/
def wayF (vs : List Ver) (i n : Nat) : List Ed := (List.range n).flatMap fun k => (vAt vs (i + 1 + k)).es
def wayB (vs : List Ver) (i n : Nat) : List Ed := (List.range n).flatMap fun k => (invs (cpH (vAt vs (i - k - 1)).h) (vAt vs (i - k)).es).reverse
def wayE (vs : List Ver) (i j : Nat) : List Ed := wayF vs i (j - i) ++ wayB vs i (i - j)
theorem flat_succ {α : Type} (f : Nat → List α) (n : Nat) : (List.range (n + 1)).flatMap f = (List.range n).flatMap f ++ f n := by
  rw [List.range_succ, List.flatMap_append]
  simp
theorem vAt_of {vs : List Ver} {i : Nat} {v : Ver} (h : vs[i]? = some v) : vAt vs i = v := by
  unfold vAt
  rw [h]
  rfl
section
variable {K : PySem.W.Frag} {σ : L2.St} {H : Hp} {D : Ends}
theorem q_rng2 {ta : TA} {R : It → Hp → Prop} (h : ta σ H fun vs H1 => ∃ i j : Int, vs = [.int i, .int j] ∧ (-(2 ^ 62) ≤ i ∧ i < 2 ^ 62 ∧ -(2 ^ 62) ≤ j ∧ j < 2 ^ 62) ∧ R (Itr i (j - i).toNat) H1) : iRng2 ta σ H R := h
theorem q_rng3 {ta : TA} {R : It → Hp → Prop} (h : ta σ H fun vs H1 => ∃ (i j c : Int) (n : Nat), vs = [.int i, .int j, .int c] ∧ RgC i j c n ∧ R (Itc i c n) H1) : iRng3 ta σ H R := h
/-- over range(i, j, c) -/
theorem for_rngC {lo c : Int} {n : Nat} {tb : TS} {j : Nat} (Pv : Nat → L2.St → Hp → Prop) (h0 : Pv 0 σ H)
    (hs : ∀ (i : Nat) σ H, i < n → Pv i σ H → tb { D with nx := Pv (i + 1), ct := Pv (i + 1), bk := D.nx } (σ.set j (some (.int (lo + i * c)))) H) (hd : ∀ σ H, Pv n σ H → D.nx σ H) : forB (Itc lo c n) (gName j) tb D σ H :=
  for_any walk_rangeC Pv h0 (fun _ _ _ _ _ => trivial) (fun i x σ H H' hi p y => by
    obtain ⟨e, y⟩ := y
    subst e
    rw [y]
    exact hs i σ _ hi p) hd
end
end TU

set_option Elab.async false
set_option linter.all false
set_option maxRecDepth 100000
namespace TU
open PySem PySem.Spec PyProof.Rows L2
section
variable {X : Cx} {pins : List (Addr × Obj)} {σ : L2.St} {H : Hp} {s : Shared} {P P' : Addr → Prop}
theorem tree_tab (I : Inv X pins σ H s) {x y : V} {v u : Value} {t t2 : Tab} (tx : T X.K H P x (.dic (tK t))) (ty : T X.K H P' y (.dic (tK t2))) (dis : ∀ z, P z → ¬ P' z) (nd : (nms t).Nodup) (im : immT t) (sm : ∀ r ∈ t, dep r.2 ≤ 60) (ho : ord t = ord t2) (rx : RelV x v) (ry : RelV y u) : PySem.W.EqTree X.prog X.w s 61 v u true := by
  obtain ⟨q, es, ex, pq, rq, kq⟩ := tx.dicAt
  subst ex
  obtain ⟨q2, es2, ey, pq2, rq2, kq2⟩ := ty.dicAt
  subst ey
  have ev : v = .ref q := rx
  have eu : u = .ref q2 := ry
  subst ev eu
  refine tree_dict (n := 60) I rq rq2 kq kq2 ?_ (fun z => dis q pq (by rw [z]; exact pq2)) fun k d x v m tx rx => ?_
  · unfold tK
    rw [List.length_map, List.length_map, ← len_ord t, ho, len_ord]
  · obtain ⟨r, hr, er⟩ := List.mem_map.mp m
    cases er
    have l3 : lk t r.1 = some r.2 := lk_of_mem nd hr
    rw [ord_lk ho] at l3
    exact ⟨r.2, by rw [get_tK, l3], fun y u ty ry => tree_leaf I tx ty (nod_of_imm (im r hr)) (sm r hr) rx ry⟩
/-- a != b, both equal houses -/
theorem ne_house {A : Around} {E : Value → Shared → Prop} {Q : Value → Shared → Prop} (I : Inv X pins σ H s) {a b : Addr} {h g : Hs} (ta : T X.K H P (.ref a) (.dic (hK h))) (tb : T X.K H P' (.ref b) (.dic (hK g))) (dis : ∀ x, P x → ¬ P' x) (wh : Wf h) (sm : Sml h) (e : cpH h = cpH g) (hu : A.units + 64 < cLine) (k : Q (.bool false) s) :
    wpAny (model X.prog X.w) A (compareOp .NotEq (.ref a) (.ref b)) Q E s := by
  obtain ⟨a', vk, ea, pa, ra, ka⟩ := ta.dicAt
  cases ea
  obtain ⟨b', vl, eb, pb, rb, kb⟩ := tb.dicAt
  cases eb
  obtain ⟨_, ya, va, rea, xa⟩ := dk_rd I.hok ra
  obtain ⟨_, yb, vb, reb, xb⟩ := dk_rd I.hok rb
  have hits : PySem.W.KeqHitsIn X.prog X.w A.in1 s vb va (va.all fun p => (valueAt vb p.1).isSome && true) := PySem.W.KeqHitsIn.of (e := fun _ => true) va fun k v y m hv => by
    obtain ⟨x, m2, rx⟩ := kv_mem rea m
    obtain ⟨d, m3, td⟩ := Tk.mem ka m2
    obtain ⟨p, hp, ep⟩ := List.mem_map.mp m3
    cases ep
    obtain ⟨t2, l2, ho⟩ := cp_lk e (lk_of_mem wh.nd hp)
    obtain ⟨y2, z1, z2⟩ := kb.gets (k := .inr p.1) (d := .dic (tK t2)) (by rw [get_hK, l2]; rfl)
    have rr := reb.val (.inr p.1)
    rw [z1] at rr
    obtain ⟨u, hu2, ru⟩ := rr.some_of
    rw [hv] at hu2
    cases hu2
    have wt := wh.tab p hp
    exact (tree_tab I td z2 dis wt.1 wt.2 (sm p hp) ho rx ru).at A.in1 (by show A.units + 1 + 61 < cLine; omega)
  have len : va.length = vb.length := by
    rw [← rea.length, ← reb.length, ka.length, kb.length]
    unfold hK
    rw [List.length_map, List.length_map, ← len_cp h, e, len_cp]
  have all : (va.all fun p => (valueAt vb p.1).isSome && true) = true := by
    rw [List.all_eq_true]
    intro p m
    obtain ⟨x, m2, rx⟩ := kv_mem rea m
    obtain ⟨d, m3, td⟩ := Tk.mem ka m2
    obtain ⟨r, hp, ep⟩ := List.mem_map.mp m3
    have e1 : p.1 = .inr r.1 := (congrArg Prod.fst ep).symm
    obtain ⟨t2, l2, ho⟩ := cp_lk e (lk_of_mem wh.nd hp)
    obtain ⟨y2, z1, z2⟩ := kb.gets (k := .inr r.1) (d := .dic (tK t2)) (by rw [get_hK, l2]; rfl)
    have rr := reb.val (.inr r.1)
    rw [z1] at rr
    obtain ⟨u, hu2, ru⟩ := rr.some_of
    rw [e1, hu2]
    rfl
  rw [all] at hits
  refine wpAny_richCompare_same_room (op := .NotEq) xa.typeIs xb.typeIs PySem.F.slot_dict_ne (wpAny_call_entry PySem.F.slot_dict_ne xa.typeIs PySem.F.entry_dict_ne ?_ (PySem.F.args_dict_ne_2 _ _)) (by omega)
  show wpAny _ _ (Builtin.Dict.dictSlotArgs "__ne__" ⟨[.ref a, .ref b], []⟩ >>= _) _ _ s
  refine wpAny_bind ?_; unfold Builtin.Dict.dictSlotArgs
  refine wpAny_bind (wpAny_notOrdered_dict xa.typeIs ?_); show wpAny _ _ (pure (Value.ref a, Value.ref b)) _ _ s
  refine wpAny_pure (wpAny_bind (wpAny_isInstance (T := "dict") xb.typeIs PySem.F.sub_dict_dict ?_))
  simp only [Bool.not_true, Bool.false_eq_true, if_false]; refine wpAny_bind (wpAny_pure (wpAny_bind (wpAny_pure ?_)))
  refine wpAny_bind (PySem.W.keq_samePairsIn ya yb xa xb (fun _ => hits) (wpAny_pure ⟨_, rfl, (fun z => nomatch z), ?_⟩))
  rw [len]
  simpa using k
end
def rNeHs (K : PySem.W.Frag) : R2 := fun x y H Q => ∃ (a b : Addr) (h g : Hs) (N1 N2 : Addr → Prop), x = .ref a ∧ y = .ref b ∧ T K H N1 (.ref a) (.dic (hK h)) ∧ T K H N2 (.ref b) (.dic (hK g)) ∧ (∀ z, N1 z → ¬ N2 z) ∧ Wf h ∧ Sml h ∧ cpH h = cpH g ∧ Q (.bl false) H
theorem op_neHs {X : Cx} (hu : X.A.units + 64 < cLine) : OpR X (compareOp .NotEq) (rNeHs X.K) := by
  intro pins s σ H x y v u Q I rx ry h
  obtain ⟨a, b, h, g, N1, N2, rfl, rfl, ta, tb, dis, wh, sm, e, k⟩ := h
  cases (show v = Value.ref a from rx)
  cases (show u = Value.ref b from ry)
  exact ne_house I ta tb dis wh sm e hu ⟨.bl _, H, I, rfl, k⟩
/-- != of anything, of houses too -/
def rNeW (K : PySem.W.Frag) : R2 := fun x y H Q => rNeU K x y H Q ∨ rNeHs K x y H Q
theorem k_neW {X : Cx} {K : PySem.W.Frag} (h : X.K = K) (hu : X.A.units + 64 < cLine) : OpR X (compareOp .NotEq) (rNeW K) := h ▸ (op_neU hu).or (op_neHs hu)
end TU

set_option Elab.async false
set_option linter.all false
set_option maxRecDepth 100000
namespace TU
open PySem PySem.Spec PyProof.Rows L2
section
variable {K : PySem.W.Frag} {H : Hp} {P : Addr → Prop}
theorem rd_live {a : Addr} {u : HO} (h : Rd H a u) : H a ≠ none := by
  rcases h with e | ⟨o, e⟩ <;> (rw [e]; exact fun z => nomatch z)
mutual
/-- where no list lies within, all that is met stands in the heap -/
theorem T.livek : ∀ {v : V} {d : Tr}, nol d = true → T K H P v d → T K H (fun z => P z ∧ H z ≠ none) v d
  | _, _, _, .non => .non
  | _, _, _, .bl b => .bl b
  | _, _, _, .int i => .int i
  | _, _, _, .str x => .str x
  | _, _, n, .lst _ _ _ => by simp [nol] at n
  | _, _, n, .tup s t => .tup s (Ts.livek (by simpa [nol] using n) t)
  | _, _, n, .dic p r t => .dic ⟨p, rd_live r⟩ r (Tk.livek (by simpa [nol] using n) t)
theorem Ts.livek : ∀ {v : List V} {d : List Tr}, nols d = true → Ts K H P v d → Ts K H (fun z => P z ∧ H z ≠ none) v d
  | _, _, _, .nil => .nil
  | _, _, n, .cons a b => by
    simp only [nols, Bool.and_eq_true] at n
    exact .cons (T.livek n.1 a) (Ts.livek n.2 b)
theorem Tk.livek : ∀ {v : List (Key × V)} {d : List (Key × Tr)}, nolk d = true → Tk K H P v d → Tk K H (fun z => P z ∧ H z ≠ none) v d
  | _, _, _, .nil => .nil
  | _, _, n, .cons a b => by
    simp only [nolk, Bool.and_eq_true] at n
    exact .cons (T.livek n.1 a) (Tk.livek n.2 b)
end
theorem nolk_all : ∀ {ks : List (Key × Tr)}, (∀ p ∈ ks, nol p.2 = true) → nolk ks = true
  | [], _ => rfl
  | p :: ks, h => by
    have h1 := h p List.mem_cons_self
    have h2 := nolk_all fun q hq => h q (List.mem_cons_of_mem _ hq)
    simp only [nolk, h1, h2, Bool.and_self]
theorem nols_all : ∀ {ks : List Tr}, (∀ p ∈ ks, nol p = true) → nols ks = true
  | [], _ => rfl
  | p :: ks, h => by
    have h1 := h p List.mem_cons_self
    have h2 := nols_all fun q hq => h q (List.mem_cons_of_mem _ hq)
    simp only [nols, h1, h2, Bool.and_self]
theorem nol_house {h : Hs} (w : Wf h) : nol (.dic (hK h)) = true := by
  simp only [nol]
  refine nolk_all fun p hp => ?_
  obtain ⟨q, hq, rfl⟩ := List.mem_map.mp hp
  simp only [nol]
  refine nolk_all fun y hy => ?_
  obtain ⟨z, hz, rfl⟩ := List.mem_map.mp hy
  exact nol_of_imm ((w.tab q hq).2 z hz)
theorem EL.live {N : Addr → Prop} : ∀ {xs : List V} {ess : List (List Ed)}, EL K N H xs ess → EL K (fun z => N z ∧ H z ≠ none) H xs ess
  | _, _, .nil => .nil
  | _, _, .cons n e t r => .cons ⟨n, by rw [e]; exact fun z => nomatch z⟩ e t (EL.live r)
theorem HiAt.live {C p : Addr} {N : Addr → Prop} {vs : List Ver} {now : Nat} (h : HiAt C K N H p vs now) (w : ∀ v ∈ vs, Wf v.h) : HiAt C K (fun z => N z ∧ H z ≠ none) H p vs now := by
  obtain ⟨dx, lh, ll, le, xh, xe, h1, n1, n2, n3, h2, h3, h4, h5, h6⟩ := h.ex
  have ln : ∀ {z : Addr} {o : HO}, H z = some o → H z ≠ none := fun e => by rw [e]; exact fun z => nomatch z
  refine ⟨⟨dx, lh, ll, le, xh, xe, h1, ⟨n1, ln h2⟩, ⟨n2, ln h4⟩, ⟨n3, ln h5⟩, h2, h3.livek (nols_all fun d hd => ?_), h4, h5, h6.live⟩, h.lt, h.few⟩
  obtain ⟨v, hv, rfl⟩ := List.mem_map.mp hd
  exact nol_house (w v hv)
end
end TU

set_option Elab.async false
set_option linter.all false
set_option maxRecDepth 100000
set_option maxHeartbeats 1000000

namespace K79
open PySem PySem.Spec PyProof.Rows L2 TU
local macro_rules | `(tactic| walk_at "g1") => `(tactic| first
  | with_reducible refine q_seq ?_
  | with_reducible refine q_asg ?_
  | with_reducible refine q_drop ?_
  | with_reducible refine q_ret ?_
  | with_reducible refine q_if ?_
  | with_reducible refine q_gname ?_
  | with_reducible refine q_gsub ?_
  | ((with_reducible refine' q_var ?hv ?_); (case hv => rfl))
  | with_reducible refine q_c ?_
  | with_reducible refine q_op ?_
  | with_reducible refine q_test ?_
  | with_reducible refine q_tr ?_
  | with_reducible refine q_trB ?_
  | with_reducible refine q_bl ?_
  | with_reducible refine q_not ?_
  | with_reducible refine q_and ?_
  | with_reducible refine q_or ?_
  | with_reducible refine q_cons ?_
  | with_reducible refine q_nil ?_
  | with_reducible refine q_I0 ?_
  | with_reducible refine q_addI ?_
  | with_reducible refine q_eqS ?_
  | with_reducible refine q_eqI ?_
  | with_reducible refine q_neS ?_
  | with_reducible refine q_neI ?_
  | with_reducible refine q_eqB ?_
  | with_reducible refine q_t ?_
  | with_reducible refine q_f ?_
  | with_reducible refine q_nf ?_
  | with_reducible refine q_nt ?_
  | with_reducible refine q_is ?_
  | with_reducible refine q_isn ?_
  | with_reducible refine q_nis ?_
  | with_reducible refine q_nisn ?_
  | with_reducible refine q_callS ?_
  | with_reducible refine q_cb ?_
  | with_reducible refine q_tup ?_
  | with_reducible refine q_lst ?_
  | with_reducible refine q_bm ?_
  | with_reducible refine q_rz ?_
  | with_reducible refine q_next ?_
  | with_reducible refine q_retN ?_
  | with_reducible refine q_ifE ?_
  | with_reducible refine q_un ?_
  | with_reducible refine q_U ?_
  | with_reducible refine q_for ?_
  | with_reducible refine q_sl ?_
  | with_reducible refine q_part ?_
  | with_reducible refine q_nopart ?_
  | with_reducible refine q_int ?_
  | with_reducible refine q_andV ?_
  | with_reducible refine q_orV ?_
  | with_reducible refine q_notV ?_
  | with_reducible refine q_dc ?_
  | with_reducible refine q_lc ?_
  | with_reducible refine q_yes ?_
  | with_reducible refine q_dnew ?_
  | with_reducible refine q_methX ?_
  | with_reducible refine q_fld ?_
  | with_reducible refine q_sfld ?_
  | with_reducible refine q_chain ?_
  | with_reducible refine q_bm0 ?_
  | with_reducible refine q_make ?_
  | with_reducible refine q_rng2 ?_
  | with_reducible refine q_rng3 ?_
  | ((with_reducible refine q_size ?hz ?_); (case hz => (simp only [List.length_cons, List.length_nil]; decide))))
local macro_rules | `(tactic| walk_at "g") => `(tactic| repeat walk_at "g1")

local macro_rules | `(tactic| walk_at "sm") => `(tactic| first | assumption | exact same_new (by assumption) | exact Same.refl')
local macro_rules | `(tactic| walk_at "lf") => `(tactic| first
  | assumption
  | exact upd_same
  | exact sq_new
  | exact st_new
  | ((refine Sm.sqT ?hs ?hr); (case hs => (first | assumption | exact same_new (by assumption))); (case hr => walk_at "lf"))
  | ((refine Sm.sqL ?hs ?hr); (case hs => (first | assumption | exact same_new (by assumption))); (case hr => walk_at "lf"))
  | ((refine Sm.rd ?hs ?hr); (case hs => (first | assumption | exact same_new (by assumption))); (case hr => walk_at "lf"))
  | ((refine T.mono ?hs ?hr); (case hs => (first | assumption | exact same_new (by assumption))); (case hr => walk_at "lf"))
  | ((refine Ts.mono ?hs ?hr); (case hs => (first | assumption | exact same_new (by assumption))); (case hr => walk_at "lf"))
  | ((refine Tk.mono ?hs ?hr); (case hs => (first | assumption | exact same_new (by assumption))); (case hr => walk_at "lf"))
  | ((refine Own.mono ?hr ?hs); (case hs => (first | assumption | exact same_new (by assumption))); (case hr => walk_at "lf"))
  | ((refine Sm.at ?hs ?hr); (case hs => (first | assumption | exact same_new (by assumption))); (case hr => walk_at "lf")))
local macro_rules | `(tactic| walk_at "ix") => `(tactic| ((with_reducible refine' q_ixT ?h1 ?h2 ?_); (case h1 => walk_at "lf"); (case h2 => rfl)))

def topS (i : Nat) : Stmt := PySem.Challenge.pw_trundleyard_k79_whole_history_replayed.main.body.getD i (.Pass ⟨0, 0, 0, 0⟩)
abbrev s_Unknown___init : Stmt := inClass (topS 3) 0
abbrev s_Misfit___init : Stmt := inClass (topS 4) 0
abbrev s_TooMany___init : Stmt := inClass (topS 5) 0
abbrev s_Stale___init : Stmt := inClass (topS 6) 0
abbrev s_History___init : Stmt := inClass (topS 20) 0
abbrev s_History_check_version : Stmt := inClass (topS 20) 1
abbrev s_History_commit : Stmt := inClass (topS 20) 2
abbrev s_History_undo : Stmt := inClass (topS 20) 3
abbrev s_History_redo : Stmt := inClass (topS 20) 4
abbrev s_History_current : Stmt := inClass (topS 20) 5
abbrev s_History_count : Stmt := inClass (topS 20) 6
abbrev s_History_house_at : Stmt := inClass (topS 20) 7
abbrev s_History_label_at : Stmt := inClass (topS 20) 8
abbrev s_History_edits_at : Stmt := inClass (topS 20) 9
abbrev s_History_standing : Stmt := inClass (topS 20) 10
abbrev s_History_way_of : Stmt := inClass (topS 20) 11
abbrev s_History_log : Stmt := inClass (topS 20) 12
abbrev s_copy_house : Stmt := topS 9
abbrev s_check_key : Stmt := topS 10
abbrev s_check_edit : Stmt := topS 11
abbrev s_change_tables : Stmt := topS 12
abbrev s_apply_edits : Stmt := topS 13
abbrev s_inverse : Stmt := topS 14
abbrev s_inverse_of : Stmt := topS 15
abbrev s_same_keys : Stmt := topS 16
abbrev s_difference : Stmt := topS 17
abbrev s_replayed : Stmt := topS 21
abbrev s_law_jar : Stmt := topS 23
abbrev s_law_draw : Stmt := topS 24
abbrev s_law_entry : Stmt := topS 25
abbrev s_law_house : Stmt := topS 26
abbrev s_law_edits : Stmt := topS 27
abbrev s_law_copy : Stmt := topS 28
abbrev s_law_after : Stmt := topS 29
abbrev s_law_same : Stmt := topS 30
abbrev s_law_replay : Stmt := topS 31
abbrev s_law_stale : Stmt := topS 32
abbrev s_law : Stmt := topS 33
section
variable {P : Program} {w : World} {K : PySem.W.Frag} {mg : Str → Option Value} {base : Heap} {C_Unknown C_Misfit C_Stale C_TooMany C_History : Addr}
/-- check_key(house, key) -/
def spCK (C : Addr) : Sp := fun vs H Q E => ∃ (a : Addr) (kvs : List (Key × V)) (k : Str), vs = [.ref a, .str k] ∧ Rd H a (.dK kvs) ∧
  ((valV kvs (.inr k)).isSome = true → Q .non H) ∧ ((valV kvs (.inr k)).isSome = false → XUnk C "table" k H E)
theorem sc_check_key : FnScope ["house", "key"] ["house", "key"] (defScope s_check_key) := ⟨rfl, rfl, rfl, by decide +kernel, rfl, by decide +kernel, by decide +kernel⟩
theorem d_check_key (B : Bt mg) (F : TopF K mg "check_key" s_check_key ["house", "key"]) (X_Unknown : Xc P w K mg base "Unknown" ["what", "name"] C_Unknown) : Df P w K mg base "check_key" ["house", "key"] 3 (spCK C_Unknown) := by
  refine F.df sc_check_key (fun vs H Q E h => ?len) (fun f cdv A outer s H vs Q E hr h => ?body)
  case body =>
   have hu := hr.units
   refine ⟨_, (pss_one (ps_if (pt_cmpR (k_nin (K := K) rfl hu) (pv 1) (pv 0) (by rfl))
      (pss_one (ps_rz rfl X_Unknown (hr.mono (by decide)) (takes_of rfl rfl rfl rfl) (pa_cons pe_str (pa_cons (pv 1) pa_nil))))
      pss_nil)), ?_⟩
   obtain ⟨a, kvs, k, rfl, hd, h1, h2⟩ := h
   walk_at "g"
   refine q_ninD (.inr k) hd ?_
   walk_at "g"
   cases e : (valV kvs (Sum.inr k)).isSome with
   | true =>
     refine q_f ?_
     walk_at "g"
     exact h1 e
   | false =>
     refine q_t ?_
     walk_at "g"
     exact q_mk rfl fun d H' s _ hd => h2 e d H' s hd
  case len =>
   obtain ⟨a, kvs, k, rfl, _⟩ := h
   rfl
/-- check_edit(house, edit) -/
def spCE (K : PySem.W.Frag) (C : Addr) : Sp := fun vs H Q E => ∃ (N : Addr → Prop) (a : Addr) (v : V) (h : Hs) (e : Ed), vs = [.ref a, v] ∧ T K H N (.ref a) (.dic (hK h)) ∧ T K H ff v e.tr ∧
  match app1 h e with
  | .ok _ => Q .non H
  | .error (w, n) => XUnk C w n H E
theorem sc_check_edit : FnScope ["house", "edit"] ["house", "edit"] (defScope s_check_edit) := ⟨rfl, rfl, rfl, by decide +kernel, rfl, by decide +kernel, by decide +kernel⟩
theorem d_check_edit (B : Bt mg) (F : TopF K mg "check_edit" s_check_edit ["house", "edit"]) (X_Unknown : Xc P w K mg base "Unknown" ["what", "name"] C_Unknown) (D_check_key : Df P w K mg base "check_key" ["house", "key"] 3 (spCK C_Unknown)) : Df P w K mg base "check_edit" ["house", "edit"] 4 (spCE K C_Unknown) := by
  refine F.df sc_check_edit (fun vs H Q E h => ?len) (fun f cdv A outer s H vs Q E hr h => ?body)
  case body =>
   have hu := hr.units
   refine ⟨_, (pss_cons (ps_expr (pe_df D_check_key (hr.mono (by decide)) (fun σ => passAt (takes_of rfl rfl rfl rfl) σ) (pa_cons (pv 0) (pa_cons (pe_ix (k_ix (K := K) rfl hu) (pv 1) pe_int (fun _ _ => rfl)) pa_nil))))
      (pss_one (ps_if (PW.pt (pw_and (pt_cmpR (k_eq (K := K) rfl hu) (pe_ix (k_ix (K := K) rfl hu) (pv 1) pe_int (fun _ _ => rfl)) pe_str (nomark _)) (pw_and1 (pt_cmpR (k_nin (K := K) rfl hu) (pe_ix (k_ix (K := K) rfl hu) (pv 1) pe_int (fun _ _ => rfl)) (pe_ix (k_ix (K := K) rfl hu) (pv 0) (pe_ix (k_ix (K := K) rfl hu) (pv 1) pe_int (fun _ _ => rfl)) (fun _ _ => rfl)) (by rfl)))))
      (pss_one (ps_rz rfl X_Unknown (hr.mono (by decide)) (takes_of rfl rfl rfl rfl) (pa_cons (pe_ix (k_ix (K := K) rfl hu) (pv 1) pe_int (fun _ _ => rfl)) (pa_cons (pe_ix (k_ix (K := K) rfl hu) (pv 1) pe_int (fun _ _ => rfl)) pa_nil))))
      pss_nil))), ?_⟩
   obtain ⟨N, a, v, h, e, rfl, ha, he, hq⟩ := h
   obtain ⟨a', kvs, ea, _, hr, tk⟩ := ha.dicAt
   cases ea
   obtain ⟨b, rfl, he⟩ := Ed.at he
   cases e with
   | put k n x =>
     obtain ⟨y, hs, ty⟩ := he
     walk_at "g"
     walk_at "ix"
     walk_at "g"
     refine ⟨_, kvs, k, rfl, hr, fun hk => ?_, fun hk => ?_⟩
     · walk_at "g"
       walk_at "ix"
       walk_at "g"
       rw [decide_eq_false (by decide)]
       walk_at "g"
       cases e1 : lk h k with
       | none =>
         rw [T.ntab tk e1] at hk
         cases hk
       | some t =>
         simp only [app1, Ed.key, e1] at hq
         exact hq
     · cases e1 : lk h k with
       | none =>
         simp only [app1, Ed.key, e1] at hq
         exact hq
       | some t =>
         obtain ⟨q, es, h1, _⟩ := T.tab tk e1
         rw [h1] at hk
         cases hk
   | drop k n =>
     have hs := he
     walk_at "g"
     walk_at "ix"
     walk_at "g"
     refine ⟨_, kvs, k, rfl, hr, fun hk => ?_, fun hk => ?_⟩
     · walk_at "g"
       walk_at "ix"
       walk_at "g"
       rw [decide_eq_true rfl]
       walk_at "g"
       walk_at "ix"
       walk_at "g"
       walk_at "ix"
       walk_at "g"
       cases e1 : lk h k with
       | none =>
         rw [T.ntab tk e1] at hk
         cases hk
       | some t =>
         obtain ⟨q, es, h1, _, h2, h3⟩ := T.tab tk e1
         refine q_ixK (.inr k) hr h1 ?_
         walk_at "g"
         refine q_ninD (.inr n) h2 ?_
         walk_at "g"
         by_cases hn : n ∈ nms t
         · have e2 : (valV es (Sum.inr n)).isSome = true := by
             rw [h3.isSome, get_tK]
             cases e3 : lk t n with
             | none => exact absurd hn (lk_none.mp e3)
             | some _ => rfl
           rw [e2]
           walk_at "g"
           simp only [app1, Ed.key, e1, if_pos hn] at hq
           exact hq
         · have e2 : (valV es (Sum.inr n)).isSome = false := by
             rw [h3.isSome, get_tK, lk_none.mpr hn]
             rfl
           rw [e2]
           walk_at "g"
           walk_at "ix"
           walk_at "g"
           walk_at "ix"
           walk_at "g"
           simp only [app1, Ed.key, e1, if_neg hn] at hq
           exact q_mk rfl fun d H' s _ hd => hq d H' s hd
     · cases e1 : lk h k with
       | none =>
         simp only [app1, Ed.key, e1] at hq
         exact hq
       | some t =>
         obtain ⟨q, es, h1, _⟩ := T.tab tk e1
         rw [h1] at hk
         cases hk
  case len =>
   obtain ⟨N, a, b, h, e, rfl, _⟩ := h
   rfl
/-- copy_house(house) -/
def spCH (K : PySem.W.Frag) : Sp := fun vs H Q _ => ∃ (N : Addr → Prop) (a : Addr) (h : Hs), vs = [.ref a] ∧ T K H N (.ref a) (.dic (hK h)) ∧ Wf h ∧ Fits 60 h ∧ h.length ≤ 900 ∧
  ∀ r H', Same H H' → Own K (fun b => H b = none) H' r (cpH h) → Q (.ref r) H'
theorem sc_copy_house : FnScope ["house", "key", "name"] ["house"] (defScope s_copy_house) := ⟨rfl, rfl, rfl, by decide +kernel, rfl, by decide +kernel, by decide +kernel⟩
theorem d_copy_house (B : Bt mg) (F : TopF K mg "copy_house" s_copy_house ["house"]) : Df P w K mg base "copy_house" ["house"] 1 (spCH K) := by
  refine F.df sc_copy_house (fun vs H Q E h => ?len) (fun f cdv A outer s H vs Q E hr h => ?body)
  case body =>
   have hu := hr.units
   refine ⟨_, (pss_one (ps_ret (pe_lockU (pe_dc (own := [("key", 1)]) (by rfl) sc_copy_house.nd (k_walk (K := K) rfl (pv 0)) (blkOk_by (by kernel_rfl)) (fun _ _ _ _ _ => (pg_name (i := 1) sc_copy_house.nd rfl (Or.inr rfl))) (fun _ _ _ _ _ => pts_nil) (fun _ _ _ _ _ => (pv 1)) (fun _ _ _ _ _ => (pe_lockU (pe_dc (own := [("name", 2)]) (by rfl) sc_copy_house.nd (k_walk (K := K) rfl (pe_callB (k_sort (K := K) rfl rfl) (by rfl) B.b_sorted (by decide +kernel) (pa_cons (pe_ix (k_ix (K := K) rfl hu) (pv 0) (pv 1) (fun _ _ => rfl)) pa_nil))) (blkOk_by (by kernel_rfl)) (fun _ _ _ _ _ => (pg_name (i := 2) sc_copy_house.nd rfl (Or.inl rfl))) (fun _ _ _ _ _ => pts_nil) (fun _ _ _ _ _ => (pv 2)) (fun _ _ _ _ _ => (pe_ix (k_ix (K := K) rfl hu) (pe_ix (k_ix (K := K) rfl hu) (pv 0) (pv 1) (fun _ _ => rfl)) (pv 2) (fun _ _ => rfl)))))))))), ?_⟩
   obtain ⟨N, a, h, rfl, ha, wf, fit, hl, hq⟩ := h
   obtain ⟨a', kvs, ea, _, hrd, tk⟩ := ha.dicAt
   cases ea
   walk_at "g"
   refine q_lockE hrd fun Hl od un Q' lkd hQ' => ?_
   walk_at "g"
   refine q_keys ?_
   walk_at "g"
   refine q_keysE lkd.at_ ?_
   intro d hd
   have tkl := tk.rs lkd.rs
   have hlen : kvs.length = h.length := by rw [tk.length]; unfold hK; rw [List.length_map]
   refine dc_any (walk_keys (d := a) (o := od) (kvs := kvs)) (fun i H1 => Same Hl H1 ∧ Own K (fun b => Hl b = none) H1 d (cpH (h.take i))) ?_ ?_ ?_ ?_
   · exact ⟨same_new hd, by rw [List.take_zero]; exact Own.nil upd_same hd⟩
   · rintro i H1 _ ⟨s1, _⟩
     exact s1 _ _ lkd.at_
   · rintro i x H1' H1 hi ⟨s1, o1⟩ ⟨rfl, k, v, hkv, rfl⟩
     obtain ⟨d0, g1, g2⟩ := Tk.at tkl hkv
     obtain ⟨n, t, hn, rfl, rfl⟩ := hK_at g1
     have hm := mem_at hn
     have wft := wf.tab _ hm
     have hlk : lk h n = some t := lk_of_mem wf.nd hm
     obtain ⟨q', es', hv, _, hq2', tkq'⟩ := T.tab tkl hlk
     have wfi : immT t := wft.2
     have hsz : (nms t).length < 64 := by
       have : t.length ≤ 60 := fit _ hm
       rw [nms_len]
       exact Nat.lt_of_le_of_lt this (by decide)
     have rdq : Rd H1 q' (.dK es') := Sm.rd s1 hq2'
     walk_at "g"
     refine ⟨rfl, ?_⟩
     walk_at "g"
     refine .inl ?_
     walk_at "g"
     refine q_items ?_
     walk_at "g"
     refine q_ixK (.inr n) (.inr ⟨od, s1 _ _ lkd.at_⟩) hv ?_
     walk_at "g"
     refine q_sortD (ks := nms t) rdq (by rw [tkq'.keys, keys_tK]) hsz fun p hp => ?_
     have sp : Same H1 (upd H1 p (.lst ((srt (nms t)).map V.str))) := same_new hp
     generalize hHp : upd H1 p (.lst ((srt (nms t)).map V.str)) = Hp1 at sp
     have hpL : Hp1 p = some (.lst ((srt (nms t)).map V.str)) := by rw [← hHp]; exact upd_same
     refine q_itemsE (.inl (.inl hpL)) ?_
     intro d2 hd2
     have tkq2 : Tk K Hp1 ff es' (tK t) := (tkq'.mono (s1.trans sp)).imm wfi
     refine dc_any (walk_list (xs := (srt (nms t)).map V.str)) (fun j H2 => Same Hp1 H2 ∧ ∃ es2, H2 d2 = some (.dK es2) ∧ Tk K H2 ff es2 (tK ((ord t).take j))) ?_ ?_ ?_ ?_
     · exact ⟨same_new hd2, [], upd_same, by rw [List.take_zero]; exact .nil⟩
     · rintro j H2 _ ⟨s2, _⟩
       exact .inl (.inl (s2 _ _ hpL))
     · rintro j x H2' H2 hj ⟨s2, es2, e2, tk2⟩ ⟨rfl, hx⟩
       obtain ⟨m, hm2, rfl⟩ := srt_at hx
       obtain ⟨dm, ho, hlm⟩ := ord_at hm2
       obtain ⟨vm, hvm, tvm⟩ := tkq2.ent hlm
       walk_at "g"
       refine ⟨rfl, ?_⟩
       walk_at "g"
       refine q_ixK (.inr n) (.inr ⟨od, s2 _ _ (sp _ _ (s1 _ _ lkd.at_))⟩) hv ?_
       walk_at "g"
       refine q_ixK (.inr m) (Sm.rd s2 (Sm.rd sp rdq)) hvm ?_
       have l2 : es2.length < sizeLine := by
         rw [tk2.length]
         unfold tK
         rw [List.length_map, List.length_take, len_ord]
         have : t.length ≤ 60 := fit _ hm
         exact len_small (by omega)
       have nk : (Sum.inr m : Key) ∉ es2.map (·.1) := by
         rw [tk2.keys, keys_tK, nms_take, nms_ord]
         exact fun z => nd_at ((srt_perm _).nodup_iff.mpr wft.1) hm2 (inr_mem.mp z)
       refine ⟨es2, .inr m, rfl, e2, l2, ?_, _, upd_same, ?_⟩
       · exact fun b o e => by
           have : b ≠ d2 := ne_of_none e hd2
           rw [upd_ne this]
           exact s2 b o e
       · rw [putK_fresh nk, take_more ho, tK_snoc]
         have tk3 := tk2.append (Tk.cons (k := Sum.inr m) (tvm.mono s2) .nil)
         exact tk3.upd e2 (fun _ z => nomatch z) (fun _ _ z => nomatch z) fun _ z => z.elim
     · rintro H2 ⟨s2, es2, e2, tk2⟩
       have hle : (ord t).take ((srt (nms t)).map V.str).length = ord t := by
         rw [List.length_map, (srt_perm _).length_eq, nms_len, ← len_ord t, List.take_length]
       rw [hle] at tk2
       have nn : n ∉ nms (cpH (h.take i)) := by
         rw [nms_cpH, nms_take]
         exact nd_at wf.nd (nms_at hn)
       have sd : Same H1 H2 := sp.trans s2
       have hd2' : Hl d2 = none := s1.free (sp.free hd2)
       obtain ⟨kvs2, k1, k2, k3⟩ := o1.push nn (sp.free hd2) hd2' sd e2 tk2
       have l3 : kvs2.length < sizeLine := by
         rw [k2]
         unfold cpH
         rw [List.length_map, List.length_take]
         exact len_small (by omega)
       refine ⟨kvs2, .inr n, rfl, k1, l3, ?_, ?_⟩
       · exact fun b o e => by
           have : b ≠ d := ne_of_none e hd
           rw [upd_ne this]
           exact sd b o (s1 b o e)
       · rw [cpH_take, take_more (cpH_at hn), ← cpH_take]
         exact k3
   · rintro H1 ⟨s1, o1⟩
     have e1 := s1 _ _ lkd.at_
     refine hQ' _ _ e1 ?_
     rw [hlen, List.take_length] at o1
     have na : ∀ b, Hl b = none → b ≠ a := fun b e z => by
       rw [z, lkd.at_] at e
       cases e
     exact hq d _ (lkd.same s1) ((lkd.own na e1 o1).imp fun b e => lkd.new.mp e)
  case len =>
   obtain ⟨N, a, h, rfl, _⟩ := h
   rfl

/-- change_tables(tables, edit) -/
def spCT (K : PySem.W.Frag) (C : Addr) : Sp := fun vs H Q E => ∃ (N : Addr → Prop) (a : Addr) (v : V) (h : Hs) (e : Ed), vs = [.ref a, v] ∧ Own K N H a h ∧ T K H ff v e.tr ∧ Wf h ∧ Fits 900 h ∧
  match app1 h e with
  | .ok h' => ∀ q es es', N q → H q = some (.dK es) → Own K N (upd H q (.dK es')) a h' → Q .non (upd H q (.dK es'))
  | .error (w, n) => XUnk C w n H E
theorem sc_change_tables : FnScope ["tables", "edit", "table"] ["tables", "edit"] (defScope s_change_tables) := ⟨rfl, rfl, rfl, by decide +kernel, rfl, by decide +kernel, by decide +kernel⟩
theorem d_change_tables (B : Bt mg) (F : TopF K mg "change_tables" s_change_tables ["tables", "edit"]) (D_check_edit : Df P w K mg base "check_edit" ["house", "edit"] 4 (spCE K C_Unknown)) : Df P w K mg base "change_tables" ["tables", "edit"] 5 (spCT K C_Unknown) := by
  refine F.df sc_change_tables (fun vs H Q E h => ?len) (fun f cdv A outer s H vs Q E hr h => ?body)
  case body =>
   have hu := hr.units
   refine ⟨_, (pss_cons (ps_expr (pe_df D_check_edit (hr.mono (by decide)) (fun σ => passAt (takes_of rfl rfl rfl rfl) σ) (pa_cons (pv 0) (pa_cons (pv 1) pa_nil))))
      (pss_cons (ps_set (i := 2) sc_change_tables.nd rfl (Or.inl rfl) (pe_ix (k_ix (K := K) rfl hu) (pv 0) (pe_ix (k_ix (K := K) rfl hu) (pv 1) pe_int (fun _ _ => rfl)) (fun _ _ => rfl)))
      (pss_one (ps_if (pt_cmpR (k_eq (K := K) rfl hu) (pe_ix (k_ix (K := K) rfl hu) (pv 1) pe_int (fun _ _ => rfl)) pe_str (nomark _))
      (pss_one (ps_asg (pe_ix (k_ix (K := K) rfl hu) (pv 1) pe_int (fun _ _ => rfl)) (pg_sub (pv 2) (pe_ix (k_ix (K := K) rfl hu) (pv 1) pe_int (fun _ _ => rfl)) (set_any hu))))
      (pss_one (ps_ddel (pv 2) (pe_ix (k_ix (K := K) rfl hu) (pv 1) pe_int (fun _ _ => rfl)))))))), ?_⟩
   obtain ⟨N, a, v, h, e, rfl, ho, he, wf, fit, hq⟩ := h
   walk_at "g"
   refine ⟨N, a, v, h, e, rfl, ho.T, he, ?_⟩
   cases e1 : lk h e.key with
   | none =>
     simp only [app1, e1] at hq ⊢
     exact hq
   | some t =>
     obtain ⟨kvs, q, es, h1, h2, h3, h4, nq, nr, ne, back⟩ := ho.at e1
     have hm := lk_mem e1
     have wt := wf.tab _ hm
     have ft : t.length ≤ 900 := fit _ hm
     have hl : es.length < sizeLine := by
       rw [h4.length]
       unfold tK
       rw [List.length_map]
       exact len_small (by omega)
     obtain ⟨b, rfl, he'⟩ := Ed.at he
     cases e with
     | put k n x =>
       obtain ⟨y, hs, ty⟩ := he'
       simp only [app1, e1] at hq ⊢
       walk_at "g"
       walk_at "ix"
       walk_at "g"
       refine q_ixK (.inr k) (.inl h1) h2 ?_
       walk_at "g"
       walk_at "ix"
       walk_at "g"
       rw [decide_eq_true rfl]
       walk_at "g"
       walk_at "ix"
       walk_at "g"
       walk_at "ix"
       refine q_setD (.inr n) h3 hl ?_
       refine hq q es _ nq h3 (back _ _ ?_)
       rw [← put_tK wt.1]
       exact h4.put ty
     | drop k n =>
       have hs := he'
       by_cases hn : n ∈ nms t
       · simp only [app1, e1, if_pos hn] at hq ⊢
         have hv : (valV es (.inr n)).isSome = true := by
           rw [h4.isSome, get_tK]
           cases e3 : lk t n with
           | none => exact absurd hn (lk_none.mp e3)
           | some _ => rfl
         walk_at "g"
         walk_at "ix"
         walk_at "g"
         refine q_ixK (.inr k) (.inl h1) h2 ?_
         walk_at "g"
         walk_at "ix"
         walk_at "g"
         rw [decide_eq_false (by decide)]
         walk_at "g"
         refine q_ddel ?_
         walk_at "g"
         walk_at "ix"
         refine ⟨q, es, .inr n, rfl, h3, rfl, hv, ?_⟩
         refine hq q es _ nq h3 (back _ _ ?_)
         rw [← del_tK wt.1]
         exact h4.del _
       · simp only [app1, e1, if_neg hn] at hq ⊢
         exact hq
  case len =>
   obtain ⟨N, a, b, h, e, rfl, _⟩ := h
   rfl
/-- apply_edits(house, edits) -/
def spAE (K : PySem.W.Frag) (C : Addr) : Sp := fun vs H Q E => ∃ (N : Addr → Prop) (a b : Addr) (h : Hs) (xs : List V) (es : List Ed), vs = [.ref a, .ref b] ∧ T K H N (.ref a) (.dic (hK h)) ∧ SqL K H b xs ∧ Ts K H ff xs (es.map Ed.tr) ∧
  Wf h ∧ (∀ e ∈ es, e.Imm) ∧ (∃ n, Fits n h ∧ n + es.length ≤ 60) ∧ h.length ≤ 900 ∧
  match appAll (cpH h) es with
  | .ok h' => ∀ r H', Same H H' → Own K (fun b => H b = none) H' r (cpH h') → Q (.ref r) H'
  | .error (w, n) => XUnk C w n H E
theorem sc_apply_edits : FnScope ["house", "edits", "tables", "edit"] ["house", "edits"] (defScope s_apply_edits) := ⟨rfl, rfl, rfl, by decide +kernel, rfl, by decide +kernel, by decide +kernel⟩
theorem d_apply_edits (B : Bt mg) (F : TopF K mg "apply_edits" s_apply_edits ["house", "edits"]) (D_copy_house : Df P w K mg base "copy_house" ["house"] 1 (spCH K)) (D_change_tables : Df P w K mg base "change_tables" ["tables", "edit"] 5 (spCT K C_Unknown)) : Df P w K mg base "apply_edits" ["house", "edits"] 6 (spAE K C_Unknown) := by
  refine F.df sc_apply_edits (fun vs H Q E h => ?len) (fun f cdv A outer s H vs Q E hr h => ?body)
  case body =>
   have hu := hr.units
   refine ⟨_, (pss_cons (ps_set (i := 2) sc_apply_edits.nd rfl (Or.inl rfl) (pe_df D_copy_house (hr.mono (by decide)) (fun σ => passAt (takes_of rfl rfl rfl rfl) σ) (pa_cons (pv 0) pa_nil)))
      (pss_cons (ps_lockU (ps_for (passes_of rfl) rfl (k_walk (K := K) rfl (pv 1)) (pg_name (i := 3) sc_apply_edits.nd rfl (Or.inl rfl))
      (pss_one (ps_expr (pe_df D_change_tables (hr.mono (by decide)) (fun σ => passAt (takes_of rfl rfl rfl rfl) σ) (pa_cons (pv 2) (pa_cons (pv 3) pa_nil)))))))
      (pss_one (ps_ret (pe_df D_copy_house (hr.mono (by decide)) (fun σ => passAt (takes_of rfl rfl rfl rfl) σ) (pa_cons (pv 2) pa_nil)))))), ?_⟩
   obtain ⟨N, a, b, h, xs, es, rfl, ha, hb, hxs, wf, im, ⟨n, fit, hn⟩, hl, hq⟩ := h
   walk_at "g"
   refine ⟨N, a, h, rfl, ha, wf, fun p hp => Nat.le_trans (fit p hp) (by omega), hl, fun r H1 s1 o1 => ?_⟩
   walk_at "g"
   refine .inl ?_
   walk_at "g"
   refine q_items ?_
   walk_at "g"
   refine q_itemsE (Sm.sqL s1 hb) ?_
   have hlen : xs.length = es.length := by rw [hxs.length, List.length_map]
   refine for_items (xs := xs) (fun i σ Hi => ∃ (v : Option V) (hi : Hs), σ = [some (.ref a), some (.ref b), some (.ref r), v] ∧ Same H Hi ∧ appAll (cpH h) (es.take i) = .ok hi ∧ Own K (fun b => H b = none) Hi r hi) ?_ ?_ ?_ ?_
   · exact ⟨none, cpH h, rfl, s1, rfl, o1⟩
   · rintro i σ Hi _ ⟨v, hi, rfl, si, _⟩
     exact Sm.sqL si hb
   · rintro i x σ Hi hx ⟨v, hi, rfl, si, ai, oi⟩
     obtain ⟨d, g1, g2⟩ := hxs.gets hx
     obtain ⟨e, he, rfl⟩ := map_at g1
     have imt : ∀ e ∈ es.take i, e.Imm := fun e m => im e (List.mem_of_mem_take m)
     obtain ⟨wi, fi, ni⟩ := appAll_ok wf.cp imt fit.cp ai
     have hlt : (es.take i).length ≤ es.length := by rw [List.length_take]; exact Nat.min_le_right _ _
     walk_at "g"
     refine ⟨_, r, x, hi, e, rfl, oi, g2.mono si, wi, fun p hp => Nat.le_trans (fi p hp) (by omega), ?_⟩
     cases q : app1 hi e with
     | ok h' =>
       intro q' es1 es2 nq eq o'
       refine ⟨_, h', rfl, ?_, ?_, o'⟩
       · intro z o ez
         rw [upd_ne (ne_of_none ez nq)]
         exact si z o ez
       · rw [appAll_more he ai, q]
     | error x =>
       obtain ⟨w1, n1⟩ := x
       rw [appAll_stop he ai q] at hq
       exact hq.mono si
   · rintro σ Hi ⟨v, hi, rfl, si, ai, oi⟩
     rw [hlen, List.take_length] at ai
     obtain ⟨wi, fi, ni⟩ := appAll_ok wf.cp im fit.cp ai
     rw [ai] at hq
     walk_at "g"
     refine ⟨_, r, hi, rfl, oi.T, wi, fun p hp => Nat.le_trans (fi p hp) hn, ?_, fun r2 H2 s2 o2 => hq r2 H2 (si.trans s2) (o2.imp fun b e => si.free e)⟩
     rw [len_of_nms ni, len_cp]
     exact hl
  case len =>
   obtain ⟨N, a, b, h, xs, es, rfl, _⟩ := h
   rfl
/-- apply_edit(house, edit) -/
def spA1 (K : PySem.W.Frag) (C : Addr) : Sp := fun vs H Q E => ∃ (N : Addr → Prop) (a : Addr) (v : V) (h : Hs) (e : Ed), vs = [.ref a, v] ∧ T K H N (.ref a) (.dic (hK h)) ∧ T K H ff v e.tr ∧
  Wf h ∧ e.Imm ∧ Fits 59 h ∧ h.length ≤ 900 ∧
  match app1 (cpH h) e with
  | .ok h' => ∀ r H', Same H H' → Own K (fun b => H b = none) H' r (cpH h') → Q (.ref r) H'
  | .error (w, n) => XUnk C w n H E
/-- inverse(house, edit) -/
def spIV (K : PySem.W.Frag) (C : Addr) : Sp := fun vs H Q E => ∃ (N : Addr → Prop) (a : Addr) (v : V) (h : Hs) (e : Ed), vs = [.ref a, v] ∧ T K H N (.ref a) (.dic (hK h)) ∧ T K H ff v e.tr ∧ Wf h ∧
  match app1 h e with
  | .ok _ => ∀ u H', Same H H' → T K H' ff u (inv1 h e).tr → Q u H'
  | .error (w, n) => XUnk C w n H E
theorem sc_inverse : FnScope ["house", "edit", "key", "name"] ["house", "edit"] (defScope s_inverse) := ⟨rfl, rfl, rfl, by decide +kernel, rfl, by decide +kernel, by decide +kernel⟩
theorem d_inverse (B : Bt mg) (F : TopF K mg "inverse" s_inverse ["house", "edit"]) (D_check_edit : Df P w K mg base "check_edit" ["house", "edit"] 4 (spCE K C_Unknown)) : Df P w K mg base "inverse" ["house", "edit"] 5 (spIV K C_Unknown) := by
  refine F.df sc_inverse (fun vs H Q E h => ?len) (fun f cdv A outer s H vs Q E hr h => ?body)
  case body =>
   have hu := hr.units
   refine ⟨_, (pss_cons (ps_expr (pe_df D_check_edit (hr.mono (by decide)) (fun σ => passAt (takes_of rfl rfl rfl rfl) σ) (pa_cons (pv 0) (pa_cons (pv 1) pa_nil))))
      (pss_cons (ps_set (i := 2) sc_inverse.nd rfl (Or.inl rfl) (pe_ix (k_ix (K := K) rfl hu) (pv 1) pe_int (fun _ _ => rfl)))
      (pss_cons (ps_set (i := 3) sc_inverse.nd rfl (Or.inl rfl) (pe_ix (k_ix (K := K) rfl hu) (pv 1) pe_int (fun _ _ => rfl)))
      (pss_cons (ps_if (pt_cmpR (k_in (K := K) rfl hu) (pv 3) (pe_ix (k_ix (K := K) rfl hu) (pv 0) (pv 2) (fun _ _ => rfl)) (by rfl))
      (pss_one (ps_ret (pe_tup (pa_cons pe_str (pa_cons (pv 2) (pa_cons (pv 3) (pa_cons (pe_ix (k_ix (K := K) rfl hu) (pe_ix (k_ix (K := K) rfl hu) (pv 0) (pv 2) (fun _ _ => rfl)) (pv 3) (fun _ _ => rfl)) pa_nil)))))))
      pss_nil)
      (pss_one (ps_ret (pe_tup (pa_cons pe_str (pa_cons (pv 2) (pa_cons (pv 3) pa_nil)))))))))), ?_⟩
   obtain ⟨N, a, v, h, e, rfl, ha, he, wf, hq⟩ := h
   obtain ⟨a', kvs, ea, _, hr2, tk⟩ := ha.dicAt
   cases ea
   obtain ⟨b, rfl, he'⟩ := Ed.at he
   have hs : ∃ xs, SqT K H b (.str "put" :: .str e.key :: .str e.name :: xs) ∨ SqT K H b (.str "drop" :: .str e.key :: .str e.name :: xs) := by
     cases e with
     | put k n x =>
       obtain ⟨y, hs, _⟩ := he'
       exact ⟨[y], .inl hs⟩
     | drop k n => exact ⟨[], .inr he'⟩
   obtain ⟨ws, hw⟩ : ∃ ws, SqT K H b ws ∧ atI ws 1 = some (.str e.key) ∧ atI ws 2 = some (.str e.name) := by
     obtain ⟨xs, hs | hs⟩ := hs
     · exact ⟨_, hs, atI_nat (j := 1) rfl, atI_nat (j := 2) rfl⟩
     · exact ⟨_, hs, atI_nat (j := 1) rfl, atI_nat (j := 2) rfl⟩
   obtain ⟨hws, w1, w2⟩ := hw
   walk_at "g"
   refine ⟨N, a, .ref b, h, e, rfl, ha, he, ?_⟩
   cases q : app1 h e with
   | error x =>
     rw [q] at hq
     exact hq
   | ok h' =>
     rw [q] at hq
     cases e1 : lk h e.key with
     | none =>
       simp only [app1, e1] at q
       cases q
     | some t =>
       obtain ⟨q', es', h1, _, h2, h3⟩ := T.tab tk e1
       walk_at "g"
       refine q_ixT hws w1 ?_
       walk_at "g"
       refine q_ixT hws w2 ?_
       walk_at "g"
       refine q_ixK (.inr e.key) hr2 h1 ?_
       refine q_inD (.inr e.name) h2 ?_
       walk_at "g"
       cases e2 : lk t e.name with
       | some d =>
         obtain ⟨vd, g1, g2⟩ := h3.ent e2
         have tq : T K H ff vd d := g2.imm (immT_lk (wf.tab _ (lk_mem e1)).2 e2)
         rw [g1]
         walk_at "g"
         refine q_ixK (.inr e.key) hr2 h1 ?_
         walk_at "g"
         refine q_ixK (.inr e.name) h2 g1 ?_
         walk_at "g"
         intro p hp
         have s1 := same_new (o := .tup [.str "put", .str e.key, .str e.name, vd]) hp
         refine hq _ _ s1 ?_
         have ei : inv1 h e = .put e.key e.name d := by simp only [inv1, e1, e2]
         rw [ei]
         exact .tup st_new (.cons (.str _) (.cons (.str _) (.cons (.str _) (.cons (tq.mono s1) .nil))))
       | none =>
         have g1 := h3.nent e2
         rw [g1]
         walk_at "g"
         intro p hp
         have s1 := same_new (o := .tup [.str "drop", .str e.key, .str e.name]) hp
         refine hq _ _ s1 ?_
         have ei : inv1 h e = .drop e.key e.name := by simp only [inv1, e1, e2]
         rw [ei]
         exact .tup st_new (.cons (.str _) (.cons (.str _) (.cons (.str _) .nil)))
  case len =>
   obtain ⟨N, a, b, h, e, rfl, _⟩ := h
   rfl
/-- inverse_of(house, edits) -/
def spIO (K : PySem.W.Frag) (C : Addr) : Sp := fun vs H Q E => ∃ (N : Addr → Prop) (a b : Addr) (h : Hs) (xs : List V) (es : List Ed), vs = [.ref a, .ref b] ∧ T K H N (.ref a) (.dic (hK h)) ∧ SqL K H b xs ∧ Ts K H ff xs (es.map Ed.tr) ∧
  Wf h ∧ (∀ e ∈ es, e.Imm) ∧ (∃ n, Fits n h ∧ n + es.length ≤ 60) ∧ h.length ≤ 900 ∧
  match appAll (cpH h) es with
  | .ok _ => ∀ r H' ys, Same H H' → H r = none → H' r = some (.lst ys) → Ts K H' ff ys ((invs (cpH h) es).reverse.map Ed.tr) → Q (.ref r) H'
  | .error (w, n) => XUnk C w n H E
theorem sc_inverse_of : FnScope ["house", "edits", "tables", "found", "edit"] ["house", "edits"] (defScope s_inverse_of) := ⟨rfl, rfl, rfl, by decide +kernel, rfl, by decide +kernel, by decide +kernel⟩
theorem d_inverse_of (B : Bt mg) (F : TopF K mg "inverse_of" s_inverse_of ["house", "edits"]) (D_change_tables : Df P w K mg base "change_tables" ["tables", "edit"] 5 (spCT K C_Unknown)) (D_inverse : Df P w K mg base "inverse" ["house", "edit"] 5 (spIV K C_Unknown)) (D_copy_house : Df P w K mg base "copy_house" ["house"] 1 (spCH K)) : Df P w K mg base "inverse_of" ["house", "edits"] 6 (spIO K C_Unknown) := by
  refine F.df sc_inverse_of (fun vs H Q E h => ?len) (fun f cdv A outer s H vs Q E hr h => ?body)
  case body =>
   have hu := hr.units
   refine ⟨_, (pss_cons (ps_set (i := 2) sc_inverse_of.nd rfl (Or.inl rfl) (pe_df D_copy_house (hr.mono (by decide)) (fun σ => passAt (takes_of rfl rfl rfl rfl) σ) (pa_cons (pv 0) pa_nil)))
      (pss_cons (ps_set (i := 3) sc_inverse_of.nd rfl (Or.inl rfl) (pe_lst pa_nil))
      (pss_cons (ps_lockU (ps_for (passes_of rfl) rfl (k_walk (K := K) rfl (pv 1)) (pg_name (i := 4) sc_inverse_of.nd rfl (Or.inl rfl))
      (pss_cons (ps_expr (k_append (K := K) rfl (pv 3) (pa_cons (pe_df D_inverse (hr.mono (by decide)) (fun σ => passAt (takes_of rfl rfl rfl rfl) σ) (pa_cons (pv 2) (pa_cons (pv 4) pa_nil))) pa_nil)))
      (pss_one (ps_expr (pe_df D_change_tables (hr.mono (by decide)) (fun σ => passAt (takes_of rfl rfl rfl rfl) σ) (pa_cons (pv 2) (pa_cons (pv 4) pa_nil))))))))
      (pss_one (ps_ret (k_rev (K := K) rfl (pv 3))))))), ?_⟩
   obtain ⟨N, a, b, h, xs, es, rfl, ha, hb, hxs, wf, im, ⟨n, fit, hn⟩, hl, hq⟩ := h
   walk_at "g"
   refine ⟨N, a, h, rfl, ha, wf, fun p hp => Nat.le_trans (fit p hp) (by omega), hl, fun r H1 s1 o1' => ?_⟩
   have o1 := o1'.live
   walk_at "g"
   intro f hf
   have s2 : Same H1 (upd H1 f (.lst [])) := same_new hf
   have hf0 : H f = none := s1.free hf
   walk_at "g"
   refine .inl ?_
   walk_at "g"
   refine q_items ?_
   walk_at "g"
   refine q_itemsE (Sm.sqL (s1.trans s2) hb) ?_
   have hlen : xs.length = es.length := by rw [hxs.length, List.length_map]
   refine for_items (xs := xs) (fun i σ Hi => ∃ (v : Option V) (hi : Hs) (ys : List V), σ = [some (.ref a), some (.ref b), some (.ref r), some (.ref f), v] ∧ Same H Hi ∧ appAll (cpH h) (es.take i) = .ok hi ∧ Own K (fun b => H b = none ∧ H1 b ≠ none) Hi r hi ∧ Hi f = some (.lst ys) ∧
     Ts K Hi ff ys ((invs (cpH h) (es.take i)).map Ed.tr) ∧ ys.length = i) ?_ ?_ ?_ ?_
   · exact ⟨none, cpH h, [], rfl, s1.trans s2, rfl, o1.mono s2, upd_same, .nil, rfl⟩
   · rintro i σ Hi _ ⟨v, hi, ys, rfl, si, _⟩
     exact Sm.sqL si hb
   · rintro i x σ Hi hx ⟨v, hi, ys, rfl, si, ai, oi, fi, ti, li⟩
     obtain ⟨d, g1, g2⟩ := hxs.gets hx
     obtain ⟨e, he, rfl⟩ := map_at g1
     have imt : ∀ e ∈ es.take i, e.Imm := fun e m => im e (List.mem_of_mem_take m)
     obtain ⟨wi, fti, ni⟩ := appAll_ok wf.cp imt fit.cp ai
     have hlt : (es.take i).length ≤ es.length := by rw [List.length_take]; exact Nat.min_le_right _ _
     have hil : i < es.length := by
       rw [← hlen]
       exact (List.getElem?_eq_some_iff.mp hx).1
     walk_at "g"
     refine tyL fi ?_
     walk_at "g"
     refine ⟨_, r, x, hi, e, rfl, oi.T, g2.mono si, wi, ?_⟩
     cases q : app1 hi e with
     | error x =>
       obtain ⟨w1, n1⟩ := x
       rw [appAll_stop he ai q] at hq
       exact hq.mono si
     | ok h' =>
       intro u H2 s3 tu
       walk_at "g"
       refine q_append (s3 _ _ fi) (len_small (by omega)) ?_
       have nf : ∀ b, (H b = none ∧ H1 b ≠ none) → b ≠ f := fun b e z => e.2 (by rw [z]; exact hf)
       have o3 := (oi.mono s3).keep (keeps_upd (p := f) (o := .lst (ys ++ [u]))) (nt_of (s3 _ _ fi) (fun _ z => nomatch z) fun _ _ z => nomatch z) nf
       have t3 : Ts K (upd H2 f (.lst (ys ++ [u]))) ff (ys ++ [u]) ((invs (cpH h) (es.take (i + 1))).map Ed.tr) := by
         rw [invs_more he ai, List.map_append]
         exact ((ti.mono s3).append (.cons tu .nil)).upd (s3 _ _ fi) (fun _ z => nomatch z) (fun _ _ z => nomatch z) fun _ z => z.elim
       have sf : Same H (upd H2 f (.lst (ys ++ [u]))) := fun z o ez => by
         rw [upd_ne (ne_of_none ez hf0)]
         exact s3 _ _ (si z o ez)
       walk_at "g"
       refine ⟨_, r, x, hi, e, rfl, o3, g2.mono sf, wi, fun p hp => Nat.le_trans (fti p hp) (by omega), ?_⟩
       rw [q]
       intro q' es1 es2 nq eq o'
       have nqf : f ≠ q' := (nf q' nq).symm
       refine ⟨_, h', ys ++ [u], rfl, ?_, ?_, o', ?_, ?_, ?_⟩
       · intro z o ez
         rw [upd_ne (ne_of_none ez nq.1)]
         exact sf z o ez
       · rw [appAll_more he ai, q]
       · rw [upd_ne nqf, upd_same]
       · exact t3.upd eq (fun _ z => nomatch z) (fun _ _ z => nomatch z) fun _ z => z.elim
       · rw [List.length_append, li]
         rfl
   · rintro σ Hi ⟨v, hi, ys, rfl, si, ai, oi, fi, ti, li⟩
     rw [hlen, List.take_length] at ai ti
     rw [ai] at hq
     walk_at "g"
     refine q_rev ?_
     walk_at "g"
     refine ⟨f, ys, rfl, .inl (.inl fi), fun p hp => ?_⟩
     have s3 := same_new (o := .lst ys.reverse) hp
     refine hq p _ ys.reverse (si.trans s3) (si.free hp) upd_same ?_
     rw [List.map_reverse]
     exact (ti.mono s3).rev
  case len =>
   obtain ⟨N, a, b, h, xs, es, rfl, _⟩ := h
   rfl
/-- entry_in(house, key, name) -/
def spEI (K : PySem.W.Frag) (C : Addr) : Sp := fun vs H Q E => ∃ (N : Addr → Prop) (a : Addr) (k n : Str) (h : Hs), vs = [.ref a, .str k, .str n] ∧ T K H N (.ref a) (.dic (hK h)) ∧ Wf h ∧
  match lk h k with
  | some t => ∀ u H', Same H H' → T K H' ff u (match lk t n with | some d => .tup [.bl true, d] | none => .tup [.bl false, .non]) → Q u H'
  | none => XUnk C "table" k H E
/-- same_keys(house, other) -/
def spSK (K : PySem.W.Frag) : Sp := fun vs H Q _ => ∃ (N1 N2 : Addr → Prop) (a b : Addr) (h g : Hs), vs = [.ref a, .ref b] ∧ T K H N1 (.ref a) (.dic (hK h)) ∧ T K H N2 (.ref b) (.dic (hK g)) ∧ h.length ≤ 40 ∧ g.length ≤ 40 ∧
  ∀ H', Same H H' → Q (.bl (decide (srt (nms h) = srt (nms g)))) H'
theorem sc_same_keys : FnScope ["house", "other"] ["house", "other"] (defScope s_same_keys) := ⟨rfl, rfl, rfl, by decide +kernel, rfl, by decide +kernel, by decide +kernel⟩
theorem d_same_keys (B : Bt mg) (F : TopF K mg "same_keys" s_same_keys ["house", "other"]) : Df P w K mg base "same_keys" ["house", "other"] 1 (spSK K) := by
  refine F.df sc_same_keys (fun vs H Q E h => ?len) (fun f cdv A outer s H vs Q E hr h => ?body)
  case body =>
   have hu := hr.units
   refine ⟨_, (pss_one (ps_ret (pe_cmpR (k_eq (K := K) rfl hu) (pe_callB (k_sort (K := K) rfl rfl) (by rfl) B.b_sorted (by decide +kernel) (pa_cons (pv 0) pa_nil)) (pe_callB (k_sort (K := K) rfl rfl) (by rfl) B.b_sorted (by decide +kernel) (pa_cons (pv 1) pa_nil)) (nomark _)))), ?_⟩
   obtain ⟨N1, N2, a, b, h, g, rfl, ha, hb, hl, gl, hq⟩ := h
   obtain ⟨a', ka, ea, _, hra, tka⟩ := ha.dicAt
   cases ea
   obtain ⟨b', kb, eb, _, hrb, tkb⟩ := hb.dicAt
   cases eb
   walk_at "g"
   refine q_sortD (ks := nms h) hra (tka.keys.trans (keys_hK h)) (by rw [nms_len]; omega) fun p hp => ?_
   have s1 := same_new (o := .lst ((srt (nms h)).map V.str)) hp
   walk_at "g"
   refine q_sortD (ks := nms g) (Sm.rd s1 hrb) (tkb.keys.trans (keys_hK g)) (by rw [nms_len]; omega) fun q hq1 => ?_
   have s2 := same_new (o := .lst ((srt (nms g)).map V.str)) hq1
   refine q_eqSs (Sm.sqL s2 sq_new) sq_new ?_
   exact hq _ (s1.trans s2)
  case len =>
   obtain ⟨N1, N2, a, b, h, g, rfl, _⟩ := h
   rfl
/-- check_keys(base, houses) -/
def spCKs (K : PySem.W.Frag) (C : Addr) : Sp := fun vs H Q E => ∃ (N : Addr → Prop) (a l : Addr) (h : Hs) (xs : List V) (gs : List Hs), vs = [.ref a, .ref l] ∧ T K H N (.ref a) (.dic (hK h)) ∧ SqL K H l xs ∧ Ts K H N xs (gs.map fun g => Tr.dic (hK g)) ∧ h.length ≤ 40 ∧ (∀ g ∈ gs, g.length ≤ 40) ∧
  ((∀ g ∈ gs, srt (nms h) = srt (nms g)) → ∀ H', Same H H' → Q .non H') ∧ ((∃ g ∈ gs, srt (nms h) ≠ srt (nms g)) → XUnk C "house" "tables" H E)
/-- names_of(houses, key) -/
def spNO (K : PySem.W.Frag) : Sp := fun vs H Q _ => ∃ (N : Addr → Prop) (l : Addr) (key : Str) (xs : List V) (gs : List Hs), vs = [.ref l, .str key] ∧ SqL K H l xs ∧ Ts K H N xs (gs.map fun g => Tr.dic (hK g)) ∧ gs.length ≤ 3 ∧
  (∀ g ∈ gs, ∃ t, lk g key = some t ∧ t.length ≤ 20) ∧ ∀ p H', Same H H' → H p = none → H' p = some (.lst ((srt (uni (tabs key gs))).map V.str)) → Q (.ref p) H'
/-- settled(base, one, two) -/
def spSe (K : PySem.W.Frag) : Sp := fun vs H Q _ => ∃ (x y z : V) (b o t : En), vs = [x, y, z] ∧ T K H ff x (enc b) ∧ T K H ff y (enc o) ∧ T K H ff z (enc t) ∧ (∀ e ∈ [b, o, t], ∀ d, e = some d → imm d = true ∧ dep d ≤ 50) ∧
  ∀ p v H', Same H H' → H' p = some (.tup [.bl (set1 b o t).1, v]) → T K H' ff v (enc (set1 b o t).2) → Q (.ref p) H'
theorem enc_nod {e : En} (h : ∀ d, e = some d → imm d = true ∧ dep d ≤ 50) : TU.nod (enc e) = true ∧ TU.dep (enc e) ≤ 60 := by
  cases e with
  | none => exact ⟨rfl, (show 1 ≤ 60 by decide)⟩
  | some d =>
    obtain ⟨h1, h2⟩ := h d rfl
    have h3 := nod_of_imm h1
    refine ⟨by simp only [enc, TU.nod, nods, h3, Bool.and_self], ?_⟩
    simp only [enc, TU.dep, deps]
    omega
def MOk (h : Hs) : Prop := Wf h ∧ Fits 20 h ∧ All (fun d => dep d ≤ 50) h

/-- what leads from one table's entry to another's -/
def dif1 (k n : Str) (a b : En) : Option Ed := match b with
  | none => some (.drop k n)
  | some e => match a with
    | none => some (.put k n e)
    | some d => if eqb d e = true then none else some (.put k n e)
def un2 (t u : Tab) : List Str := nms t ++ (nms u).filter fun n => decide (n ∉ nms t)
def difT (k : Str) (t u : Tab) : List Ed := (srt (un2 t u)).filterMap fun n => dif1 k n (lk t n) (lk u n)
def dif (h o : Hs) : List Ed := (srt (nms h)).flatMap fun k => difT k ((lk h k).getD []) ((lk o k).getD [])
theorem un2_mem {t u : Tab} {n : Str} : n ∈ un2 t u ↔ n ∈ nms t ∨ n ∈ nms u := by
  unfold un2
  rw [List.mem_append, List.mem_filter, decide_eq_true_eq]
  by_cases c : n ∈ nms t
  · simp [c]
  · simp [c]
theorem un2_nd {t u : Tab} (ht : (nms t).Nodup) (hu : (nms u).Nodup) : (un2 t u).Nodup :=
  List.nodup_append.mpr ⟨ht, hu.sublist List.filter_sublist, fun a ha b hb e => by
    rw [List.mem_filter, decide_eq_true_eq] at hb
    exact hb.2 (by rw [← e]; exact ha)⟩
theorem un2_len (t u : Tab) : (un2 t u).length ≤ t.length + u.length := by
  unfold un2
  rw [List.length_append, nms_len]
  have := List.length_filter_le (fun n => decide (n ∉ nms t)) (nms u)
  rw [nms_len] at this
  omega
/-- difference(house, other) -/
def spDF (K : PySem.W.Frag) (CM : Addr) : Sp := fun vs H Q E => ∃ (N : Addr → Prop) (a b : Addr) (h o : Hs), vs = [.ref a, .ref b] ∧ T K H N (.ref a) (.dic (hK h)) ∧ T K H N (.ref b) (.dic (hK o)) ∧ MOk h ∧ MOk o ∧ h.length ≤ 40 ∧ o.length ≤ 40 ∧
  (srt (nms h) = srt (nms o) → ∀ l H' xs, Same H H' → H l = none → H' l = some (.lst xs) → Ts K H' ff xs ((dif h o).map Ed.tr) → Q (.ref l) H') ∧ (srt (nms h) ≠ srt (nms o) → XUnk CM "house" "tables" H E)
-- difference: 0 house, 1 other, 2 found, 3 key, 4 name
theorem sc_difference : FnScope ["house", "other", "found", "key", "name"] ["house", "other"] (defScope s_difference) := ⟨rfl, rfl, rfl, by decide +kernel, rfl, by decide +kernel, by decide +kernel⟩
theorem d_difference (B : Bt mg) (F : TopF K mg "difference" s_difference ["house", "other"]) (X_Misfit : Xc P w K mg base "Misfit" ["what", "name"] C_Misfit) (D_same_keys : Df P w K mg base "same_keys" ["house", "other"] 1 (spSK K)) : Df P w K mg base "difference" ["house", "other"] 3 (spDF K C_Misfit) := by
  refine F.df sc_difference (fun vs H Q E h => ?len) (fun f cdv A outer s H vs Q E hr h => ?body)
  case body =>
   have hu := hr.units
   refine ⟨_, (pss_cons (ps_if (pt_not (k_tr (K := K) rfl (pe_df D_same_keys (hr.mono (by decide)) (fun σ => passAt (takes_of rfl rfl rfl rfl) σ) (pa_cons (pv 0) (pa_cons (pv 1) pa_nil)))))
      (pss_one (ps_rz rfl X_Misfit (hr.mono (by decide)) (takes_of rfl rfl rfl rfl) (pa_cons pe_str (pa_cons pe_str pa_nil))))
      pss_nil)
      (pss_cons (ps_set (i := 2) sc_difference.nd rfl (Or.inl rfl) (pe_lst pa_nil))
      (pss_cons (ps_for (passes_of rfl) rfl (k_walk (K := K) rfl (pe_callB (k_sortX (K := K) (P := P) (w := w) rfl rfl rfl rfl) (by rfl) B.b_sorted (by decide +kernel) (pa_cons (pv 0) pa_nil))) (pg_name (i := 3) sc_difference.nd rfl (Or.inl rfl))
      (pss_one (ps_for (passes_of rfl) rfl (k_walk (K := K) rfl (pe_callB (k_sortX (K := K) (P := P) (w := w) rfl rfl rfl rfl) (by rfl) B.b_sorted (by decide +kernel) (pa_cons (pe_callTy (k_setL (K := K) (P := P) (w := w) rfl rfl rfl rfl hu) (by rfl) B.b_set (by decide +kernel) (pa_cons (pe_op (k_add (K := K) rfl) (pe_callTy (k_list (K := K) rfl rfl) (by rfl) B.b_list (by decide +kernel) (pa_cons (pe_ix (k_ix (K := K) rfl hu) (pv 0) (pv 3) (fun _ _ => rfl)) pa_nil)) (pe_callTy (k_list (K := K) rfl rfl) (by rfl) B.b_list (by decide +kernel) (pa_cons (pe_ix (k_ix (K := K) rfl hu) (pv 1) (pv 3) (fun _ _ => rfl)) pa_nil))) pa_nil)) pa_nil))) (pg_name (i := 4) sc_difference.nd rfl (Or.inl rfl))
      (pss_one (ps_if (pt_cmpR (k_nin (K := K) rfl hu) (pv 4) (pe_ix (k_ix (K := K) rfl hu) (pv 1) (pv 3) (fun _ _ => rfl)) (by rfl))
      (pss_one (ps_expr (k_append (K := K) rfl (pv 2) (pa_cons (pe_tup (pa_cons pe_str (pa_cons (pv 3) (pa_cons (pv 4) pa_nil)))) pa_nil))))
      (pss_one (ps_if (PW.pt (pw_or (pt_cmpR (k_nin (K := K) rfl hu) (pv 4) (pe_ix (k_ix (K := K) rfl hu) (pv 0) (pv 3) (fun _ _ => rfl)) (by rfl)) (pw_or1 (pt_cmpR (k_ne (K := K) rfl hu) (pe_ix (k_ix (K := K) rfl hu) (pe_ix (k_ix (K := K) rfl hu) (pv 0) (pv 3) (fun _ _ => rfl)) (pv 4) (fun _ _ => rfl)) (pe_ix (k_ix (K := K) rfl hu) (pe_ix (k_ix (K := K) rfl hu) (pv 1) (pv 3) (fun _ _ => rfl)) (pv 4) (fun _ _ => rfl)) (nomark _)))))
      (pss_one (ps_expr (k_append (K := K) rfl (pv 2) (pa_cons (pe_tup (pa_cons pe_str (pa_cons (pv 3) (pa_cons (pv 4) (pa_cons (pe_ix (k_ix (K := K) rfl hu) (pe_ix (k_ix (K := K) rfl hu) (pv 1) (pv 3) (fun _ _ => rfl)) (pv 4) (fun _ _ => rfl)) pa_nil))))) pa_nil))))
      pss_nil)))))))
      (pss_one (ps_ret (pv 2)))))), ?_⟩
   obtain ⟨N, a, b, h, o, rfl, ha, hb, mh, mo, lh, lo, h1, h2⟩ := h
   obtain ⟨a', kvs, ea, _, hra, tka⟩ := ha.dicAt
   cases ea
   obtain ⟨b', kvs2, eb, _, hrb, tkb⟩ := hb.dicAt
   cases eb
   walk_at "g"
   refine ⟨N, N, a, b, h, o, rfl, ha, hb, lh, lo, fun H1 s1 => ?_⟩
   walk_at "g"
   refine q_ndec (fun c => ?_) (fun c => ?_)
   · walk_at "g"
     exact q_mk rfl fun d H' s _ hd => (h2 c).mono s1 d H' s hd
   · have hq := h1 c
     walk_at "g"
     intro l hl
     have lH : H l = none := s1.free hl
     have s2 := same_new (o := .lst []) hl
     have s12 := s1.trans s2
     have nl : ∀ {Hx : Hp} {o : HO}, Same H Hx → Same H (upd Hx l o) := fun s z u e => by
       rw [upd_ne (ne_of_none e lH)]
       exact s _ _ e
     walk_at "g"
     refine q_items ?_
     walk_at "g"
     refine .inl ?_
     refine q_sortD (ks := nms h) (Sm.rd s12 hra) (by rw [tka.keys, keys_hK]) (by rw [nms_len]; omega) fun p hp => ?_
     have s3 := same_new (o := .lst ((srt (nms h)).map V.str)) hp
     have pl : p ≠ l := fun z => by rw [z, upd_same] at hp; cases hp
     have s13 := s12.trans s3
     have pe : (upd (upd H1 l (.lst [])) p (.lst ((srt (nms h)).map V.str))) p = some (.lst ((srt (nms h)).map V.str)) := upd_same
     have le : (upd (upd H1 l (.lst [])) p (.lst ((srt (nms h)).map V.str))) l = some (.lst []) := s3 _ _ upd_same
     generalize upd (upd H1 l (.lst [])) p (.lst ((srt (nms h)).map V.str)) = H3 at s13 pe le
     clear s3 s12 s2 hl
     refine q_itemsE (xs := (srt (nms h)).map V.str) (.inl (.inl pe)) ?_
     refine for_items (xs := (srt (nms h)).map V.str) (fun i σ Hi => ∃ (v3 v4 : Option V) (xs : List V), σ = [some (.ref a), some (.ref b), some (.ref l), v3, v4] ∧ Same H Hi ∧ Hi p = some (.lst ((srt (nms h)).map V.str)) ∧ Hi l = some (.lst xs) ∧
       Ts K Hi ff xs ((((srt (nms h)).take i).flatMap fun k => difT k ((lk h k).getD []) ((lk o k).getD [])).map Ed.tr) ∧ xs.length ≤ 40 * i) ?_ ?_ ?_ ?_
     · exact ⟨none, none, [], rfl, s13, pe, le, .nil, Nat.le_refl _⟩
     · rintro i σ Hi _ ⟨v3, v4, xs, rfl, si, pi, _⟩
       exact .inl (.inl pi)
     · rintro i x σ Hi hx ⟨v3, v4, xs, rfl, si, pi, li, ti, ln⟩
       obtain ⟨k, hk, rfl⟩ := hlist_at hx
       have hkn : k ∈ nms h := (srt_perm _).mem_iff.mp (mem_at hk)
       have hko : k ∈ nms o := (srt_perm _).mem_iff.mp (by rw [← Decidable.not_not.mp (fun z => z c)]; exact mem_at hk)
       obtain ⟨t, et⟩ := lk_mem_nms hkn
       obtain ⟨u, eu⟩ := lk_mem_nms hko
       have i40 : i < 40 := by
         have z1 := (List.getElem?_eq_some_iff.mp hk).1
         rw [(srt_perm _).length_eq, nms_len] at z1
         omega
       obtain ⟨qt, ft, x1, _, x2, x3⟩ := T.tab tka et
       obtain ⟨qu, fu, y1, _, y2, y3⟩ := T.tab tkb eu
       have wt := mh.1.tab _ (lk_mem et)
       have wu := mo.1.tab _ (lk_mem eu)
       have tl : t.length ≤ 20 := mh.2.1 _ (lk_mem et)
       have ul : u.length ≤ 20 := mo.2.1 _ (lk_mem eu)
       have rka := Sm.rd si hra
       have rkb := Sm.rd si hrb
       have rt := Sm.rd si x2
       have ru := Sm.rd si y2
       walk_at "g"
       refine q_items ?_
       walk_at "g"
       refine q_ixK (.inr k) rka x1 ?_
       walk_at "g"
       refine q_listK rt fun q1 hq1 => ?_
       have s4 := same_new (o := .lst (ft.map fun kv => kV kv.1)) hq1
       rw [keysV (by rw [x3.keys, keys_tK])] at s4 ⊢
       walk_at "g"
       refine q_ixK (.inr k) (Sm.rd s4 rkb) y1 ?_
       walk_at "g"
       refine q_listK (Sm.rd s4 ru) fun q2 hq2 => ?_
       have s5 := same_new (o := .lst (fu.map fun kv => kV kv.1)) hq2
       rw [keysV (by rw [y3.keys, keys_tK])] at s5 ⊢
       refine q_addL (s5 _ _ upd_same) upd_same (by rw [List.length_map, List.length_map, nms_len, nms_len]; exact Nat.le_of_lt (len_small (by omega))) fun q3 hq3 => ?_
       have s6 := same_new (o := .lst ((nms t).map V.str ++ (nms u).map V.str)) hq3
       walk_at "g"
       refine ⟨q3, nms t ++ nms u, rfl, .inl (.inl (by rw [List.map_append]; exact upd_same)), by rw [List.length_append, nms_len, nms_len]; omega, fun q4 zs hq4 znd zm zl => ?_⟩
       have s7 := same_new (o := STO P w q4 zs) hq4
       rw [List.length_append, nms_len, nms_len] at zl
       walk_at "g"
       have ez : srt zs = srt (un2 t u) := srt_congr ((List.perm_ext_iff_of_nodup znd (un2_nd wt.1 wu.1)).mpr fun x => by rw [zm, un2_mem, List.mem_append])
       refine .inr ⟨q4, zs, rfl, upd_same, by omega, fun q5 hq5 => ?_⟩
       rw [ez]
       have s8 := same_new (o := .lst ((srt (un2 t u)).map V.str)) hq5
       have sG := (((s4.trans s5).trans s6).trans s7).trans s8
       have gp := sG _ _ pi
       have gl := sG _ _ li
       have tg := ti.mono sG
       have sH := si.trans sG
       have q5l : q5 ≠ l := fun z => by
         rw [z, (((s4.trans s5).trans s6).trans s7) _ _ li] at hq5
         cases hq5
       have gq : (upd (upd (upd (upd (upd Hi q1 (.lst ((nms t).map V.str))) q2 (.lst ((nms u).map V.str))) q3 (.lst ((nms t).map V.str ++ (nms u).map V.str))) q4 (STO P w q4 zs)) q5 (.lst ((srt (un2 t u)).map V.str))) q5 = some (.lst ((srt (un2 t u)).map V.str)) := upd_same
       generalize upd (upd (upd (upd (upd Hi q1 (.lst ((nms t).map V.str))) q2 (.lst ((nms u).map V.str))) q3 (.lst ((nms t).map V.str ++ (nms u).map V.str))) q4 (STO P w q4 zs)) q5 (.lst ((srt (un2 t u)).map V.str)) = G at sG gp gl tg sH gq
       clear s4 s5 s6 s7 s8 hq5 hq4 hq3 hq2 hq1 sG
       have uln : (srt (un2 t u)).length ≤ 40 := by
         rw [(srt_perm _).length_eq]
         have := un2_len t u
         omega
       refine q_itemsE (xs := (srt (un2 t u)).map V.str) (.inl (.inl gq)) ?_
       refine for_items (xs := (srt (un2 t u)).map V.str) (fun m σ Hm => ∃ (v4 : Option V) (ys : List V), σ = [some (.ref a), some (.ref b), some (.ref l), some (.str k), v4] ∧ Same H Hm ∧ Hm p = some (.lst ((srt (nms h)).map V.str)) ∧ Hm q5 = some (.lst ((srt (un2 t u)).map V.str)) ∧ Hm l = some (.lst ys) ∧
         Ts K Hm ff ys ((((srt (nms h)).take i).flatMap (fun k => difT k ((lk h k).getD []) ((lk o k).getD [])) ++ ((srt (un2 t u)).take m).filterMap fun n => dif1 k n (lk t n) (lk u n)).map Ed.tr) ∧ ys.length ≤ 40 * i + m) ?_ ?_ ?_ ?_
       · refine ⟨v4, xs, rfl, sH, gp, gq, gl, ?_, by omega⟩
         rw [List.take_zero, List.filterMap_nil, List.append_nil]
         exact tg
       · rintro m σ Hm _ ⟨v4, ys, rfl, sm, pm, qm, _⟩
         exact .inl (.inl qm)
       · rintro m y σ Hm hy ⟨v4, ys, rfl, sm, pm, qm, lm, tm, lnm⟩
         obtain ⟨n, hn, rfl⟩ := hlist_at hy
         have m40 : m < 40 := by
           have := (List.getElem?_eq_some_iff.mp hn).1
           omega
         have rka := Sm.rd sm hra
         have rkb := Sm.rd sm hrb
         have rt := Sm.rd sm (Sm.rd Same.refl' x2)
         have ru := Sm.rd sm (Sm.rd Same.refl' y2)
         have x3m := x3.mono sm
         have y3m := y3.mono sm
         have inn := un2_mem.mp ((srt_perm _).mem_iff.mp (mem_at hn))
         have step : ((srt (un2 t u)).take (m + 1)).filterMap (fun n => dif1 k n (lk t n) (lk u n)) = (((srt (un2 t u)).take m).filterMap fun n => dif1 k n (lk t n) (lk u n)) ++ (dif1 k n (lk t n) (lk u n)).toList := by
           rw [take_more hn, List.filterMap_append]
           exact congrArg _ (fm_one _ _)
         -- nothing is added; an edit is added
         have no : ∀ {σ' : L2.St}, dif1 k n (lk t n) (lk u n) = none → σ' = [some (.ref a), some (.ref b), some (.ref l), some (.str k), some (.str n)] → ∃ (v4 : Option V) (ys : List V), σ' = [some (.ref a), some (.ref b), some (.ref l), some (.str k), v4] ∧ Same H Hm ∧ Hm p = some (.lst ((srt (nms h)).map V.str)) ∧ Hm q5 = some (.lst ((srt (un2 t u)).map V.str)) ∧ Hm l = some (.lst ys) ∧
             Ts K Hm ff ys ((((srt (nms h)).take i).flatMap (fun k => difT k ((lk h k).getD []) ((lk o k).getD [])) ++ ((srt (un2 t u)).take (m + 1)).filterMap fun n => dif1 k n (lk t n) (lk u n)).map Ed.tr) ∧ ys.length ≤ 40 * i + (m + 1) := fun {σ'} e es => by
           refine ⟨_, ys, es, sm, pm, qm, lm, ?_, by omega⟩
           rw [step, e]
           show Ts K Hm ff ys ((_ ++ (_ ++ [])).map Ed.tr)
           rw [List.append_nil]
           exact tm
         have yes : ∀ {Hx : Hp} {x : V} {e : Ed} {σ' : L2.St}, Same Hm Hx → T K Hx ff x e.tr → dif1 k n (lk t n) (lk u n) = some e → σ' = [some (.ref a), some (.ref b), some (.ref l), some (.str k), some (.str n)] → ∃ (v4 : Option V) (zs : List V), σ' = [some (.ref a), some (.ref b), some (.ref l), some (.str k), v4] ∧ Same H (upd Hx l (.lst (ys ++ [x]))) ∧ (upd Hx l (.lst (ys ++ [x]))) p = some (.lst ((srt (nms h)).map V.str)) ∧
             (upd Hx l (.lst (ys ++ [x]))) q5 = some (.lst ((srt (un2 t u)).map V.str)) ∧ (upd Hx l (.lst (ys ++ [x]))) l = some (.lst zs) ∧ Ts K (upd Hx l (.lst (ys ++ [x]))) ff zs ((((srt (nms h)).take i).flatMap (fun k => difT k ((lk h k).getD []) ((lk o k).getD [])) ++ ((srt (un2 t u)).take (m + 1)).filterMap fun n => dif1 k n (lk t n) (lk u n)).map Ed.tr) ∧ zs.length ≤ 40 * i + (m + 1) := fun {Hx x e σ'} s tx e1 es => by
           refine ⟨_, ys ++ [x], es, nl (sm.trans s), by rw [upd_ne pl]; exact s _ _ pm, by rw [upd_ne q5l]; exact s _ _ qm, upd_same, ?_, by rw [List.length_append]; show ys.length + 1 ≤ _; omega⟩
           rw [step, e1, ← List.append_assoc, List.map_append]
           exact ((tm.mono s).append (Ts.one tx)).upd (s _ _ lm) (fun _ z => nomatch z) (fun _ _ z => nomatch z) fun _ z => z.elim
         walk_at "g"
         refine q_ixK (.inr k) rkb y1 ?_
         refine q_ninD (.inr n) ru ?_
         walk_at "g"
         cases eb : lk u n with
         | none =>
           rw [y3m.nent eb]
           rw [eb] at yes
           walk_at "g"
           refine tyL lm ?_
           walk_at "g"
           intro q6 hq6
           have s9 := same_new (o := .tup [.str "drop", .str k, .str n]) hq6
           walk_at "g"
           refine q_append (s9 _ _ lm) (len_small (by omega)) ?_
           exact yes s9 (e := .drop k n) (.tup st_new (.cons (.str _) (.cons (.str _) (.cons (.str _) .nil)))) rfl rfl
         | some e =>
           obtain ⟨ve, z1, z2⟩ := y3m.ent eb
           rw [z1]
           rw [eb] at yes no
           have ie := immT_lk wu.2 eb
           have de : dep e ≤ 50 := mo.2.2.lk eu eb
           walk_at "g"
           refine q_ixK (.inr k) rka x1 ?_
           refine q_ninD (.inr n) rt ?_
           walk_at "g"
           cases ea : lk t n with
           | none =>
             rw [x3m.nent ea]
             rw [ea] at yes
             walk_at "g"
             refine tyL lm ?_
             walk_at "g"
             refine q_ixK (.inr k) rkb y1 ?_
             walk_at "g"
             refine q_ixK (.inr n) ru z1 ?_
             walk_at "g"
             intro q6 hq6
             have s9 := same_new (o := .tup [.str "put", .str k, .str n, ve]) hq6
             walk_at "g"
             refine q_append (s9 _ _ lm) (len_small (by omega)) ?_
             exact yes s9 (e := .put k n e) (.tup st_new (.cons (.str _) (.cons (.str _) (.cons (.str _) (.cons ((z2.imm ie).mono s9) .nil))))) rfl rfl
           | some d =>
             obtain ⟨vd, w1, w2⟩ := x3m.ent ea
             rw [w1]
             rw [ea] at yes no
             have id' := immT_lk wt.2 ea
             have dd : dep d ≤ 50 := mh.2.2.lk et ea
             walk_at "g"
             refine q_ixK (.inr k) rka x1 ?_
             walk_at "g"
             refine q_ixK (.inr n) rt w1 ?_
             walk_at "g"
             refine q_ixK (.inr k) rkb y1 ?_
             walk_at "g"
             refine q_ixK (.inr n) ru z1 ?_
             refine q_neT w2 z2 (nod_of_imm id') (nod_of_imm ie) (by omega) ?_
             walk_at "g"
             cases ee : eqb d e with
             | true =>
               walk_at "g"
               exact no (by show (if eqb d e = true then none else some _) = none; rw [if_pos ee]) rfl
             | false =>
             walk_at "g"
             refine tyL lm ?_
             walk_at "g"
             refine q_ixK (.inr k) rkb y1 ?_
             walk_at "g"
             refine q_ixK (.inr n) ru z1 ?_
             walk_at "g"
             intro q6 hq6
             have s9 := same_new (o := .tup [.str "put", .str k, .str n, ve]) hq6
             walk_at "g"
             refine q_append (s9 _ _ lm) (len_small (by omega)) ?_
             exact yes s9 (e := .put k n e) (.tup st_new (.cons (.str _) (.cons (.str _) (.cons (.str _) (.cons ((z2.imm ie).mono s9) .nil))))) (by show (if eqb d e = true then none else some _) = some _; rw [if_neg (by rw [ee]; exact Bool.false_ne_true)]) rfl
       · rintro σ Hm ⟨v4, ys, rfl, sm, pm, qm, lm, tm, lnm⟩
         rw [List.length_map, List.take_length] at tm
         have el1 : (srt (nms h)).take (i + 1) = (srt (nms h)).take i ++ [k] := take_more hk
         refine ⟨_, _, ys, rfl, sm, pm, lm, ?_, ?_⟩
         · rw [el1, List.flatMap_append]
           have e1 : List.flatMap (fun k => difT k ((lk h k).getD []) ((lk o k).getD [])) [k] = difT k t u := by simp [et, eu]
           rw [e1]
           exact tm
         · rw [List.length_map] at lnm
           omega
     · rintro σ Hi ⟨v3, v4, xs, rfl, si, pi, li, ti, ln⟩
       rw [List.length_map, List.take_length] at ti
       walk_at "g"
       exact hq l Hi xs si lH li ti
  case len =>
   obtain ⟨N, a, b, h, o, rfl, _⟩ := h
   rfl

/-- History.__init__(self, house) -/
def spHI (C : Addr) (K : PySem.W.Frag) : Sp := fun vs H Q _ => ∃ (N : Addr → Prop) (p dx a : Addr) (h : Hs), vs = [.ref p, .ref a] ∧ H p = some (.ins C dx []) ∧ T K H N (.ref a) (.dic (hK h)) ∧ (∀ z, N z → z ≠ p) ∧ Wf h ∧ Fits 60 h ∧ h.length ≤ 900 ∧
  ∀ H', Kp p H H' → HiAt C K (fun z => H z = none) H' p [⟨cpH h, "", []⟩] 0 → Q .non H'
theorem sc_History___init : FnScope ["self", "house"] ["self", "house"] (defScope s_History___init) := ⟨rfl, rfl, rfl, by decide +kernel, rfl, by decide +kernel, by decide +kernel⟩
theorem d_History___init (B : Bt mg) (F : TopM K C_History "__init__" "History.__init__" s_History___init ["self", "house"]) (Kl_History : Kl K mg "History" C_History ["houses", "labels", "lists", "now"]) (D_copy_house : Df P w K mg base "copy_house" ["house"] 1 (spCH K)) : Dm P w K mg base C_History "__init__" ["self", "house"] 2 (spHI C_History K) := by
  refine F.dm sc_History___init (fun vs H Q E h => ?len) (fun f cdv A outer s H vs Q E hr h => ?body)
  case body =>
   have hu := hr.units
   refine ⟨_, (pss_cons (k_sfld (K := K) rfl (pv 0) (pe_lst (pa_cons (pe_df D_copy_house (hr.mono (by decide)) (fun σ => passAt (takes_of rfl rfl rfl rfl) σ) (pa_cons (pv 1) pa_nil)) pa_nil)) rfl)
      (pss_cons (k_sfld (K := K) rfl (pv 0) (pe_lst (pa_cons pe_str pa_nil)) rfl)
      (pss_cons (k_sfld (K := K) rfl (pv 0) (pe_lst (pa_cons (pe_lst pa_nil) pa_nil)) rfl)
      (pss_one (k_sfld (K := K) rfl (pv 0) pe_int rfl))))), ?_⟩
   obtain ⟨N, p, dx, a, h, rfl, hp, ha, hN, wf, fit, hl, hq⟩ := h
   walk_at "g"
   refine ⟨N, a, h, rfl, ha, wf, fit, hl, fun r H1 s1 o1 => ?_⟩
   walk_at "g"
   intro lh hlh
   have s2 := same_new (o := .lst [.ref r]) hlh
   have s12 := s1.trans s2
   walk_at "g"
   have e2 := s12 _ _ hp
   have kp2 : Kp p H (upd H1 lh (.lst [.ref r])) := Kp.of s12
   have el2 : (upd H1 lh (.lst [.ref r])) lh = some (.lst [.ref r]) := upd_same
   have lhp : lh ≠ p := (ne_of_none (s1 _ _ hp) hlh).symm
   have lhH : H lh = none := s1.free hlh
   have o2 := o1.mono s2
   generalize upd H1 lh (.lst [.ref r]) = H2 at e2 kp2 el2 o2
   refine q_sfldE Kl_History e2 (by simp) (by decide) ?_
   have nt : ∀ {Hx : Hp} {fs : List (Str × V)} {o : HO}, Hx p = some (.ins C_History dx fs) → ∀ z xs, z = p → ¬ Rd Hx z (.tup xs) := fun e => nt_of e (fun _ z => nomatch z) fun _ _ z => nomatch z
   have rp : ∀ z, H z = none → z ≠ p := fun z e c => by
     rw [c, hp] at e
     cases e
   have o3 := o2.keep (keeps_upd (p := p) (o := .ins C_History dx (putF "houses" (.ref lh) []))) (nt (o := .tup []) e2) rp
   have e3 : (upd H2 p (.ins C_History dx (putF "houses" (.ref lh) []))) p = some (.ins C_History dx (putF "houses" (.ref lh) [])) := upd_same
   have kp3 : Kp p H (upd H2 p (.ins C_History dx (putF "houses" (.ref lh) []))) := kp2.trans Kp.upd
   have el3 : (upd H2 p (.ins C_History dx (putF "houses" (.ref lh) []))) lh = some (.lst [.ref r]) := by rw [upd_ne lhp]; exact el2
   generalize upd H2 p (.ins C_History dx (putF "houses" (.ref lh) [])) = H3 at e3 kp3 el3 o3
   walk_at "g"
   intro ll hll
   have s4 := same_new (o := .lst [.str ""]) hll
   have llp : ll ≠ p := (ne_of_none e3 hll).symm
   have llH : H ll = none := kp3.fresh e3 hll
   have llh : lh ≠ ll := ne_of_none el3 hll
   walk_at "g"
   refine q_sfldE Kl_History (s4 _ _ e3) (by simp) (putF_small (n := 0) (Nat.le_refl _) (by decide)) ?_
   have e5 : (upd (upd H3 ll (.lst [.str ""])) p (.ins C_History dx (putF "labels" (.ref ll) (putF "houses" (.ref lh) [])))) p = some (.ins C_History dx (putF "labels" (.ref ll) (putF "houses" (.ref lh) []))) := upd_same
   have kp5 : Kp p H (upd (upd H3 ll (.lst [.str ""])) p (.ins C_History dx (putF "labels" (.ref ll) (putF "houses" (.ref lh) [])))) := (kp3.trans (Kp.of s4)).trans Kp.upd
   have el5 : (upd (upd H3 ll (.lst [.str ""])) p (.ins C_History dx (putF "labels" (.ref ll) (putF "houses" (.ref lh) [])))) lh = some (.lst [.ref r]) := by rw [upd_ne lhp]; exact s4 _ _ el3
   have eb5 : (upd (upd H3 ll (.lst [.str ""])) p (.ins C_History dx (putF "labels" (.ref ll) (putF "houses" (.ref lh) [])))) ll = some (.lst [.str ""]) := by rw [upd_ne llp]; exact upd_same
   have o5 := (o3.mono s4).keep (keeps_upd (p := p) (o := .ins C_History dx (putF "labels" (.ref ll) (putF "houses" (.ref lh) [])))) (nt (o := .tup []) (s4 _ _ e3)) rp
   generalize upd (upd H3 ll (.lst [.str ""])) p (.ins C_History dx (putF "labels" (.ref ll) (putF "houses" (.ref lh) []))) = H5 at e5 kp5 el5 eb5 o5
   walk_at "g"
   intro l0 hl0
   have s6 := same_new (o := .lst []) hl0
   have l0p : l0 ≠ p := (ne_of_none e5 hl0).symm
   have l0H : H l0 = none := kp5.fresh e5 hl0
   walk_at "g"
   intro le hle
   have s7 := same_new (o := .lst [.ref l0]) hle
   have s67 := s6.trans s7
   have lep : le ≠ p := (ne_of_none (s6 _ _ e5) hle).symm
   have leH : H le = none := kp5.fresh e5 (s6.free hle)
   have l0e : l0 ≠ le := ne_of_none (H := upd H5 l0 (.lst [])) upd_same hle
   walk_at "g"
   refine q_sfldE Kl_History (s67 _ _ e5) (by simp) (putF_small (n := 1) (length_putF _ _ _) (by decide)) ?_
   walk_at "g"
   refine q_sfldE Kl_History upd_same (by simp) (putF_small (n := 2) (Nat.le_trans (length_putF _ _ _) (Nat.succ_le_succ (length_putF _ _ _))) (by decide)) ?_
   refine hq _ (((kp5.trans (Kp.of s67)).trans Kp.upd).trans Kp.upd) ⟨⟨dx, lh, ll, le, [.ref r], [.ref l0], ?_, lhH, llH, leH, ?_, ?_, ?_, ?_, ?_⟩, Nat.zero_lt_one, (show 1 ≤ 401 by decide)⟩
   · rw [upd_same, hfs_new]
     rfl
   · rw [upd_ne lhp, upd_ne lhp]
     exact s67 _ _ el5
   · have o8 := ((o5.mono s67).keep (keeps_upd (p := p) (o := .ins C_History dx (putF "lists" (.ref le) (putF "labels" (.ref ll) (putF "houses" (.ref lh) []))))) (nt (o := .tup []) (s67 _ _ e5)) rp).keep (keeps_upd (p := p) (o := .ins C_History dx (putF "now" (.int 0) (putF "lists" (.ref le) (putF "labels" (.ref ll) (putF "houses" (.ref lh) [])))))) (nt (o := .tup []) upd_same) rp
     exact .cons o8.T .nil
   · rw [upd_ne llp, upd_ne llp]
     exact s67 _ _ eb5
   · rw [upd_ne lep, upd_ne lep]
     exact upd_same
   · refine .cons l0H ?_ .nil .nil
     rw [upd_ne l0p, upd_ne l0p]
     exact s7 _ _ upd_same
  case len =>
   obtain ⟨N, p, dx, a, h, rfl, _⟩ := h
   rfl

/-- History.check_version(self, version) -/
def spCV (C CS : Addr) (K : PySem.W.Frag) : Sp := fun vs H Q E => ∃ (N : Addr → Prop) (p : Addr) (v : Int) (vl : List Ver) (now : Nat), vs = [.ref p, .int v] ∧ HiAt C K N H p vl now ∧ ((0 ≤ v ∧ v < vl.length) → Q .non H) ∧ (¬ (0 ≤ v ∧ v < vl.length) → XSt CS v H E)
theorem sc_History_check_version : FnScope ["self", "version"] ["self", "version"] (defScope s_History_check_version) := ⟨rfl, rfl, rfl, by decide +kernel, rfl, by decide +kernel, by decide +kernel⟩
theorem d_History_check_version (B : Bt mg) (F : TopM K C_History "check_version" "History.check_version" s_History_check_version ["self", "version"]) (Kl_History : Kl K mg "History" C_History ["houses", "labels", "lists", "now"]) (X_Stale : Xc P w K mg base "Stale" ["version"] C_Stale) : Dm P w K mg base C_History "check_version" ["self", "version"] 3 (spCV C_History C_Stale K) := by
  refine F.dm sc_History_check_version (fun vs H Q E h => ?len) (fun f cdv A outer s H vs Q E hr h => ?body)
  case body =>
   have hu := hr.units
   refine ⟨_, (pss_one (ps_if (pt_not (pt_chain op_le op_lt pe_int (pv 1) (pe_callB (k_len (K := K) rfl) (by rfl) B.b_len (by decide +kernel) (pa_cons (k_fld (K := K) rfl (pv 0) rfl) pa_nil))))
      (pss_one (ps_rz rfl X_Stale (hr.mono (by decide)) (takes_of rfl rfl rfl rfl) (pa_cons (pv 1) pa_nil)))
      pss_nil)), ?_⟩
   obtain ⟨N, p, v, vl, now, rfl, hh, h1, h2⟩ := h
   obtain ⟨dx, lh, ll, le, xh, xe, e1, n1, n2, n3, eh, th, eb, el, te⟩ := hh.ex
   have xl : xh.length = vl.length := by rw [th.length]; exact List.length_map _
   walk_at "g"
   refine q_dec (fun c => ?_) (fun c => ?_)
   · walk_at "g"
     refine q_fldE Kl_History e1 (by simp) hfs_h ?_
     walk_at "g"
     refine q_lenL (.inl (.inl eh)) ?_
     walk_at "g"
     rw [xl]
     refine q_ndec (fun c2 => ?_) (fun c2 => ?_)
     · walk_at "g"
       exact q_mk rfl fun d H' s _ hd => h2 (fun z => c2 z.2) d H' s hd
     · walk_at "g"
       exact h1 ⟨c, c2⟩
   · walk_at "g"
     exact q_mk rfl fun d H' s _ hd => h2 (fun z => c z.1) d H' s hd
  case len =>
   obtain ⟨N, p, v, vl, now, rfl, _⟩ := h
   rfl
/-- History.count(self) -/
def spHn (C : Addr) (K : PySem.W.Frag) : Sp := fun vs H Q _ => ∃ (N : Addr → Prop) (p : Addr) (vl : List Ver) (now : Nat), vs = [.ref p] ∧ HiAt C K N H p vl now ∧ Q (.int vl.length) H
theorem sc_History_count : FnScope ["self"] ["self"] (defScope s_History_count) := ⟨rfl, rfl, rfl, by decide +kernel, rfl, by decide +kernel, by decide +kernel⟩
theorem d_History_count (B : Bt mg) (F : TopM K C_History "count" "History.count" s_History_count ["self"]) (Kl_History : Kl K mg "History" C_History ["houses", "labels", "lists", "now"]) : Dm P w K mg base C_History "count" ["self"] 1 (spHn C_History K) := by
  refine F.dm sc_History_count (fun vs H Q E h => ?len) (fun f cdv A outer s H vs Q E hr h => ?body)
  case body =>
   have hu := hr.units
   refine ⟨_, (pss_one (ps_ret (pe_callB (k_len (K := K) rfl) (by rfl) B.b_len (by decide +kernel) (pa_cons (k_fld (K := K) rfl (pv 0) rfl) pa_nil)))), ?_⟩
   obtain ⟨N, p, vl, now, rfl, hh, hq⟩ := h
   obtain ⟨dx, lh, ll, le, xh, xe, e1, n1, n2, n3, eh, th, eb, el, te⟩ := hh.ex
   have xl : xh.length = vl.length := by rw [th.length]; exact List.length_map _
   walk_at "g"
   refine q_fldE Kl_History e1 (by simp) hfs_h ?_
   walk_at "g"
   refine q_lenL (.inl (.inl eh)) ?_
   rw [xl]
   exact hq
  case len =>
   obtain ⟨N, p, vl, now, rfl, _⟩ := h
   rfl
/-- History.house_at(self, version) -/
def spHA (C CS : Addr) (K : PySem.W.Frag) : Sp := fun vs H Q E => ∃ (N : Addr → Prop) (p : Addr) (v : Int) (vl : List Ver) (now : Nat), vs = [.ref p, .int v] ∧ HiAt C K N H p vl now ∧ (∀ u ∈ vl, VOk u) ∧
  (∀ i u, v = (i : Nat) → vl[i]? = some u → ∀ r H', Same H H' → Own K (fun b => H b = none) H' r (cpH u.h) → Q (.ref r) H') ∧ (¬ (0 ≤ v ∧ v < vl.length) → XSt CS v H E)
theorem sc_History_house_at : FnScope ["self", "version"] ["self", "version"] (defScope s_History_house_at) := ⟨rfl, rfl, rfl, by decide +kernel, rfl, by decide +kernel, by decide +kernel⟩
theorem d_History_house_at (B : Bt mg) (F : TopM K C_History "house_at" "History.house_at" s_History_house_at ["self", "version"]) (Kl_History : Kl K mg "History" C_History ["houses", "labels", "lists", "now"]) (D_copy_house : Df P w K mg base "copy_house" ["house"] 1 (spCH K)) (D_History_check_version : Dm P w K mg base C_History "check_version" ["self", "version"] 3 (spCV C_History C_Stale K)) : Dm P w K mg base C_History "house_at" ["self", "version"] 4 (spHA C_History C_Stale K) := by
  refine F.dm sc_History_house_at (fun vs H Q E h => ?len) (fun f cdv A outer s H vs Q E hr h => ?body)
  case body =>
   have hu := hr.units
   refine ⟨_, (pss_cons (ps_expr (pe_dm (pv 0) Kl_History D_History_check_version (hr.mono (by decide)) (fun σ => passAt (takes_of rfl rfl rfl rfl) σ) (pa_cons (pv 1) pa_nil)))
      (pss_one (ps_ret (pe_df D_copy_house (hr.mono (by decide)) (fun σ => passAt (takes_of rfl rfl rfl rfl) σ) (pa_cons (pe_ix (k_ix (K := K) rfl hu) (k_fld (K := K) rfl (pv 0) rfl) (pv 1) (fun _ _ => rfl)) pa_nil))))), ?_⟩
   obtain ⟨N, p, v, vl, now, rfl, hh, ok, h1, h2⟩ := h
   obtain ⟨dx, lh, ll, le, xh, xe, e1, n1, n2, n3, eh, th, eb, el, te⟩ := hh.ex
   walk_at "g"
   refine ⟨p, dx, _, rfl, e1, hfs_no (by decide +kernel), ?_⟩
   walk_at "g"
   refine ⟨N, p, v, vl, now, rfl, hh, fun hv => ?_, fun hv => h2 hv⟩
   obtain ⟨i, rfl⟩ : ∃ i : Nat, v = i := ⟨v.toNat, by omega⟩
   have hi : i < vl.length := by omega
   have eu := List.getElem?_eq_getElem hi
   obtain ⟨x, ex, tx⟩ := th.get' (i := i) (d := .dic (hK vl[i].h)) (by unfold vH; rw [List.getElem?_map, eu]; rfl)
   have vk := ok _ (List.getElem_mem hi)
   walk_at "g"
   refine q_fldE Kl_History e1 (by simp) hfs_h ?_
   walk_at "g"
   refine q_ixL (.inl (.inl eh)) (atI_nat ex) ?_
   walk_at "g"
   obtain ⟨a, kvs, rfl, _⟩ := tx.dicAt
   refine ⟨N, a, _, rfl, tx, vk.wf, fun q hq => Nat.le_trans (vk.fit q hq) (by decide), Nat.le_trans vk.len (by decide), fun r H' s o => h1 i _ rfl eu r H' s o⟩
  case len =>
   obtain ⟨N, p, v, vl, now, rfl, _⟩ := h
   rfl
/-- History.undo(self), where there is something to undo -/
def spHU (C : Addr) (K : PySem.W.Frag) : Sp := fun vs H Q _ => ∃ (N : Addr → Prop) (p : Addr) (vl : List Ver) (m : Nat), vs = [.ref p] ∧ HiAt C K N H p vl (m + 1) ∧ (∀ z, N z → z ≠ p) ∧ ∀ H', Kp p H H' → HiAt C K N H' p vl m → Q (.int m) H'
theorem sc_History_undo : FnScope ["self"] ["self"] (defScope s_History_undo) := ⟨rfl, rfl, rfl, by decide +kernel, rfl, by decide +kernel, by decide +kernel⟩
theorem d_History_undo (B : Bt mg) (F : TopM K C_History "undo" "History.undo" s_History_undo ["self"]) (Kl_History : Kl K mg "History" C_History ["houses", "labels", "lists", "now"]) : Dm P w K mg base C_History "undo" ["self"] 1 (spHU C_History K) := by
  refine F.dm sc_History_undo (fun vs H Q E h => ?len) (fun f cdv A outer s H vs Q E hr h => ?body)
  case body =>
   have hu := hr.units
   refine ⟨_, (pss_cons (ps_if (pt_cmpR (k_eq (K := K) rfl hu) (k_fld (K := K) rfl (pv 0) rfl) pe_int (nomark _))
      (pss_one TU.ps_never)
      pss_nil)
      (pss_cons (k_sfld (K := K) rfl (pv 0) (pe_op op_sub (k_fld (K := K) rfl (pv 0) rfl) pe_int) rfl)
      (pss_one (ps_ret (k_fld (K := K) rfl (pv 0) rfl))))), ?_⟩
   obtain ⟨N, p, vl, m, rfl, hh, hN, hq⟩ := h
   have hh0 := hh
   obtain ⟨dx, lh, ll, le, xh, xe, e1, n1, n2, n3, eh, th, eb, el, te⟩ := hh.ex
   walk_at "g"
   refine q_fldE Kl_History e1 (by simp) hfs_n ?_
   walk_at "g"
   refine q_dec (fun c => absurd c (by omega)) (fun c => ?_)
   walk_at "g"
   refine q_fldE Kl_History e1 (by simp) hfs_n ?_
   walk_at "g"
   refine q_sfldE Kl_History e1 (by simp) (show 4 < 1000 by decide) ?_
   walk_at "g"
   refine q_fldE Kl_History upd_same (by simp) (by rw [hfs_sn]; exact hfs_n) ?_
   rw [show ((m + 1 : Nat) : Int) - 1 = (m : Int) by omega]
   have nt : ∀ z xs, z = p → ¬ Rd H z (.tup xs) := nt_of e1 (fun _ z => nomatch z) fun _ _ z => nomatch z
   have lt := hh0.lt
   refine hq _ Kp.upd ⟨⟨dx, lh, ll, le, xh, xe, by rw [upd_same, hfs_sn], n1, n2, n3, ?_, th.keep keeps_upd nt fun z n => ⟨n, hN z n⟩, ?_, ?_, te.keep keeps_upd nt fun z n => ⟨n, hN z n⟩⟩, by omega, hh0.few⟩
   · rw [upd_ne (hN _ n1)]
     exact eh
   · rw [upd_ne (hN _ n2)]
     exact eb
   · rw [upd_ne (hN _ n3)]
     exact el
  case len =>
   obtain ⟨N, p, vl, m, rfl, _⟩ := h
   rfl
/-- History.commit(self, edits, label) -/
def spHC (C CU CT : Addr) (K : PySem.W.Frag) : Sp := fun vs H Q E => ∃ (N : Addr → Prop) (p b : Addr) (lb : Str) (vl : List Ver) (now : Nat) (u : Ver) (xs : List V) (es : List Ed), vs = [.ref p, .ref b, .str lb] ∧ HiAt C K N H p vl now ∧ (∀ z, N z → z ≠ p) ∧ vl[now]? = some u ∧ VOk u ∧
  H b = some (.lst xs) ∧ Ts K H ff xs (es.map Ed.tr) ∧ (∀ e ∈ es, e.Imm) ∧ es.length ≤ 30 ∧
  (now + 2 ≤ 401 → match appAll (cpH u.h) es with
    | .ok f => ∀ H', Kp p H H' → HiAt C K (fun z => N z ∨ H z = none) H' p (vl.take (now + 1) ++ [⟨cpH f, lb, es⟩]) (now + 1) → Q (.int (now + 1 : Nat)) H'
    | .error (w, n) => XUnk CU w n H E) ∧ (¬ now + 2 ≤ 401 → XTm CT H E)
theorem sc_History_commit : FnScope ["self", "edits", "label", "house", "behind"] ["self", "edits", "label"] (defScope s_History_commit) := ⟨rfl, rfl, rfl, by decide +kernel, rfl, by decide +kernel, by decide +kernel⟩
theorem d_History_commit (B : Bt mg) (F : TopM K C_History "commit" "History.commit" s_History_commit ["self", "edits", "label"]) (G_MOST_VERSIONS : ∃ t, mg "MOST_VERSIONS" = some (.int 401 t)) (Kl_History : Kl K mg "History" C_History ["houses", "labels", "lists", "now"]) (X_TooMany : Xc P w K mg base "TooMany" ["what", "limit"] C_TooMany) (D_apply_edits : Df P w K mg base "apply_edits" ["house", "edits"] 6 (spAE K C_Unknown)) : Dm P w K mg base C_History "commit" ["self", "edits", "label"] 7 (spHC C_History C_Unknown C_TooMany K) := by
  refine F.dm sc_History_commit (fun vs H Q E h => ?len) (fun f cdv A outer s H vs Q E hr h => ?body)
  case body =>
   have hu := hr.units
   refine ⟨_, (pss_cons (ps_if (pt_cmpR op_gt (pe_op (k_add (K := K) rfl) (k_fld (K := K) rfl (pv 0) rfl) pe_int) (pe_glob (v := .int 401) (by rfl) G_MOST_VERSIONS.choose_spec ⟨_, rfl⟩) (nomark _))
      (pss_one (ps_rz rfl X_TooMany (hr.mono (by decide)) (takes_of rfl rfl rfl rfl) (pa_cons pe_str (pa_cons (pe_glob (v := .int 401) (by rfl) G_MOST_VERSIONS.choose_spec ⟨_, rfl⟩) pa_nil))))
      pss_nil)
      (pss_cons (ps_set (i := 3) sc_History_commit.nd rfl (Or.inl rfl) (pe_df D_apply_edits (hr.mono (by decide)) (fun σ => passAt (takes_of rfl rfl rfl rfl) σ) (pa_cons (pe_ix (k_ix (K := K) rfl hu) (k_fld (K := K) rfl (pv 0) rfl) (k_fld (K := K) rfl (pv 0) rfl) (fun _ _ => rfl)) (pa_cons (pv 1) pa_nil))))
      (pss_cons (ps_set (i := 4) sc_History_commit.nd rfl (Or.inl rfl) (pe_op (k_add (K := K) rfl) (k_fld (K := K) rfl (pv 0) rfl) pe_int))
      (pss_cons (k_sfld (K := K) rfl (pv 0) (pe_op (k_add (K := K) rfl) (pe_slice (k_sl (K := K) rfl) (k_fld (K := K) rfl (pv 0) rfl) po_none (po_some (pv 4))) (pe_lst (pa_cons (pv 3) pa_nil))) rfl)
      (pss_cons (k_sfld (K := K) rfl (pv 0) (pe_op (k_add (K := K) rfl) (pe_slice (k_sl (K := K) rfl) (k_fld (K := K) rfl (pv 0) rfl) po_none (po_some (pv 4))) (pe_lst (pa_cons (pv 2) pa_nil))) rfl)
      (pss_cons (k_sfld (K := K) rfl (pv 0) (pe_op (k_add (K := K) rfl) (pe_slice (k_sl (K := K) rfl) (k_fld (K := K) rfl (pv 0) rfl) po_none (po_some (pv 4))) (pe_lst (pa_cons (pe_callTy (k_list (K := K) rfl rfl) (by rfl) B.b_list (by decide +kernel) (pa_cons (pv 1) pa_nil)) pa_nil))) rfl)
      (pss_cons (k_sfld (K := K) rfl (pv 0) (pv 4) rfl)
      (pss_one (ps_ret (pv 4)))))))))), ?_⟩
   obtain ⟨N, p, b, lb, vl, now, u, xs, es, rfl, hh, hN, eu, vk, hs, ts, im, el30, h1, h2⟩ := h
   have hh0 := hh
   obtain ⟨dx, lh, ll, le, xh, xe, e1, n1, n2, n3, eh, th, eb, el, te⟩ := hh.ex
   have lt := hh0.lt
   have few := hh0.few
   have xl : xh.length = vl.length := by rw [th.length]; exact List.length_map _
   have xel : xe.length = vl.length := by rw [te.len]; exact List.length_map _
   walk_at "g"
   refine q_fldE Kl_History e1 (by simp) hfs_n ?_
   walk_at "g"
   refine q_dec (fun c => ?_) (fun c => ?_)
   · walk_at "g"
     exact q_mk rfl fun d H' s _ hd => h2 (by omega) d H' s hd
   · have h3 := h1 (by omega)
     walk_at "g"
     refine q_fldE Kl_History e1 (by simp) hfs_h ?_
     walk_at "g"
     refine q_fldE Kl_History e1 (by simp) hfs_n ?_
     obtain ⟨x, ex, tx⟩ := th.get' (i := now) (d := .dic (hK u.h)) (by unfold vH; rw [List.getElem?_map, eu]; rfl)
     refine q_ixL (.inl (.inl eh)) (atI_nat ex) ?_
     walk_at "g"
     obtain ⟨a, kvs, rfl, _⟩ := tx.dicAt
     refine ⟨N, a, b, u.h, xs, es, rfl, tx, .inl (.inl hs), ts, vk.wf, im, ⟨20, vk.fit, by omega⟩, Nat.le_trans vk.len (by decide), ?_⟩
     cases q : appAll (cpH u.h) es with
     | error x => 
       rw [q] at h3
       exact h3
     | ok f =>
       rw [q] at h3
       intro r H1 s1 o1
       have p1 := s1 _ _ e1
       walk_at "g"
       refine q_fldE Kl_History p1 (by simp) hfs_n ?_
       walk_at "g"
       refine q_fldE Kl_History p1 (by simp) hfs_h ?_
       walk_at "g"
       rw [show (now : Int) + 1 = ((now + 1 : Nat) : Int) by omega]
       refine q_slL (.inl (.inl (s1 _ _ eh))) fun l1 hl1 => ?_
       rw [cutV_to (by omega)]
       have s2 := same_new (o := .lst (xh.take (now + 1))) hl1
       walk_at "g"
       intro l2 hl2
       have s3 := same_new (o := .lst [.ref r]) hl2
       refine q_addL (s3 _ _ upd_same) upd_same ?_ fun lh' hlh' => ?_
       · rw [List.length_take]
         show _ + 1 ≤ _
         exact Nat.le_of_lt (len_small (by omega))
       have s4 := same_new (o := .lst (xh.take (now + 1) ++ [.ref r])) hlh'
       have s14 := s1.trans ((s2.trans s3).trans s4)
       have o4 := o1.mono ((s2.trans s3).trans s4)
       have kp4 : Kp p H (upd (upd (upd H1 l1 (.lst (xh.take (now + 1)))) l2 (.lst [.ref r])) lh' (.lst (xh.take (now + 1) ++ [.ref r]))) := Kp.of s14
       have p4 := s14 _ _ e1
       have eh4 : (upd (upd (upd H1 l1 (.lst (xh.take (now + 1)))) l2 (.lst [.ref r])) lh' (.lst (xh.take (now + 1) ++ [.ref r]))) lh' = some (.lst (xh.take (now + 1) ++ [.ref r])) := upd_same
       have lhH : H lh' = none := s1.free ((s2.trans s3).free hlh')
       have rp : ∀ z, H z = none → z ≠ p := fun z e c => by
         rw [c, e1] at e
         cases e
       generalize upd (upd (upd H1 l1 (.lst (xh.take (now + 1)))) l2 (.lst [.ref r])) lh' (.lst (xh.take (now + 1) ++ [.ref r])) = G4 at o4 kp4 p4 eh4
       clear s14 s4 s3 s2 hlh' hl2 hl1 p1 o1 s1
       have ntp : ∀ {Hx : Hp} {fs : List (Str × V)}, Hx p = some (.ins C_History dx fs) → ∀ z xs, z = p → ¬ Rd Hx z (.tup xs) := fun e => nt_of e (fun _ z => nomatch z) fun _ _ z => nomatch z
       walk_at "g"
       refine q_sfldE Kl_History p4 (by simp) (show 4 < 1000 by decide) ?_
       rw [hfs_sh]
       have o5 := o4.keep (keeps_upd (p := p) (o := .ins C_History dx (hfs (.ref lh') (.ref ll) (.ref le) (.int now)))) (ntp p4) rp
       have kp5 : Kp p H (upd G4 p (.ins C_History dx (hfs (.ref lh') (.ref ll) (.ref le) (.int now)))) := kp4.trans Kp.upd
       have p5 : (upd G4 p (.ins C_History dx (hfs (.ref lh') (.ref ll) (.ref le) (.int now)))) p = some (.ins C_History dx (hfs (.ref lh') (.ref ll) (.ref le) (.int now))) := upd_same
       have eh5 : (upd G4 p (.ins C_History dx (hfs (.ref lh') (.ref ll) (.ref le) (.int now)))) lh' = some (.lst (xh.take (now + 1) ++ [.ref r])) := by rw [upd_ne (rp _ lhH)]; exact eh4
       generalize upd G4 p (.ins C_History dx (hfs (.ref lh') (.ref ll) (.ref le) (.int now))) = G5 at o5 kp5 p5 eh5
       clear o4 kp4 p4 eh4
       -- labels
       walk_at "g"
       refine q_fldE Kl_History p5 (by simp) hfs_b ?_
       walk_at "g"
       refine q_slL (.inl (.inl (kp5 _ _ (hN _ n2) eb))) fun l3 hl3 => ?_
       rw [cutV_to (by unfold vB; rw [List.length_map]; omega)]
       have s6 := same_new (o := .lst ((vB vl).take (now + 1))) hl3
       walk_at "g"
       intro l4 hl4
       have s7 := same_new (o := .lst [.str lb]) hl4
       refine q_addL (s7 _ _ upd_same) upd_same ?_ fun ll' hll' => ?_
       · rw [List.length_take]
         show _ + 1 ≤ _
         exact Nat.le_of_lt (len_small (by omega))
       have s8 := same_new (o := .lst ((vB vl).take (now + 1) ++ [.str lb])) hll'
       have s58 := (s6.trans s7).trans s8
       have o8 := o5.mono s58
       have kp8 : Kp p H (upd (upd (upd G5 l3 (.lst ((vB vl).take (now + 1)))) l4 (.lst [.str lb])) ll' (.lst ((vB vl).take (now + 1) ++ [.str lb]))) := kp5.trans (Kp.of s58)
       have p8 := s58 _ _ p5
       have eh8 := s58 _ _ eh5
       have eb8 : (upd (upd (upd G5 l3 (.lst ((vB vl).take (now + 1)))) l4 (.lst [.str lb])) ll' (.lst ((vB vl).take (now + 1) ++ [.str lb]))) ll' = some (.lst ((vB vl).take (now + 1) ++ [.str lb])) := upd_same
       have llH : H ll' = none := kp5.fresh p5 ((s6.trans s7).free hll')
       generalize upd (upd (upd G5 l3 (.lst ((vB vl).take (now + 1)))) l4 (.lst [.str lb])) ll' (.lst ((vB vl).take (now + 1) ++ [.str lb])) = G8 at o8 kp8 p8 eh8 eb8
       clear s58 s8 s7 s6 hll' hl4 hl3 o5 kp5 p5 eh5
       walk_at "g"
       refine q_sfldE Kl_History p8 (by simp) (show 4 < 1000 by decide) ?_
       rw [hfs_sb]
       have o9 := o8.keep (keeps_upd (p := p) (o := .ins C_History dx (hfs (.ref lh') (.ref ll') (.ref le) (.int now)))) (ntp p8) rp
       have kp9 : Kp p H (upd G8 p (.ins C_History dx (hfs (.ref lh') (.ref ll') (.ref le) (.int now)))) := kp8.trans Kp.upd
       have p9 : (upd G8 p (.ins C_History dx (hfs (.ref lh') (.ref ll') (.ref le) (.int now)))) p = some (.ins C_History dx (hfs (.ref lh') (.ref ll') (.ref le) (.int now))) := upd_same
       have eh9 : (upd G8 p (.ins C_History dx (hfs (.ref lh') (.ref ll') (.ref le) (.int now)))) lh' = some (.lst (xh.take (now + 1) ++ [.ref r])) := by rw [upd_ne (rp _ lhH)]; exact eh8
       have eb9 : (upd G8 p (.ins C_History dx (hfs (.ref lh') (.ref ll') (.ref le) (.int now)))) ll' = some (.lst ((vB vl).take (now + 1) ++ [.str lb])) := by rw [upd_ne (rp _ llH)]; exact eb8
       generalize upd G8 p (.ins C_History dx (hfs (.ref lh') (.ref ll') (.ref le) (.int now))) = G9 at o9 kp9 p9 eh9 eb9
       clear o8 kp8 p8 eh8 eb8
       -- lists
       walk_at "g"
       refine q_fldE Kl_History p9 (by simp) hfs_l ?_
       walk_at "g"
       refine q_slL (.inl (.inl (kp9 _ _ (hN _ n3) el))) fun l5 hl5 => ?_
       rw [cutV_to (by omega)]
       have s10 := same_new (o := .lst (xe.take (now + 1))) hl5
       walk_at "g"
       have bp : b ≠ p := ne_of hs e1 fun z => nomatch z
       have hs10 := s10 _ _ (kp9 _ _ bp hs)
       refine q_listL (.inl (.inl hs10)) fun l6 hl6 => ?_
       have s11 := same_new (o := .lst xs) hl6
       have l6H : H l6 = none := kp9.fresh p9 (s10.free hl6)
       walk_at "g"
       intro l7 hl7
       have s12 := same_new (o := .lst [.ref l6]) hl7
       refine q_addL (s12 _ _ (s11 _ _ upd_same)) upd_same ?_ fun le' hle' => ?_
       · rw [List.length_take]
         show _ + 1 ≤ _
         exact Nat.le_of_lt (len_small (by omega))
       have s13 := same_new (o := .lst (xe.take (now + 1) ++ [.ref l6])) hle'
       have s9e := ((s10.trans s11).trans s12).trans s13
       have leH : H le' = none := kp9.fresh p9 (((s10.trans s11).trans s12).free hle')
       walk_at "g"
       refine q_sfldE Kl_History (s9e _ _ p9) (by simp) (show 4 < 1000 by decide) ?_
       rw [hfs_sl]
       walk_at "g"
       refine q_sfldE Kl_History upd_same (by simp) (show 4 < 1000 by decide) ?_
       rw [hfs_sn]
       walk_at "g"
       have kpe := (kp9.trans (Kp.of s9e)).trans ((Kp.upd (a := p) (o := .ins C_History dx (hfs (.ref lh') (.ref ll') (.ref le') (.int now)))).trans (Kp.upd (a := p) (o := .ins C_History dx (hfs (.ref lh') (.ref ll') (.ref le') (.int (now + 1 : Nat))))))
       have Np : ∀ z, N z → (N z ∨ H z = none) ∧ ¬ z = p := fun z n => ⟨.inl n, hN z n⟩
       have pts : ∀ {z : Addr} {o : HO}, z ≠ p → (upd (upd (upd (upd G9 l5 (.lst (xe.take (now + 1)))) l6 (.lst xs)) l7 (.lst [.ref l6])) le' (.lst (xe.take (now + 1) ++ [.ref l6]))) z = some o → (upd (upd (upd (upd (upd (upd G9 l5 (.lst (xe.take (now + 1)))) l6 (.lst xs)) l7 (.lst [.ref l6])) le' (.lst (xe.take (now + 1) ++ [.ref l6]))) p (.ins C_History dx (hfs (.ref lh') (.ref ll') (.ref le') (.int now)))) p (.ins C_History dx (hfs (.ref lh') (.ref ll') (.ref le') (.int (now + 1 : Nat))))) z = some o := fun n e => by
         rw [upd_ne n, upd_ne n]
         exact e
       refine h3 _ kpe ⟨⟨dx, lh', ll', le', xh.take (now + 1) ++ [.ref r], xe.take (now + 1) ++ [.ref l6], upd_same, .inr lhH, .inr llH, .inr leH, pts (rp _ lhH) (s9e _ _ eh9), ?_, ?_, pts (rp _ leH) upd_same, ?_⟩, ?_, ?_⟩
       · have e0 : vH (vl.take (now + 1) ++ [⟨cpH f, lb, es⟩]) = (vH vl).take (now + 1) ++ [.dic (hK (cpH f))] := by
           unfold vH
           rw [List.map_append, List.map_take]
           rfl
         rw [e0]
         have o10 := ((o9.mono s9e).keep (keeps_upd (p := p) (o := .ins C_History dx (hfs (.ref lh') (.ref ll') (.ref le') (.int now)))) (ntp (s9e _ _ p9)) rp).keep (keeps_upd (p := p) (o := .ins C_History dx (hfs (.ref lh') (.ref ll') (.ref le') (.int (now + 1 : Nat))))) (ntp upd_same) rp
         exact ((th.take (now + 1)).keep kpe (ntp e1) Np).append (.cons (o10.T.imp fun z e => .inr e) .nil)
       · have e0 : vB (vl.take (now + 1) ++ [⟨cpH f, lb, es⟩]) = (vB vl).take (now + 1) ++ [.str lb] := by
           unfold vB
           rw [List.map_append, List.map_take]
           rfl
         rw [e0]
         exact pts (rp _ llH) (s9e _ _ eb9)
       · have e0 : vL (vl.take (now + 1) ++ [⟨cpH f, lb, es⟩]) = (vL vl).take (now + 1) ++ [es] := by
           unfold vL
           rw [List.map_append, List.map_take]
           rfl
         rw [e0]
         refine ((te.take (now + 1)).keep kpe (ntp e1) Np).append (.cons (.inr l6H) (pts (rp _ l6H) ((s12.trans s13) _ _ upd_same)) ?_ .nil)
         exact ts.keep kpe (ntp e1) fun z c => c.elim
       · rw [List.length_append, List.length_take]
         show _ < _ + 1
         omega
       · rw [List.length_append, List.length_take]
         show _ + 1 ≤ _
         omega
  case len =>
   obtain ⟨N, p, b, lb, vl, now, u, xs, es, rfl, _⟩ := h
   rfl

theorem invs_len : ∀ (es : List Ed) (h : Hs), (invs h es).length ≤ es.length
  | [], h => Nat.le_refl _
  | e :: es, h => by
    unfold invs
    cases q : app1 h e with
    | error x => exact Nat.succ_le_succ (Nat.zero_le _)
    | ok h' => exact Nat.succ_le_succ (invs_len es h')
/-- History.way_of(self, first, last) -/
def spWO (C CS : Addr) (K : PySem.W.Frag) : Sp := fun vs H Q E => ∃ (N : Addr → Prop) (p : Addr) (i j : Int) (vl : List Ver) (now : Nat), vs = [.ref p, .int i, .int j] ∧ HiAt C K N H p vl now ∧ Chn vl ∧
  (∀ a b : Nat, i = a → j = b → a < vl.length → b < vl.length → ∀ l H' xs, Same H H' → H l = none → H' l = some (.lst xs) → Ts K H' ff xs ((wayE vl a b).map Ed.tr) → Q (.ref l) H') ∧
  (¬ (0 ≤ i ∧ i < vl.length) → XSt CS i H E) ∧ (0 ≤ i ∧ i < vl.length → ¬ (0 ≤ j ∧ j < vl.length) → XSt CS j H E)
theorem sc_History_way_of : FnScope ["self", "first", "last", "way", "version"] ["self", "first", "last"] (defScope s_History_way_of) := ⟨rfl, rfl, rfl, by decide +kernel, rfl, by decide +kernel, by decide +kernel⟩
theorem d_History_way_of (B : Bt mg) (F : TopM K C_History "way_of" "History.way_of" s_History_way_of ["self", "first", "last"]) (Kl_History : Kl K mg "History" C_History ["houses", "labels", "lists", "now"]) (D_inverse_of : Df P w K mg base "inverse_of" ["house", "edits"] 6 (spIO K C_Unknown)) (D_History_check_version : Dm P w K mg base C_History "check_version" ["self", "version"] 3 (spCV C_History C_Stale K)) : Dm P w K mg base C_History "way_of" ["self", "first", "last"] 7 (spWO C_History C_Stale K) := by
  refine F.dm sc_History_way_of (fun vs H Q E h => ?len) (fun f cdv A outer s H vs Q E hr h => ?body)
  case body =>
   have hu := hr.units
   refine ⟨_, (pss_cons (ps_expr (pe_dm (pv 0) Kl_History D_History_check_version (hr.mono (by decide)) (fun σ => passAt (takes_of rfl rfl rfl rfl) σ) (pa_cons (pv 1) pa_nil)))
      (pss_cons (ps_expr (pe_dm (pv 0) Kl_History D_History_check_version (hr.mono (by decide)) (fun σ => passAt (takes_of rfl rfl rfl rfl) σ) (pa_cons (pv 2) pa_nil)))
      (pss_cons (ps_set (i := 3) sc_History_way_of.nd rfl (Or.inl rfl) (pe_lst pa_nil))
      (pss_cons (ps_for (passes_of rfl) rfl (pi_range2 (by rfl) B.b_range (pa_cons (pe_op (k_add (K := K) rfl) (pv 1) pe_int) (pa_cons (pe_op (k_add (K := K) rfl) (pv 2) pe_int) pa_nil))) (pg_name (i := 4) sc_History_way_of.nd rfl (Or.inl rfl))
      (pss_one (ps_expr (k_extend (K := K) rfl (pv 3) (pa_cons (pe_ix (k_ix (K := K) rfl hu) (k_fld (K := K) rfl (pv 0) rfl) (pv 4) (fun _ _ => rfl)) pa_nil)))))
      (pss_cons (ps_for (passes_of rfl) rfl (pi_range3 (by rfl) B.b_range (pa_cons (pv 1) (pa_cons (pv 2) (pa_cons (pe_un un_neg pe_int) pa_nil)))) (pg_name (i := 4) sc_History_way_of.nd rfl (Or.inl rfl))
      (pss_one (ps_expr (k_extend (K := K) rfl (pv 3) (pa_cons (pe_df D_inverse_of (hr.mono (by decide)) (fun σ => passAt (takes_of rfl rfl rfl rfl) σ) (pa_cons (pe_ix (k_ix (K := K) rfl hu) (k_fld (K := K) rfl (pv 0) rfl) (pe_op op_sub (pv 4) pe_int) (fun _ _ => rfl)) (pa_cons (pe_ix (k_ix (K := K) rfl hu) (k_fld (K := K) rfl (pv 0) rfl) (pv 4) (fun _ _ => rfl)) pa_nil))) pa_nil)))))
      (pss_one (ps_ret (pv 3)))))))), ?_⟩
   obtain ⟨N, p, i, j, vl, now, rfl, hh, ch, h1, h2, h3⟩ := h
   obtain ⟨dx, lh, ll, le, xh, xe, e1, n1, n2, n3, eh, th, eb, el, te⟩ := hh.ex
   have few := hh.few
   walk_at "g"
   refine ⟨p, dx, _, rfl, e1, hfs_no (by decide +kernel), ?_⟩
   walk_at "g"
   refine ⟨N, p, i, vl, now, rfl, hh, fun hi => ?_, fun hi => h2 hi⟩
   walk_at "g"
   refine ⟨p, dx, _, rfl, e1, hfs_no (by decide +kernel), ?_⟩
   walk_at "g"
   refine ⟨N, p, j, vl, now, rfl, hh, fun hj => ?_, fun hj => h3 hi hj⟩
   obtain ⟨a, rfl⟩ : ∃ a : Nat, i = a := ⟨i.toNat, by omega⟩
   obtain ⟨b, rfl⟩ : ∃ b : Nat, j = b := ⟨j.toNat, by omega⟩
   have hq := h1 a b rfl rfl (by omega) (by omega)
   have vAtk : ∀ k, k < vl.length → vl[k]? = some (vAt vl k) := fun k hk => by
     rw [vAt_of (List.getElem?_eq_getElem hk)]
     exact List.getElem?_eq_getElem hk
   have vOk : ∀ k, k < vl.length → VOk (vAt vl k) := fun k hk => ch.1 _ (mem_at (vAtk k hk))
   clear h1 h2 h3
   walk_at "g"
   intro l hl
   have s1 := same_new (o := .lst []) hl
   have nl : ∀ {Hx : Hp} {o : HO}, Same H Hx → Same H (upd Hx l o) := fun s z u e => by
     rw [upd_ne (ne_of_none e hl)]
     exact s _ _ e
   walk_at "g"
   refine ⟨_, _, rfl, ⟨by omega, by omega, by omega, by omega⟩, ?_⟩
   have e9 : (((b : Int) + 1) - ((a : Int) + 1)).toNat = b - a := by omega
   rw [e9]
   refine for_rng (lo := (a : Int) + 1) (n := b - a) (fun k σ Hk => ∃ (v4 : Option V) (xs : List V), σ = [some (.ref p), some (.int a), some (.int b), some (.ref l), v4] ∧ Same H Hk ∧ Hk l = some (.lst xs) ∧ Ts K Hk ff xs ((wayF vl a k).map Ed.tr) ∧ xs.length ≤ 30 * k) ?_ ?_ ?_
   · exact ⟨none, [], rfl, s1, upd_same, .nil, Nat.le_refl _⟩
   · rintro k σ Hk hk ⟨v4, xs, rfl, sk, lk1, tk, ln⟩
     have hlt : a + 1 + k < vl.length := by omega
     obtain ⟨c, zs, g1, g2, g3, g4⟩ := te.at (i := a + 1 + k) (es := (vAt vl (a + 1 + k)).es) (by unfold vL; rw [List.getElem?_map, vAtk _ hlt]; rfl)
     have vk := vOk _ hlt
     walk_at "g"
     refine tyL lk1 ?_
     walk_at "g"
     refine q_fldE Kl_History (sk _ _ e1) (by simp) hfs_l ?_
     walk_at "g"
     rw [show ((a : Int) + 1 + (k : Nat)) = ((a + 1 + k : Nat) : Int) by omega]
     refine q_ixL (.inl (.inl (sk _ _ el))) (atI_nat g1) ?_
     walk_at "g"
     have zl : zs.length ≤ 30 := by rw [g4.length, List.length_map]; exact vk.few
     refine q_extend lk1 (sk _ _ g3) (Nat.le_of_lt (len_small (by omega))) ?_
     refine ⟨_, xs ++ zs, rfl, nl sk, upd_same, ?_, by rw [List.length_append]; omega⟩
     have e10 : wayF vl a (k + 1) = wayF vl a k ++ (vAt vl (a + 1 + k)).es := flat_succ _ _
     rw [e10, List.map_append]
     exact (tk.append (g4.mono sk)).upd lk1 (fun _ z => nomatch z) (fun _ _ z => nomatch z) fun _ z => z.elim
   · rintro σ Hk ⟨v4, xs, rfl, sk, lk1, tk, ln⟩
     walk_at "g"
     refine ⟨_, _, _, _, rfl, RgC.neg (by omega) (by omega) (by omega) (by omega), ?_⟩
     have e11 : ((a : Int) - (b : Int)).toNat = a - b := by omega
     rw [e11]
     refine for_rngC (lo := (a : Int)) (c := -1) (n := a - b) (fun k σ Hk => ∃ (v4 : Option V) (xs : List V), σ = [some (.ref p), some (.int a), some (.int b), some (.ref l), v4] ∧ Same H Hk ∧ Hk l = some (.lst xs) ∧ Ts K Hk ff xs ((wayF vl a (b - a) ++ wayB vl a k).map Ed.tr) ∧ xs.length ≤ 30 * (b - a) + 30 * k) ?_ ?_ ?_
     · refine ⟨v4, xs, rfl, sk, lk1, ?_, by omega⟩
       show Ts K Hk ff xs ((wayF vl a (b - a) ++ []).map Ed.tr)
       rw [List.append_nil]
       exact tk
     · rintro k σ Hm hk ⟨v4, xs, rfl, sm, lm1, tm, lm⟩
       have hlt : a - k < vl.length := by omega
       have hl1 : a - k - 1 < vl.length := by omega
       obtain ⟨c, zs, g1, g2, g3, g4⟩ := te.at (i := a - k) (es := (vAt vl (a - k)).es) (by unfold vL; rw [List.getElem?_map, vAtk _ hlt]; rfl)
       obtain ⟨x, y1, y2⟩ := th.get' (i := a - k - 1) (d := .dic (hK (vAt vl (a - k - 1)).h)) (by unfold vH; rw [List.getElem?_map, vAtk _ hl1]; rfl)
       have vk := vOk _ hlt
       have vk1 := vOk _ hl1
       obtain ⟨f, ap, _⟩ := ch.2 (a - k - 1) _ _ (vAtk _ hl1) (by rw [show a - k - 1 + 1 = a - k by omega]; exact vAtk _ hlt)
       obtain ⟨ax, kvs, rfl, _⟩ := y2.dicAt
       walk_at "g"
       refine tyL lm1 ?_
       walk_at "g"
       refine q_fldE Kl_History (sm _ _ e1) (by simp) hfs_h ?_
       walk_at "g"
       rw [show ((a : Int) + (k : Nat) * -1) - 1 = ((a - k - 1 : Nat) : Int) by omega]
       refine q_ixL (.inl (.inl (sm _ _ eh))) (atI_nat y1) ?_
       walk_at "g"
       refine q_fldE Kl_History (sm _ _ e1) (by simp) hfs_l ?_
       walk_at "g"
       rw [show ((a : Int) + (k : Nat) * -1) = ((a - k : Nat) : Int) by omega]
       refine q_ixL (.inl (.inl (sm _ _ el))) (atI_nat g1) ?_
       walk_at "g"
       refine ⟨N, ax, c, _, zs, _, rfl, y2.mono sm, .inl (.inl (sm _ _ g3)), g4.mono sm, vk1.wf, vk.imm, ⟨20, vk1.fit, by have := vk.few; omega⟩, Nat.le_trans vk1.len (by decide), ?_⟩
       rw [ap]
       intro r H2 ys s2 hr0 er ty
       walk_at "g"
       have yl : ys.length ≤ 30 := by
         rw [ty.length, List.length_map, List.length_reverse]
         exact Nat.le_trans (invs_len _ _) vk.few
       refine q_extend (s2 _ _ lm1) er (Nat.le_of_lt (len_small (by omega))) ?_
       refine ⟨_, xs ++ ys, rfl, nl (sm.trans s2), upd_same, ?_, by rw [List.length_append]; omega⟩
       have e12 : wayB vl a (k + 1) = wayB vl a k ++ (invs (cpH (vAt vl (a - k - 1)).h) (vAt vl (a - k)).es).reverse := flat_succ _ _
       rw [e12, ← List.append_assoc, List.map_append]
       exact ((tm.mono s2).append ty).upd (s2 _ _ lm1) (fun _ z => nomatch z) (fun _ _ z => nomatch z) fun _ z => z.elim
     · rintro σ Hm ⟨v4, xs, rfl, sm, lm1, tm, lm⟩
       walk_at "g"
       exact hq l Hm xs sm hl lm1 tm
  case len =>
   obtain ⟨N, p, i, j, vl, now, rfl, _⟩ := h
   rfl
/-- the houses from the first one on, by lists of edits -/
def Row (g : Hs) : List Hs → List (List Ed) → Prop
  | [], [] => True
  | h :: hs, es :: ess => (∃ f, appAll (cpH g) es = .ok f ∧ cpH f = h) ∧ VOk ⟨g, "", es⟩ ∧ Row h hs ess
  | _, _ => False
theorem Row.len : ∀ {g : Hs} {hs : List Hs} {ess : List (List Ed)}, Row g hs ess → hs.length = ess.length
  | _, [], [], _ => rfl
  | _, _ :: _, _ :: _, r => congrArg Nat.succ (Row.len r.2.2)
  | _, [], _ :: _, r => r.elim
  | _, _ :: _, [], r => r.elim
theorem Row.at : ∀ {g : Hs} {hs : List Hs} {ess : List (List Ed)} {i : Nat} {u : Hs} {es : List Ed}, Row g hs ess → (g :: hs)[i]? = some u → ess[i]? = some es → ∃ f v, hs[i]? = some v ∧ appAll (cpH u) es = .ok f ∧ cpH f = v ∧ VOk ⟨u, "", es⟩
  | _, [], [], _, _, _, _, _, e => by simp at e
  | g, h :: hs, es0 :: ess, 0, u, es, r, e1, e2 => by
    cases (show some g = some u from e1)
    cases (show some es0 = some es from e2)
    obtain ⟨⟨f, a, b⟩, c, _⟩ := r
    exact ⟨f, h, rfl, a, b, c⟩
  | g, h :: hs, es0 :: ess, i + 1, u, es, r, e1, e2 => by
    obtain ⟨f, v, h1, h2⟩ := Row.at (i := i) r.2.2 (by simpa using e1) (by simpa using e2)
    exact ⟨f, v, by simpa using h1, h2⟩
  | _, [], _ :: _, _, _, _, r, _, _ => r.elim
  | _, _ :: _, [], _, _, _, r, _, _ => r.elim
theorem Ts.last {H : Hp} {P : Addr → Prop} : ∀ {vs : List V} {ds : List Tr} {d : Tr}, Ts K H P vs (ds ++ [d]) → ∃ us v, vs = us ++ [v] ∧ T K H P v d
  | _, [], d, .cons a .nil => ⟨[], _, rfl, a⟩
  | _, x :: ds, d, .cons a b => by
    obtain ⟨us, v, e, h⟩ := Ts.last (ds := ds) b
    exact ⟨_ :: us, v, by rw [e]; rfl, h⟩
/-- replayed(house, lists) -/
def spRP (K : PySem.W.Frag) : Sp := fun vs H Q _ => ∃ (N N2 : Addr → Prop) (a b : Addr) (h : Hs) (xs : List V) (hs : List Hs) (ess : List (List Ed)), vs = [.ref a, .ref b] ∧ T K H N (.ref a) (.dic (hK h)) ∧ Wf h ∧ Fits 20 h ∧ h.length ≤ 40 ∧ H b = some (.lst xs) ∧ EL K N2 H xs ess ∧ Row (cpH h) hs ess ∧ ess.length ≤ 400 ∧
  ∀ l H' ys, Same H H' → H l = none → H' l = some (.lst ys) → Ts K H' (fun z => H z = none) ys ((cpH h :: hs).map fun g => Tr.dic (hK g)) → Q (.ref l) H'
theorem sc_replayed : FnScope ["house", "lists", "houses", "edits"] ["house", "lists"] (defScope s_replayed) := ⟨rfl, rfl, rfl, by decide +kernel, rfl, by decide +kernel, by decide +kernel⟩
theorem d_replayed (B : Bt mg) (F : TopF K mg "replayed" s_replayed ["house", "lists"]) (D_apply_edits : Df P w K mg base "apply_edits" ["house", "edits"] 6 (spAE K C_Unknown)) (D_copy_house : Df P w K mg base "copy_house" ["house"] 1 (spCH K)) : Df P w K mg base "replayed" ["house", "lists"] 7 (spRP K) := by
  refine F.df sc_replayed (fun vs H Q E h => ?len) (fun f cdv A outer s H vs Q E hr h => ?body)
  case body =>
   have hu := hr.units
   refine ⟨_, (pss_cons (ps_set (i := 2) sc_replayed.nd rfl (Or.inl rfl) (pe_lst (pa_cons (pe_df D_copy_house (hr.mono (by decide)) (fun σ => passAt (takes_of rfl rfl rfl rfl) σ) (pa_cons (pv 0) pa_nil)) pa_nil)))
      (pss_cons (ps_lockU (ps_for (passes_of rfl) rfl (k_walk (K := K) rfl (pv 1)) (pg_name (i := 3) sc_replayed.nd rfl (Or.inl rfl))
      (pss_one (ps_expr (k_append (K := K) rfl (pv 2) (pa_cons (pe_df D_apply_edits (hr.mono (by decide)) (fun σ => passAt (takes_of rfl rfl rfl rfl) σ) (pa_cons (pe_ix (k_ix (K := K) rfl hu) (pv 2) (pe_un un_neg pe_int) (fun _ _ => rfl)) (pa_cons (pv 3) pa_nil))) pa_nil))))))
      (pss_one (ps_ret (pv 2))))), ?_⟩
   obtain ⟨N, N2, a, b, h, xs, hs, ess, rfl, ha, wf, fit, hl40, hb, te, rw_, lim, hq⟩ := h
   walk_at "g"
   refine ⟨N, a, h, rfl, ha, wf, fun q hq => Nat.le_trans (fit q hq) (by decide), Nat.le_trans hl40 (by decide), fun r H1 s1 o1 => ?_⟩
   walk_at "g"
   intro l hl
   have s2 := same_new (o := .lst [.ref r]) hl
   have lH : H l = none := s1.free hl
   walk_at "g"
   refine .inl ?_
   walk_at "g"
   refine q_items ?_
   walk_at "g"
   refine q_itemsE (xs := xs) (.inl (.inl (s2 _ _ (s1 _ _ hb)))) ?_
   have xl : xs.length = ess.length := te.len
   have rl := rw_.len
   refine for_items (xs := xs) (fun i σ Hk => ∃ (v3 : Option V) (ys : List V), σ = [some (.ref a), some (.ref b), some (.ref l), v3] ∧ Same H Hk ∧ Hk l = some (.lst ys) ∧ Ts K Hk (fun z => H z = none ∧ z ≠ l) ys (((cpH h :: hs).take (i + 1)).map fun g => Tr.dic (hK g))) ?_ ?_ ?_ ?_
   · refine ⟨none, [.ref r], rfl, s1.trans s2, upd_same, ?_⟩
     have o2 := (o1.live.mono s2).T
     exact .cons (o2.imp fun z e => ⟨e.1, fun c => e.2 (by rw [c]; exact hl)⟩) .nil
   · rintro i σ Hk _ ⟨v3, ys, rfl, sk, _⟩
     exact .inl (.inl (sk _ _ hb))
   · rintro i x σ Hk hx ⟨v3, ys, rfl, sk, lk1, tk⟩
     have hi : i < ess.length := by
       have := (List.getElem?_eq_some_iff.mp hx).1
       omega
     have ees := List.getElem?_eq_getElem hi
     obtain ⟨c, zs, g1, g2, g3, g4⟩ := te.at ees
     rw [hx] at g1
     cases g1
     have hic : i < (cpH h :: hs).length := by rw [List.length_cons]; omega
     have eu := List.getElem?_eq_getElem hic
     obtain ⟨f, v, z1, z2, z3, z4⟩ := rw_.at eu ees
     have ys1 : ys.length ≤ i + 1 := by
       rw [tk.length, List.length_map, List.length_take]
       omega
     rw [take_more eu, List.map_append] at tk
     obtain ⟨us, w1, e3, tw⟩ := Ts.last (K := K) tk
     rw [← List.map_append, ← take_more eu] at tk
     subst e3
     obtain ⟨aw, kvs, rfl, _⟩ := tw.dicAt
     walk_at "g"
     refine tyL lk1 ?_
     walk_at "g"
     refine q_ixL (.inl (.inl lk1)) atI_neg ?_
     walk_at "g"
     refine ⟨_, aw, c, _, zs, _, rfl, tw, .inl (.inl (sk _ _ g3)), g4.mono sk, z4.wf, z4.imm, ⟨20, z4.fit, by have : (ess[i]).length ≤ 30 := z4.few; omega⟩, Nat.le_trans z4.len (by decide), ?_⟩
     rw [z2]
     intro r2 H2 s3 o3
     walk_at "g"
     refine q_append (s3 _ _ lk1) (len_small (by omega)) ?_
     refine ⟨_, _, rfl, ?_, upd_same, ?_⟩
     · intro z u e
       rw [upd_ne (ne_of_none e lH)]
       exact s3 _ _ (sk _ _ e)
     · have e4 : (cpH h :: hs)[i + 1]? = some v := by simpa using z1
       rw [take_more e4, List.map_append]
       have t3 := (tk.mono s3).append (Ts.one ((o3.T).imp (P' := fun z => H z = none ∧ z ≠ l) fun z e => ⟨sk.free e, fun c => by rw [c, lk1] at e; cases e⟩))
       rw [z3] at t3
       exact t3.upd (s3 _ _ lk1) (fun _ z => nomatch z) (fun _ _ z => nomatch z) fun z e => e.2
   · rintro σ Hk ⟨v3, ys, rfl, sk, lk1, tk⟩
     walk_at "g"
     refine hq l Hk ys sk lH lk1 ?_
     rw [List.take_of_length_le (by rw [List.length_cons]; omega)] at tk
     exact tk.imp fun z e => e.1
  case len =>
   obtain ⟨N, N2, a, b, h, xs, hs, ess, rfl, _⟩ := h
   rfl

/-- _law_jar(script): a list of numbers below 1000 -/
def spJar (K : PySem.W.Frag) : Sp := fun vs H Q _ => ∃ (a : Addr) (ns : List Int), vs = [.ref a] ∧ SqL K H a (ns.map V.int) ∧ ns.length ≤ 63 ∧
  ∀ (r : Addr) (H' : Hp) (ms : List Int), Same H H' → H r = none → H' r = some (.lst (ms.map V.int)) → ms.length ≤ 2000 → (∀ m ∈ ms, (0 : Int) ≤ m ∧ m < 1000) → Q (.ref r) H'
theorem cut_ints {ns : List Int} {lo hi : Option Int} {i : Nat} {x : V} (h : (cutV (ns.map V.int) lo hi)[i]? = some x) : ∃ n, x = .int n := by
  have m : x ∈ cutV (ns.map V.int) lo hi := mem_at h
  unfold cutV at m
  obtain ⟨n, _, e⟩ := List.mem_map.mp (List.mem_of_mem_drop (List.mem_of_mem_take m))
  exact ⟨n, e.symm⟩
theorem ints_snoc (ms : List Int) (x : Int) : ms.map V.int ++ [V.int x] = (ms ++ [x]).map V.int := by rw [List.map_append] <;> rfl
theorem snoc_bound {ms : List Int} {x : Int} (h : ∀ m ∈ ms, (0 : Int) ≤ m ∧ m < 1000) (hx : 0 ≤ x ∧ x < 1000) : ∀ m ∈ ms ++ [x], (0 : Int) ≤ m ∧ m < 1000 := fun m hm => by
  rcases List.mem_append.mp hm with q | q
  · exact h m q
  · rw [List.mem_singleton.mp q]
    exact hx
theorem sc_law_jar : FnScope ["script", "jar", "at", "cell", "number", "k", "low"] ["script"] (defScope s_law_jar) := ⟨rfl, rfl, rfl, by decide +kernel, rfl, by decide +kernel, by decide +kernel⟩
theorem d_law_jar (B : Bt mg) (F : TopF K mg "_law_jar" s_law_jar ["script"]) : Df P w K mg base "_law_jar" ["script"] 1 (spJar K) := by
  refine F.df sc_law_jar (fun vs H Q E h => ?len) (fun f cdv A outer s H vs Q E hr h => ?body)
  case body =>
   have hu := hr.units
   refine ⟨_, (pss_cons (ps_set (i := 1) sc_law_jar.nd rfl (Or.inl rfl) (pe_lst pa_nil))
      (pss_cons (ps_set (i := 2) sc_law_jar.nd rfl (Or.inl rfl) pe_int)
      (pss_cons (ps_lockU (ps_for (passes_of rfl) rfl (k_walk (K := K) rfl (pe_slice (k_sl (K := K) rfl) (pv 0) po_none (po_some pe_int))) (pg_name (i := 3) sc_law_jar.nd rfl (Or.inl rfl))
      (pss_cons (ps_set (i := 2) sc_law_jar.nd rfl (Or.inl rfl) (pe_op (k_add (K := K) rfl) (pv 2) pe_int))
      (pss_cons (ps_set (i := 4) sc_law_jar.nd rfl (Or.inl rfl) (pe_callB k_abs (by rfl) B.b_abs (by decide +kernel) (pa_cons (pe_callTy k_int (by rfl) B.b_int (by decide +kernel) (pa_cons (pv 3) pa_nil)) pa_nil)))
      (pss_one (ps_if (pt_cmpR op_ge (pv 4) pe_int (nomark _))
      (pss_one (ps_for (passes_of rfl) rfl (pi_range1 (by rfl) B.b_range (pa_cons pe_int pa_nil)) (pg_name (i := 5) sc_law_jar.nd rfl (Or.inl rfl))
      (pss_one (ps_if (pt_cmpR op_gt (pv 4) pe_int (nomark _))
      (pss_cons (ps_expr (k_append (K := K) rfl (pv 1) (pa_cons (pe_op op_modN (pv 4) pe_int) pa_nil)))
      (pss_one (ps_set (i := 4) sc_law_jar.nd rfl (Or.inl rfl) (pe_op op_fdivN (pv 4) pe_int))))
      pss_nil))))
      (pss_cons (ps_set (i := 6) sc_law_jar.nd rfl (Or.inl rfl) (pe_op op_modN (pv 4) pe_int))
      (pss_cons (ps_expr (k_append (K := K) rfl (pv 1) (pa_cons (pe_op op_modN (pv 6) pe_int) pa_nil)))
      (pss_cons (ps_expr (k_append (K := K) rfl (pv 1) (pa_cons (pe_op op_modN (pe_op op_mul (pv 6) (pe_op (k_add (K := K) rfl) (pv 6) (pe_op op_mul pe_int (pv 2)))) pe_int) pa_nil)))
      (pss_one (ps_expr (k_append (K := K) rfl (pv 1) (pa_cons (pe_op op_modN (pe_op op_fdivN (pe_op op_mul (pv 6) (pe_op (k_add (K := K) rfl) pe_int (pv 2))) pe_int) pe_int) pa_nil)))))))))))))
      (pss_one (ps_ret (pv 1)))))), ?_⟩
   obtain ⟨a, ns, rfl, ha, hns, hq⟩ := h
   walk_at "g"
   intro r hr1
   have s1 : Same H (upd H r (.lst [])) := same_new hr1
   walk_at "g"
   refine .inl ?_
   walk_at "g"
   refine q_items ?_
   walk_at "g"
   refine q_slL (Sm.sqL s1 ha) fun p hp => ?_
   generalize hxs : cutV (ns.map V.int) none (some 63) = xs
   have hxl : xs.length ≤ 63 := by
     rw [← hxs]
     have := cutV_length (ns.map V.int) none (some 63)
     rw [List.length_map] at this
     omega
   have hrp : r ≠ p := ne_of_none (H := upd H r (.lst [])) upd_same hp
   have s2 : Same (upd H r (.lst [])) (upd (upd H r (.lst [])) p (.lst xs)) := same_new hp
   refine q_itemsE sq_new ?_
   refine for_items (xs := xs) (fun i σ Hi => ∃ (v3 v4 v5 v6 : Option V) (ms : List Int), σ = [some (.ref a), some (.ref r), some (.int i), v3, v4, v5, v6] ∧ Same H Hi ∧ SqL K Hi p xs ∧ Hi r = some (.lst (ms.map V.int)) ∧ ms.length ≤ 20 * i ∧ ∀ m ∈ ms, (0 : Int) ≤ m ∧ m < 1000) ?_ ?_ ?_ ?_
   · exact ⟨none, none, none, none, [], rfl, s1.trans s2, sq_new, s2 _ _ upd_same, Nat.le_refl _, fun m hm => by cases hm⟩
   · rintro i σ Hi _ ⟨v3, v4, v5, v6, ms, rfl, si, sq, _⟩
     exact sq
   · rintro i x σ Hi hx ⟨v3, v4, v5, v6, ms, rfl, si, sq, er, hl, hb⟩
     obtain ⟨c, rfl⟩ : ∃ n, x = .int n := by
       rw [← hxs] at hx
       exact cut_ints hx
     have hi : i < 63 := Nat.lt_of_lt_of_le (List.getElem?_eq_some_iff.mp hx).1 hxl
     have step : ∀ {H2 : Hp} {o : HO}, Same H H2 → SqL K H2 p xs → H2 r = some o → (∀ u v, o ≠ .frz u v) → ∀ o', Same H (upd H2 r o') ∧ SqL K (upd H2 r o') p xs := fun {H2 o} s q e nf o' =>
       ⟨fun z u ez => by
         rw [upd_ne (ne_of_none ez hr1)]
         exact s z u ez, sqL_keep keeps_upd hrp.symm q⟩
     walk_at "g"
     refine q_intI ?_
     walk_at "g"
     refine q_abs ?_
     walk_at "g"
     generalize hn : (if c < 0 then -c else c) = n
     have hn0 : 0 ≤ n := by
       rw [← hn]
       split <;> omega
     refine q_dec (fun _ => ?_) (fun hlt => ?_)
     · -- a large number
       walk_at "g"
       refine ⟨20, rfl, by decide, by decide, ?_⟩
       refine for_rng (lo := 0) (n := 20) (fun k σ Hk => ∃ (n : Int) (v5 : Option V) (ms : List Int), σ = [some (.ref a), some (.ref r), some (.int (i + 1)), some (.int c), some (.int n), v5, v6] ∧ 0 ≤ n ∧ Same H Hk ∧ SqL K Hk p xs ∧ Hk r = some (.lst (ms.map V.int)) ∧ ms.length ≤ 20 * i + k ∧ ∀ m ∈ ms, (0 : Int) ≤ m ∧ m < 1000) ?_ ?_ ?_
       · exact ⟨n, v5, ms, rfl, hn0, si, sq, er, hl, hb⟩
       · rintro k σ Hk hk ⟨n, v5, ms, rfl, hn0, sk, sqk, ek, hlk, hbk⟩
         walk_at "g"
         refine q_dec (fun hpos => ?_) (fun _ => ?_)
         · walk_at "g"
           refine tyL ek ?_
           walk_at "g"
           refine q_I (by decide) ?_
           walk_at "g"
           refine q_append ek (by rw [List.length_map]; exact len_small (by omega)) ?_
           rw [ints_snoc]
           obtain ⟨z1, z2⟩ := step sk sqk ek (fun _ _ z => nomatch z) (.lst ((ms ++ [n.fmod 1000]).map V.int))
           walk_at "g"
           refine q_I ⟨by decide, by decide⟩ ?_
           walk_at "g"
           refine ⟨_, _, _, rfl, (fdiv_le (by decide) hn0).1, z1, z2, upd_same, ?_, snoc_bound hbk (fmod_lt (by decide))⟩
           rw [List.length_append]
           show ms.length + 1 ≤ _
           omega
         · walk_at "g"
           exact ⟨n, _, ms, rfl, hn0, sk, sqk, ek, by omega, hbk⟩
       · rintro σ Hk ⟨n, v5, ms, rfl, hn0, sk, sqk, ek, hlk, hbk⟩
         walk_at "g"
         exact ⟨some (.int c), some (.int n), v5, v6, ms, rfl, sk, sqk, ek, by omega, hbk⟩
     · walk_at "g"
       refine q_I (by decide) ?_
       walk_at "g"
       obtain ⟨l0, l1⟩ := fmod_lt (a := n) (b := 1000003) (by decide)
       generalize n.fmod 1000003 = low at l0 l1
       refine tyL er ?_
       walk_at "g"
       refine q_I (by decide) ?_
       walk_at "g"
       refine q_append er (by rw [List.length_map]; exact len_small (by omega)) ?_
       rw [ints_snoc]
       obtain ⟨z1, z2⟩ := step si sq er (fun _ _ z => nomatch z) (.lst ((ms ++ [low.fmod 1000]).map V.int))
       generalize hH1 : upd Hi r (.lst ((ms ++ [low.fmod 1000]).map V.int)) = Ha at z1 z2
       have ea : Ha r = some (.lst ((ms ++ [low.fmod 1000]).map V.int)) := by rw [← hH1]; exact upd_same
       have ba := snoc_bound hb (fmod_lt (a := low) (b := 1000) (by decide))
       have la : (ms ++ [low.fmod 1000]).length ≤ 20 * i + 1 := by
         rw [List.length_append]
         show ms.length + 1 ≤ _
         omega
       generalize ms ++ [low.fmod 1000] = msa at ea ba la
       walk_at "g"
       refine tyL ea ?_
       walk_at "g"
       refine q_I (.inl ⟨by decide, by decide⟩) ?_
       walk_at "g"
       refine q_I (.inl ⟨by omega, by omega⟩) ?_
       walk_at "g"
       refine q_I (by decide) ?_
       walk_at "g"
       obtain ⟨y0, y1⟩ := fmod_lt (a := low * (low + 7 * (i + 1))) (b := 991) (by decide)
       generalize (low * (low + 7 * (↑i + 1))).fmod 991 = y at y0 y1
       refine q_append ea (by rw [List.length_map]; exact len_small (by omega)) ?_
       rw [ints_snoc]
       obtain ⟨z3, z4⟩ := step z1 z2 ea (fun _ _ z => nomatch z) (.lst ((msa ++ [y]).map V.int))
       generalize hH2 : upd Ha r (.lst ((msa ++ [y]).map V.int)) = Hb at z3 z4
       have eb : Hb r = some (.lst ((msa ++ [y]).map V.int)) := by rw [← hH2]; exact upd_same
       have bb := snoc_bound ba (x := y) ⟨y0, by omega⟩
       have lb : (msa ++ [y]).length ≤ 20 * i + 2 := by
         rw [List.length_append]
         show msa.length + 1 ≤ _
         omega
       generalize msa ++ [y] = msb at eb bb lb
       walk_at "g"
       refine tyL eb ?_
       walk_at "g"
       refine q_I (.inl ⟨by omega, by omega⟩) ?_
       walk_at "g"
       refine q_I ⟨by decide, by decide⟩ ?_
       walk_at "g"
       refine q_I (by decide) ?_
       walk_at "g"
       obtain ⟨x0, x1⟩ := fmod_lt (a := (low * (31 + (i + 1))).fdiv 7) (b := 997) (by decide)
       generalize ((low * (31 + (↑i + 1))).fdiv 7).fmod 997 = x at x0 x1
       refine q_append eb (by rw [List.length_map]; exact len_small (by omega)) ?_
       rw [ints_snoc]
       obtain ⟨z5, z6⟩ := step z3 z4 eb (fun _ _ z => nomatch z) (.lst ((msb ++ [x]).map V.int))
       walk_at "g"
       refine ⟨_, _, _, _, msb ++ [x], rfl, z5, z6, upd_same, ?_, snoc_bound bb ⟨x0, by omega⟩⟩
       rw [List.length_append]
       show msb.length + 1 ≤ _
       omega
   · rintro σ Hi ⟨v3, v4, v5, v6, ms, rfl, si, sq, er, hl, hb⟩
     walk_at "g"
     exact hq r Hi ms si hr1 er (by omega) hb
  case len =>
   obtain ⟨a, ns, rfl, _⟩ := h
   rfl

abbrev lim : Int := 1000000000000
/-- _law_draw(jar, at, many): a number from 0 to many - 1, the place goes on -/
def spDraw : Sp := fun vs H Q _ => ∃ (j a : Addr) (p many : Int), vs = [.ref j, .ref a, .int many] ∧ Rnd H j a p ∧ p ≤ lim ∧ 0 < many ∧
  ∀ v p', 0 ≤ v → v < many → p ≤ p' → p' ≤ p + 1 → Q (.int v) (upd H a (.lst [.int p']))
theorem atI_int {ns : List Int} {p : Int} (h0 : 0 ≤ p) (h1 : p < ns.length) : ∃ n ∈ ns, atI (ns.map V.int) p = some (.int n) := by
  obtain ⟨k, rfl⟩ : ∃ k : Nat, p = k := ⟨p.toNat, by omega⟩
  have hk : k < ns.length := by omega
  exact ⟨ns[k], List.getElem_mem hk, atI_nat (by rw [List.getElem?_map, List.getElem?_eq_getElem hk]; rfl)⟩
theorem sc_law_draw : FnScope ["jar", "at", "many", "place"] ["jar", "at", "many"] (defScope s_law_draw) := ⟨rfl, rfl, rfl, by decide +kernel, rfl, by decide +kernel, by decide +kernel⟩
theorem d_law_draw (B : Bt mg) (F : TopF K mg "_law_draw" s_law_draw ["jar", "at", "many"]) : Df P w K mg base "_law_draw" ["jar", "at", "many"] 1 (spDraw) := by
  refine F.df sc_law_draw (fun vs H Q E h => ?len) (fun f cdv A outer s H vs Q E hr h => ?body)
  case body =>
   have hu := hr.units
   refine ⟨_, (pss_cons (ps_if (pt_cmpR (k_eq (K := K) rfl hu) (pe_callB (k_len (K := K) rfl) (by rfl) B.b_len (by decide +kernel) (pa_cons (pv 0) pa_nil)) pe_int (nomark _))
      (pss_one (ps_ret pe_int))
      pss_nil)
      (pss_cons (ps_set (i := 3) sc_law_draw.nd rfl (Or.inl rfl) (pe_ix (k_ix (K := K) rfl hu) (pv 1) pe_int (fun _ _ => rfl)))
      (pss_cons (ps_asg (pe_op (k_add (K := K) rfl) (pv 3) pe_int) (pg_sub (pv 1) pe_int (set_any hu)))
      (pss_cons (ps_if (pt_cmpR op_lt (pv 3) (pe_callB (k_len (K := K) rfl) (by rfl) B.b_len (by decide +kernel) (pa_cons (pv 0) pa_nil)) (nomark _))
      (pss_one (ps_ret (pe_op op_modN (pe_callTy k_int (by rfl) B.b_int (by decide +kernel) (pa_cons (pe_ix (k_ix (K := K) rfl hu) (pv 0) (pv 3) (fun _ _ => rfl)) pa_nil)) (pv 2))))
      pss_nil)
      (pss_one (ps_ret (pe_op op_modN (pe_op op_modN (pe_callTy k_int (by rfl) B.b_int (by decide +kernel) (pa_cons (pe_op (k_add (K := K) rfl) (pe_op (k_add (K := K) rfl) (pe_op op_mul (pe_ix (k_ix (K := K) rfl hu) (pv 0) (pe_op op_modN (pe_callTy k_int (by rfl) B.b_int (by decide +kernel) (pa_cons (pv 3) pa_nil)) (pe_callB (k_len (K := K) rfl) (by rfl) B.b_len (by decide +kernel) (pa_cons (pv 0) pa_nil))) (fun _ _ => rfl)) pe_int) (pe_op op_mul (pv 3) pe_int)) (pe_op op_mul (pe_op op_fdivN (pv 3) (pe_callB (k_len (K := K) rfl) (by rfl) B.b_len (by decide +kernel) (pa_cons (pv 0) pa_nil))) pe_int)) pa_nil)) pe_int) (pv 2)))))))), ?_⟩
   obtain ⟨j, a, p, many, rfl, hR, hp, hm, hq⟩ := h
   obtain ⟨ns, e1, l1, b1⟩ := hR.ex
   have p0 := hR.p0
   have ea := hR.at_
   walk_at "g"
   refine q_lenL (.inl (.inl e1)) ?_
   walk_at "g"
   rw [List.length_map]
   refine q_dec (fun h0 => ?_) (fun h0 => ?_)
   · walk_at "g"
     have := hq 0 p (Int.le_refl 0) hm (Int.le_refl p) (by omega)
     rw [upd_self ea] at this
     exact this
   · walk_at "g"
     refine q_ixL (.inl (.inl ea)) (atI_nat (j := 0) rfl) ?_
     walk_at "g"
     refine q_setL (j := 0) ea rfl ?_
     have hh := hq
     have e2 : (upd H a (.lst [.int (p + 1)])) j = some (.lst (ns.map V.int)) := by rw [upd_ne hR.ne]; exact e1
     walk_at "g"
     refine q_lenL (.inl (.inl e2)) ?_
     walk_at "g"
     rw [List.length_map]
     refine q_dec (fun h1 => ?_) (fun h1 => ?_)
     · obtain ⟨n, hn, hat⟩ := atI_int p0 h1
       walk_at "g"
       refine q_ixL (.inl (.inl e2)) hat ?_
       walk_at "g"
       refine q_intI ?_
       walk_at "g"
       refine q_I (show many ≠ 0 by omega) ?_
       obtain ⟨z1, z2⟩ := fmod_lt (a := n) hm
       exact hq _ (p + 1) z1 z2 (by omega) (by omega)
     · walk_at "g"
       refine q_intI ?_
       walk_at "g"
       refine q_lenL (.inl (.inl e2)) ?_
       have hl0 : (0 : Int) < ns.length := by omega
       walk_at "g"
       rw [List.length_map]
       refine q_I (show (ns.length : Int) ≠ 0 by omega) ?_
       walk_at "g"
       obtain ⟨z1, z2⟩ := fmod_lt (a := p) hl0
       obtain ⟨n, hn, hat⟩ := atI_int z1 z2
       have hb := b1 n hn
       refine q_ixL (.inl (.inl e2)) hat ?_
       walk_at "g"
       refine q_I (.inr ⟨by decide, by decide⟩) ?_
       walk_at "g"
       refine q_I (.inr ⟨by decide, by decide⟩) ?_
       walk_at "g"
       refine q_lenL (.inl (.inl e2)) ?_
       walk_at "g"
       rw [List.length_map]
       refine q_I ⟨show (ns.length : Int) ≠ 0 by omega, by omega⟩ ?_
       walk_at "g"
       refine q_I (.inr ⟨by decide, by decide⟩) ?_
       walk_at "g"
       refine q_intI ?_
       walk_at "g"
       refine q_I (by decide) ?_
       walk_at "g"
       refine q_I (show many ≠ 0 by omega) ?_
       generalize ((n * 61 + p * 37 + p.fdiv ↑(List.length ns) * 11).fmod 983) = y
       obtain ⟨z1, z2⟩ := fmod_lt (a := y) hm
       exact hq _ (p + 1) z1 z2 (by omega) (by omega)
  case len =>
   obtain ⟨j, a, p, many, rfl, _⟩ := h
   rfl
/-- an entry that is drawn -/
inductive Ent : Tr → Prop
  | int (i : Int) : 1 ≤ i → i ≤ 3 → Ent (.int i)
  | tup (k : Int) : 0 ≤ k → k < 3 → Ent (.tup [.str "b", .int k])
  | word : Ent (.str "word")
theorem Ent.imm {d : Tr} (h : Ent d) : imm d = true := by
  cases h <;> rfl
/-- _law_entry(jar, at) -/
def spEnt (K : PySem.W.Frag) : Sp := fun vs H Q _ => ∃ (j a : Addr) (p : Int), vs = [.ref j, .ref a] ∧ Rnd H j a p ∧ p + 1 ≤ lim ∧
  ∀ v d H' p', Ent d → Kp a H H' → Rnd H' j a p' → p ≤ p' → p' ≤ p + 2 → T K H' ff v d → Q v H'
theorem sc_law_entry : FnScope ["jar", "at", "pick"] ["jar", "at"] (defScope s_law_entry) := ⟨rfl, rfl, rfl, by decide +kernel, rfl, by decide +kernel, by decide +kernel⟩
theorem d_law_entry (B : Bt mg) (F : TopF K mg "_law_entry" s_law_entry ["jar", "at"]) (D_law_draw : Df P w K mg base "_law_draw" ["jar", "at", "many"] 1 (spDraw)) : Df P w K mg base "_law_entry" ["jar", "at"] 2 (spEnt K) := by
  refine F.df sc_law_entry (fun vs H Q E h => ?len) (fun f cdv A outer s H vs Q E hr h => ?body)
  case body =>
   have hu := hr.units
   refine ⟨_, (pss_cons (ps_set (i := 2) sc_law_entry.nd rfl (Or.inl rfl) (pe_df D_law_draw (hr.mono (by decide)) (fun σ => passAt (takes_of rfl rfl rfl rfl) σ) (pa_cons (pv 0) (pa_cons (pv 1) (pa_cons pe_int pa_nil)))))
      (pss_cons (ps_if (pt_cmpR op_lt (pv 2) pe_int (nomark _))
      (pss_one (ps_ret (pe_op (k_add (K := K) rfl) (pv 2) pe_int)))
      pss_nil)
      (pss_cons (ps_if (pt_cmpR (k_eq (K := K) rfl hu) (pv 2) pe_int (nomark _))
      (pss_one (ps_ret (pe_tup (pa_cons pe_str (pa_cons (pe_df D_law_draw (hr.mono (by decide)) (fun σ => passAt (takes_of rfl rfl rfl rfl) σ) (pa_cons (pv 0) (pa_cons (pv 1) (pa_cons pe_int pa_nil)))) pa_nil)))))
      pss_nil)
      (pss_one (ps_ret pe_str))))), ?_⟩
   obtain ⟨j, a, p, rfl, hR, hp, hq⟩ := h
   have p0 := hR.p0
   walk_at "g"
   refine ⟨j, a, p, 5, rfl, hR, by omega, by decide, fun v p1 v0 v1 h1 h2 => ?_⟩
   have R1 := hR.set (p' := p1) (by omega)
   have k1 : Kp a H (upd H a (.lst [.int p1])) := Kp.upd
   walk_at "g"
   refine q_dec (fun c => ?_) (fun c => ?_)
   · walk_at "g"
     exact hq _ (.int (v + 1)) _ p1 (.int _ (by omega) (by omega)) k1 R1 h1 (by omega) (.int _)
   · walk_at "g"
     refine q_dec (fun c2 => ?_) (fun c2 => ?_)
     · walk_at "g"
       refine ⟨j, a, p1, 3, rfl, R1, by omega, by decide, fun w p2 w0 w1 g1 g2 => ?_⟩
       have R2 := R1.set (p' := p2) (by omega)
       walk_at "g"
       intro t ht
       refine hq _ (.tup [.str "b", .int w]) _ p2 (.tup w w0 w1) ((k1.trans Kp.upd).new ?_) (R2.same (same_new ht)) (by omega) (by omega) (.tup st_new (.cons (.str _) (.cons (.int _) .nil)))
       cases z : H t with
       | none => rfl
       | some o =>
         by_cases hta : t = a
         · rw [hta, upd_same] at ht
           cases ht
         · rw [upd_ne hta, upd_ne hta, z] at ht
           cases ht
     · walk_at "g"
       exact hq _ (.str "word") _ p1 .word k1 R1 h1 (by omega) (.str _)
  case len =>
   obtain ⟨j, a, p, rfl, _⟩ := h
   rfl

-- _law_copy(house): as copy_house
theorem sc_law_copy : FnScope ["house", "found", "key", "name"] ["house"] (defScope s_law_copy) := ⟨rfl, rfl, rfl, by decide +kernel, rfl, by decide +kernel, by decide +kernel⟩
theorem d_law_copy (B : Bt mg) (F : TopF K mg "_law_copy" s_law_copy ["house"]) : Df P w K mg base "_law_copy" ["house"] 1 (spCH K) := by
  refine F.df sc_law_copy (fun vs H Q E h => ?len) (fun f cdv A outer s H vs Q E hr h => ?body)
  case body =>
   have hu := hr.units
   refine ⟨_, (pss_cons (ps_set (i := 1) sc_law_copy.nd rfl (Or.inl rfl) pe_dnewK)
      (pss_cons (ps_lockU (ps_for (passes_of rfl) rfl (k_walk (K := K) rfl (pv 0)) (pg_name (i := 2) sc_law_copy.nd rfl (Or.inl rfl))
      (pss_cons (ps_asg pe_dnewK (pg_sub (pv 1) (pv 2) (set_any hu)))
      (pss_one (ps_for (passes_of rfl) rfl (k_walk (K := K) rfl (pe_callB (k_sort (K := K) rfl rfl) (by rfl) B.b_sorted (by decide +kernel) (pa_cons (pe_ix (k_ix (K := K) rfl hu) (pv 0) (pv 2) (fun _ _ => rfl)) pa_nil))) (pg_name (i := 3) sc_law_copy.nd rfl (Or.inl rfl))
      (pss_one (ps_asg (pe_ix (k_ix (K := K) rfl hu) (pe_ix (k_ix (K := K) rfl hu) (pv 0) (pv 2) (fun _ _ => rfl)) (pv 3) (fun _ _ => rfl)) (pg_sub (pe_ix (k_ix (K := K) rfl hu) (pv 1) (pv 2) (fun _ _ => rfl)) (pv 3) (set_any hu)))))))))
      (pss_one (ps_ret (pv 1))))), ?_⟩
   obtain ⟨N, a, h, rfl, ha, wf, fit, hl, hq⟩ := h
   obtain ⟨a', kvs, ea, _, hrd, tk⟩ := ha.dicAt
   cases ea
   walk_at "g"
   intro r hr0
   have s0 : Same H (upd H r (.dK [])) := same_new hr0
   generalize hH0 : upd H r (.dK []) = Hz at s0
   have er0 : Hz r = some (.dK []) := by rw [← hH0]; exact upd_same
   walk_at "g"
   refine q_lockS (Sm.rd s0 hrd) fun Hl od un D' lkd hD' => ?_
   walk_at "g"
   refine q_keys ?_
   walk_at "g"
   refine q_keysE lkd.at_ ?_
   have hlen : kvs.length = h.length := by rw [tk.length]; unfold hK; rw [List.length_map]
   have L0 : Lk1 H a kvs od Hl := ⟨fun b o e n => lkd.l1.keep b o (s0 b o e) n, lkd.at_⟩
   have era : Hl r = some (.dK []) := by rw [lkd.el r (L0.ne hrd hr0)]; exact er0
   refine for_keysS (kvs := kvs) (fun i σ H1 => ∃ (v2 v3 : Option V), σ = [some (.ref a), some (.ref r), v2, v3] ∧ Lk1 H a kvs od H1 ∧ Own K (fun b => H b = none) H1 r (cpH (h.take i))) ?_ ?_ ?_ ?_
   · exact ⟨none, none, rfl, L0, by rw [List.take_zero]; exact Own.nil era hr0⟩
   · rintro i σ H1 _ ⟨v2, v3, rfl, l, _⟩
     exact l.at_
   · rintro i k v σ H1 hkv ⟨v2, v3, rfl, l1, o1⟩
     obtain ⟨d0, g1, g2⟩ := Tk.at tk hkv
     obtain ⟨n, t, hn, rfl, rfl⟩ := hK_at g1
     have hm := mem_at hn
     have wft := wf.tab _ hm
     have ft : t.length ≤ 60 := fit _ hm
     have hlk : lk h n = some t := lk_of_mem wf.nd hm
     obtain ⟨q', es', hv, _, hq2, tkq'⟩ := T.tab tk hlk
     have tkq := (tkq'.imm wft.2 : Tk K H ff es' (tK t))
     have nn : n ∉ nms (cpH (h.take i)) := by
       rw [nms_cpH, nms_take]
       exact nd_at wf.nd (nms_at hn)
     have hil : i < h.length := by
       rw [← hlen]
       exact (List.getElem?_eq_some_iff.mp hkv).1
     walk_at "g"
     intro q hqn
     have s2 : Same H1 (upd H1 q (.dK [])) := same_new hqn
     have hqf := l1.fresh hqn
     obtain ⟨kvs2, k1, k2, k3⟩ := o1.push (t := []) nn hqn hqf s2 upd_same .nil
     have l3 : kvs2.length < sizeLine := by
       rw [k2, len_cp, List.length_take]
       exact len_small (by omega)
     walk_at "g"
     refine q_setD (.inr n) k1 l3 ?_
     have l2 : Lk1 H a kvs od (upd (upd H1 q (.dK [])) r (.dK (putK kvs2 (.inr n) (.ref q)))) := (l1.upd hrd hqf).upd hrd hr0
     generalize hH2 : upd (upd H1 q (.dK [])) r (.dK (putK kvs2 (.inr n) (.ref q))) = H2 at k3 l2
     walk_at "g"
     refine q_items ?_
     walk_at "g"
     refine q_ixK (.inr n) (.inr ⟨od, l2.at_⟩) hv ?_
     walk_at "g"
     refine q_sortD (ks := nms t) ((l2.rs hrd).dk hq2) (by rw [tkq.keys, keys_tK]) (by rw [nms_len]; omega) fun p hp => ?_
     have s3 : Same H2 (upd H2 p (.lst ((srt (nms t)).map V.str))) := same_new hp
     generalize hH3 : upd H2 p (.lst ((srt (nms t)).map V.str)) = H3 at s3
     have ep3 : H3 p = some (.lst ((srt (nms t)).map V.str)) := by rw [← hH3]; exact upd_same
     have l3' := l2.same s3
     have hpf := l2.fresh hp
     refine q_itemsE (.inl (.inl ep3)) ?_
     have nn2 : n ∉ nms (cpH (h.take i)) := nn
     refine for_items (xs := (srt (nms t)).map V.str) (fun jj σ H4 => ∃ (v3 : Option V), σ = [some (.ref a), some (.ref r), some (.str n), v3] ∧ Lk1 H a kvs od H4 ∧ H4 p = some (.lst ((srt (nms t)).map V.str)) ∧ Own K (fun b => H b = none) H4 r (cpH (h.take i) ++ [(n, (ord t).take jj)])) ?_ ?_ ?_ ?_
     · exact ⟨v3, rfl, l3', ep3, by rw [List.take_zero]; exact k3.mono s3⟩
     · rintro jj σ H4 _ ⟨v3, rfl, l4, e4, o4⟩
       exact .inl (.inl e4)
     · rintro jj x σ H4 hx ⟨v3, rfl, l4, e4, o4⟩
       obtain ⟨m, hm2, rfl⟩ := srt_at hx
       obtain ⟨dm, ho, hlm⟩ := ord_at hm2
       obtain ⟨vm, hvm, tvm⟩ := tkq.ent hlm
       obtain ⟨kv4, q4, es4, c1, c2, c3, c4, c5, c6, c7, back⟩ := o4.at (lk_snoc nn)
       have hq4 : es4.length < sizeLine := by
         rw [c4.length]
         unfold tK
         rw [List.length_map, List.length_take, len_ord]
         exact len_small (by omega)
       walk_at "g"
       refine q_ixK (.inr n) (.inr ⟨od, l4.at_⟩) hv ?_
       walk_at "g"
       refine q_ixK (.inr m) ((l4.rs hrd).dk hq2) hvm ?_
       walk_at "g"
       refine q_ixK (.inr n) (.inl c1) c2 ?_
       walk_at "g"
       refine q_setD (.inr m) c3 hq4 ?_
       have nk : (Sum.inr m : Key) ∉ es4.map (·.1) := by
         rw [c4.keys, keys_tK, nms_take, nms_ord]
         exact fun z => nd_at ((srt_perm _).nodup_iff.mpr wft.1) hm2 (inr_mem.mp z)
       have tk5 : Tk K H4 ff (putK es4 (.inr m) vm) (tK ((ord t).take (jj + 1))) := by
         rw [putK_fresh nk, take_more ho, tK_snoc]
         exact c4.append (Tk.cons (k := Sum.inr m) (tvm.rs (l4.rs hrd)) .nil)
       have o5 := back _ _ tk5
       rw [put_snoc nn] at o5
       exact ⟨_, rfl, l4.upd hrd c5, sqL_dk c3 e4, o5⟩
     · rintro σ H4 ⟨v3, rfl, l4, e4, o4⟩
       have hle : (ord t).take ((srt (nms t)).map V.str).length = ord t := by
         rw [List.length_map, (srt_perm _).length_eq, nms_len, ← len_ord t, List.take_length]
       rw [hle] at o4
       refine ⟨some (.str n), v3, rfl, l4, ?_⟩
       rw [cpH_take, take_more (cpH_at hn), ← cpH_take]
       exact o4
   · rintro σ H1 ⟨v2, v3, rfl, l1, o1⟩
     refine hD'.nx _ _ l1.at_ ?_
     rw [hlen, List.take_length] at o1
     walk_at "g"
     exact hq r _ (l1.out lkd s0) (lkd.own (fun b e => l1.ne hrd e) l1.at_ o1)
  case len =>
   obtain ⟨N, a, h, rfl, _⟩ := h
   rfl

/-- _law_after(house, edit), the edit can be applied -/
def spAF (K : PySem.W.Frag) : Sp := fun vs H Q _ => ∃ (N : Addr → Prop) (a : Addr) (v : V) (h h' : Hs) (e : Ed), vs = [.ref a, v] ∧ T K H N (.ref a) (.dic (hK h)) ∧ T K H ff v e.tr ∧
  Wf h ∧ e.Imm ∧ Fits 59 h ∧ h.length ≤ 900 ∧ app1 (cpH h) e = .ok h' ∧ ∀ r H', Same H H' → Own K (fun b => H b = none) H' r (cpH h') → Q (.ref r) H'
theorem sc_law_after : FnScope ["house", "edit", "found"] ["house", "edit"] (defScope s_law_after) := ⟨rfl, rfl, rfl, by decide +kernel, rfl, by decide +kernel, by decide +kernel⟩
theorem d_law_after (B : Bt mg) (F : TopF K mg "_law_after" s_law_after ["house", "edit"]) (D_law_copy : Df P w K mg base "_law_copy" ["house"] 1 (spCH K)) : Df P w K mg base "_law_after" ["house", "edit"] 3 (spAF K) := by
  refine F.df sc_law_after (fun vs H Q E h => ?len) (fun f cdv A outer s H vs Q E hr h => ?body)
  case body =>
   have hu := hr.units
   refine ⟨_, (pss_cons (ps_set (i := 2) sc_law_after.nd rfl (Or.inl rfl) (pe_df D_law_copy (hr.mono (by decide)) (fun σ => passAt (takes_of rfl rfl rfl rfl) σ) (pa_cons (pv 0) pa_nil)))
      (pss_cons (ps_if (pt_cmpR (k_eq (K := K) rfl hu) (pe_ix (k_ix (K := K) rfl hu) (pv 1) pe_int (fun _ _ => rfl)) pe_str (nomark _))
      (pss_one (ps_asg (pe_ix (k_ix (K := K) rfl hu) (pv 1) pe_int (fun _ _ => rfl)) (pg_sub (pe_ix (k_ix (K := K) rfl hu) (pv 2) (pe_ix (k_ix (K := K) rfl hu) (pv 1) pe_int (fun _ _ => rfl)) (fun _ _ => rfl)) (pe_ix (k_ix (K := K) rfl hu) (pv 1) pe_int (fun _ _ => rfl)) (set_any hu))))
      (pss_one (ps_expr (pe_dpop1 (pe_ix (k_ix (K := K) rfl hu) (pv 2) (pe_ix (k_ix (K := K) rfl hu) (pv 1) pe_int (fun _ _ => rfl)) (fun _ _ => rfl)) (pe_ix (k_ix (K := K) rfl hu) (pv 1) pe_int (fun _ _ => rfl)) ⟨rfl, rfl, rfl, rfl⟩))))
      (pss_one (ps_ret (pe_df D_law_copy (hr.mono (by decide)) (fun σ => passAt (takes_of rfl rfl rfl rfl) σ) (pa_cons (pv 2) pa_nil)))))), ?_⟩
   obtain ⟨N, a, v, h, h', e, rfl, ha, he, wf, im, fit, hl, hap, hq⟩ := h
   obtain ⟨w', f', n'⟩ := app1_ok wf.cp im fit.cp hap
   walk_at "g"
   refine ⟨N, a, h, rfl, ha, wf, fun p hp => Nat.le_trans (fit p hp) (by decide), hl, fun r H1 s1 o1 => ?_⟩
   obtain ⟨b, rfl, he'⟩ := Ed.at (he.mono s1)
   cases e1 : lk (cpH h) e.key with
   | none =>
     simp only [app1, e1] at hap
     cases hap
   | some t =>
     obtain ⟨kvs, q, es, h1, h2, h3, h4, nq, nr, ne, back⟩ := o1.at e1
     have hm := lk_mem e1
     have wt := wf.cp.tab _ hm
     have ft : t.length ≤ 59 := fit.cp _ hm
     have hsz : es.length < sizeLine := by
       rw [h4.length]
       unfold tK
       rw [List.length_map]
       exact len_small (by omega)
     have fin : ∀ es', Own K (fun b => H b = none) (upd H1 q (.dK es')) r h' → tRet (tCallS (spCH K) (WE fun cls d _ H => E cls d H) (tCons (tVar 2) tNil)) { nx := fun _ H' => Q .non H', rt := Q } [some (.ref a), some (.ref b), some (.ref r)] (upd H1 q (.dK es')) := fun es' o' => by
       walk_at "g"
       refine ⟨_, r, h', rfl, o'.T, w', f', by rw [len_of_nms n', len_cp]; exact hl, fun r2 H2 s2 o2 => ?_⟩
       have sq : Same H (upd H1 q (.dK es')) := fun z o ez => by
         rw [upd_ne (ne_of_none ez nq)]
         exact s1 z o ez
       exact hq r2 H2 (sq.trans s2) (o2.imp fun b e => sq.free e)
     cases e with
     | put k n x =>
       obtain ⟨y, hs, ty⟩ := he'
       simp only [app1, e1] at hap
       cases hap
       walk_at "g"
       walk_at "ix"
       walk_at "g"
       rw [decide_eq_true rfl]
       walk_at "g"
       walk_at "ix"
       walk_at "g"
       walk_at "ix"
       walk_at "g"
       refine q_ixK (.inr k) (.inl h1) h2 ?_
       walk_at "g"
       walk_at "ix"
       refine q_setD (.inr n) h3 hsz ?_
       refine fin _ (back _ _ ?_)
       rw [← put_tK wt.1]
       exact h4.put ty
     | drop k n =>
       have hs := he'
       by_cases hn : n ∈ nms t
       · simp only [app1, e1, if_pos hn] at hap
         cases hap
         obtain ⟨d, e3⟩ : ∃ d, lk t n = some d := by
           cases e3 : lk t n with
           | none => exact absurd hn (lk_none.mp e3)
           | some d => exact ⟨d, rfl⟩
         obtain ⟨vd, g1, g2⟩ := h4.ent e3
         walk_at "g"
         walk_at "ix"
         walk_at "g"
         rw [decide_eq_false (by decide)]
         walk_at "g"
         refine q_dpop1 ?_
         walk_at "g"
         walk_at "ix"
         walk_at "g"
         refine q_ixK (.inr k) (.inl h1) h2 ?_
         refine ⟨q, rfl, .inl ⟨es, .inl h3⟩, ?_⟩
         walk_at "g"
         walk_at "ix"
         refine ⟨es, .inr n, vd, h3, rfl, g1, ?_⟩
         refine fin _ (back _ _ ?_)
         rw [← del_tK wt.1]
         exact h4.del _
       · simp only [app1, e1, if_neg hn] at hap
         cases hap
  case len =>
   obtain ⟨N, a, v, h, h', e, rfl, _⟩ := h
   rfl
/-- _law_back(house, edit) -/
def spLB (K : PySem.W.Frag) : Sp := fun vs H Q _ => ∃ (N : Addr → Prop) (a : Addr) (v : V) (h : Hs) (e : Ed) (t : Tab), vs = [.ref a, v] ∧ T K H N (.ref a) (.dic (hK h)) ∧ T K H ff v e.tr ∧ Wf h ∧ lk h e.key = some t ∧
  ∀ u H', Same H H' → T K H' ff u (inv1 h e).tr → Q u H'
theorem Ed.two {H : Hp} {v : V} {e : Ed} {N : Addr → Prop} (h : T K H N v e.tr) : ∃ b ws, v = .ref b ∧ SqT K H b ws ∧ atI ws 1 = some (.str e.key) ∧ atI ws 2 = some (.str e.name) := by
  obtain ⟨b, rfl, he⟩ := Ed.at h
  cases e with
  | put k n x =>
    obtain ⟨y, hs, _⟩ := he
    exact ⟨b, _, rfl, hs, atI_nat (j := 1) rfl, atI_nat (j := 2) rfl⟩
  | drop k n => exact ⟨b, _, rfl, he, atI_nat (j := 1) rfl, atI_nat (j := 2) rfl⟩
/-- _law_same(told, house): True of one house twice, its tables in order -/
def spSame (K : PySem.W.Frag) : Sp := fun vs H Q _ => ∃ (N1 N2 : Addr → Prop) (a b : Addr) (h : Hs), vs = [.ref a, .ref b] ∧ T K H N1 (.ref a) (.dic (hK h)) ∧ T K H N2 (.ref b) (.dic (hK h)) ∧ Wf h ∧ Sml h ∧ AscH h ∧ Fits 60 h ∧ h.length ≤ 900 ∧
  ∀ H', Same H H' → Q (.bl true) H'
theorem sc_law_same : FnScope ["told", "house", "key"] ["told", "house"] (defScope s_law_same) := ⟨rfl, rfl, rfl, by decide +kernel, rfl, by decide +kernel, by decide +kernel⟩
theorem d_law_same (B : Bt mg) (F : TopF K mg "_law_same" s_law_same ["told", "house"]) : Df P w K mg base "_law_same" ["told", "house"] 1 (spSame K) := by
  refine F.df sc_law_same (fun vs H Q E h => ?len) (fun f cdv A outer s H vs Q E hr h => ?body)
  case body =>
   have hu := hr.units
   refine ⟨_, (pss_cons (ps_if (PW.pt (pw_or (pt_not (k_tr (K := K) rfl (pe_callB (k_isi (K := K) rfl) (by rfl) B.b_isinstance (by decide +kernel) (pa_cons (pv 0) (pa_cons (pe_bltn (v := .ty "dict") (by rfl) B.b_dict (by decide +kernel) rfl) pa_nil))))) (pw_or1 (pt_cmpR (k_ne (K := K) rfl hu) (pe_callTy (k_list (K := K) rfl rfl) (by rfl) B.b_list (by decide +kernel) (pa_cons (pv 0) pa_nil)) (pe_callTy (k_list (K := K) rfl rfl) (by rfl) B.b_list (by decide +kernel) (pa_cons (pv 1) pa_nil)) (nomark _)))))
      (pss_one (ps_ret pe_bl))
      pss_nil)
      (pss_cons (ps_lockU (ps_for (passes_of rfl) rfl (k_walk (K := K) rfl (pv 1)) (pg_name (i := 2) sc_law_same.nd rfl (Or.inl rfl))
      (pss_one (ps_if (PW.pt (pw_or (pt_not (k_tr (K := K) rfl (pe_callB (k_isi (K := K) rfl) (by rfl) B.b_isinstance (by decide +kernel) (pa_cons (pe_ix (k_ix (K := K) rfl hu) (pv 0) (pv 2) (fun _ _ => rfl)) (pa_cons (pe_bltn (v := .ty "dict") (by rfl) B.b_dict (by decide +kernel) rfl) pa_nil))))) (pw_or (pt_cmpR (k_ne (K := K) rfl hu) (pe_callTy (k_list (K := K) rfl rfl) (by rfl) B.b_list (by decide +kernel) (pa_cons (pe_ix (k_ix (K := K) rfl hu) (pv 0) (pv 2) (fun _ _ => rfl)) pa_nil)) (pe_callB (k_sort (K := K) rfl rfl) (by rfl) B.b_sorted (by decide +kernel) (pa_cons (pe_ix (k_ix (K := K) rfl hu) (pv 1) (pv 2) (fun _ _ => rfl)) pa_nil)) (nomark _)) (pw_or1 (pt_cmpR (k_ne (K := K) rfl hu) (pe_ix (k_ix (K := K) rfl hu) (pv 0) (pv 2) (fun _ _ => rfl)) (pe_ix (k_ix (K := K) rfl hu) (pv 1) (pv 2) (fun _ _ => rfl)) (nomark _))))))
      (pss_one (ps_ret pe_bl))
      pss_nil))))
      (pss_one (ps_ret pe_bl)))), ?_⟩
   obtain ⟨N1, N2, a, b, h, rfl, ha, hb, wf, sm, asc, fit, hl, hq⟩ := h
   obtain ⟨a', ka, ea, _, hra, tka⟩ := ha.dicAt
   cases ea
   obtain ⟨b', kb, eb, _, hrb, tkb⟩ := hb.dicAt
   cases eb
   have ka1 := tka.keys.trans (keys_hK h)
   have kb1 := tkb.keys.trans (keys_hK h)
   walk_at "g"
   refine q_isiD hra ?_
   walk_at "g"
   refine q_listK hra fun p hp => ?_
   have s1 := same_new (o := .lst (ka.map fun kv => kV kv.1)) hp
   walk_at "g"
   refine q_listK (Sm.rd s1 hrb) fun q hq1 => ?_
   have s2 := same_new (o := .lst (kb.map fun kv => kV kv.1)) hq1
   refine q_neStrs (ss := nms h) (by rw [← keysV ka1]; exact Sm.sqL s2 sq_new) (by rw [← keysV kb1]; exact sq_new) ?_
   have s3 := s1.trans s2
   generalize hHz : upd (upd H p (.lst (ka.map fun kv => kV kv.1))) q (.lst (kb.map fun kv => kV kv.1)) = Hz at s3
   walk_at "g"
   refine q_lockS (Sm.rd s3 hrb) fun Hl od un D' lkd hD' => ?_
   walk_at "g"
   refine q_keys ?_
   walk_at "g"
   refine q_keysE lkd.at_ ?_
   have hlen : kb.length = h.length := by rw [tkb.length]; unfold hK; rw [List.length_map]
   have L0 : Lk1 H b kb od Hl := ⟨fun c o e n => lkd.l1.keep c o (s3 c o e) n, lkd.at_⟩
   refine for_keysS (kvs := kb) (fun i σ H1 => ∃ (v2 : Option V), σ = [some (.ref a), some (.ref b), v2] ∧ Lk1 H b kb od H1) ?_ ?_ ?_ ?_
   · exact ⟨none, rfl, L0⟩
   · rintro i σ H1 _ ⟨v2, rfl, l⟩
     exact l.at_
   · rintro i k v σ H1 hkv ⟨v2, rfl, l1⟩
     obtain ⟨d0, g1, g2⟩ := Tk.at tkb hkv
     obtain ⟨n, t, hn, rfl, rfl⟩ := hK_at g1
     have hm := mem_at hn
     have wft := wf.tab _ hm
     have ft : t.length ≤ 60 := fit _ hm
     have hlk : lk h n = some t := lk_of_mem wf.nd hm
     obtain ⟨qa, ea, hva, _, hqa, tqa⟩ := T.tab tka hlk
     obtain ⟨qb, eb, hvb, _, hqb, tqb⟩ := T.tab tkb hlk
     have rs := l1.rs hrb
     walk_at "g"
     refine q_ixK (.inr n) (rs.dk hra) hva ?_
     walk_at "g"
     refine q_isiD (rs.dk hqa) ?_
     walk_at "g"
     refine q_ixK (.inr n) (rs.dk hra) hva ?_
     walk_at "g"
     refine q_listK (rs.dk hqa) fun p hp => ?_
     have s4 := same_new (o := .lst (ea.map fun kv => kV kv.1)) hp
     have rs4 := rs.trans (RS.of s4)
     walk_at "g"
     refine q_ixK (.inr n) (rs4.dk hrb) hvb ?_
     walk_at "g"
     refine q_sortD (ks := nms t) (rs4.dk hqb) (by rw [tqb.keys, keys_tK]) (by rw [nms_len]; omega) fun q hq2 => ?_
     have s5 := same_new (o := .lst ((srt (nms t)).map V.str)) hq2
     have rs5 := rs4.trans (RS.of s5)
     refine q_neStrs (ss := nms t) (by rw [← keysV (tqa.keys.trans (keys_tK t))]; exact Sm.sqL s5 sq_new) (by rw [srt_of_asc (asc _ hm)]; exact sq_new) ?_
     walk_at "g"
     refine q_ixK (.inr n) (rs5.dk hra) hva ?_
     walk_at "g"
     refine q_ixK (.inr n) (rs5.dk hrb) hvb ?_
     refine q_neTab (rs5.dk hqa) (rs5.dk hqb) (tqa.rs rs5) (tqb.rs rs5) wft.1 (wf.ent sm hm) ?_
     walk_at "g"
     exact ⟨_, rfl, (l1.same s4).same s5⟩
   · rintro σ H1 ⟨v2, rfl, l1⟩
     refine hD'.nx _ _ l1.at_ ?_
     walk_at "g"
     exact hq _ (l1.out lkd s3)
  case len =>
   obtain ⟨N1, N2, a, b, h, rfl, _⟩ := h
   rfl

abbrev keysL : List Str := ["t", "lanes", "a0"]
abbrev namesL : List Str := ["c", "a", "b10", "b9"]
/-- a house that is drawn -/
structure HG (h : Hs) : Prop where
  wf : Wf h
  keys : ∃ n, 1 ≤ n ∧ n ≤ 3 ∧ nms h = keysL.take n
  ent : ∀ q ∈ h, q.2.length ≤ 4 ∧ ∀ x ∈ q.2, x.1 ∈ namesL ∧ Ent x.2
/-- _law_house(jar, at) -/
def spHouse (K : PySem.W.Frag) : Sp := fun vs H Q _ => ∃ (j a : Addr) (p : Int), vs = [.ref j, .ref a] ∧ Rnd H j a p ∧ p + 200 ≤ lim ∧
  ∀ r h H' p', Kp a H H' → Rnd H' j a p' → p ≤ p' → p' ≤ p + 200 → H r = none → Own K (fun b => H b = none) H' r h → HG h → Q (.ref r) H'
theorem keysL_nd : keysL.Nodup := by decide +kernel
theorem namesL_nd : namesL.Nodup := by decide +kernel
theorem sc_law_house : FnScope ["jar", "at", "house", "key", "name"] ["jar", "at"] (defScope s_law_house) := ⟨rfl, rfl, rfl, by decide +kernel, rfl, by decide +kernel, by decide +kernel⟩
theorem d_law_house (B : Bt mg) (F : TopF K mg "_law_house" s_law_house ["jar", "at"]) (D_law_draw : Df P w K mg base "_law_draw" ["jar", "at", "many"] 1 (spDraw)) (D_law_entry : Df P w K mg base "_law_entry" ["jar", "at"] 2 (spEnt K)) : Df P w K mg base "_law_house" ["jar", "at"] 3 (spHouse K) := by
  refine F.df sc_law_house (fun vs H Q E h => ?len) (fun f cdv A outer s H vs Q E hr h => ?body)
  case body =>
   have hu := hr.units
   refine ⟨_, (pss_cons (ps_set (i := 2) sc_law_house.nd rfl (Or.inl rfl) pe_dnewK)
      (pss_cons (ps_lockU (ps_for (passes_of rfl) rfl (k_walk (K := K) rfl (pe_slice (k_sl (K := K) rfl) (pe_lst (pa_cons pe_str (pa_cons pe_str (pa_cons pe_str pa_nil)))) po_none (po_some (pe_op (k_add (K := K) rfl) pe_int (pe_df D_law_draw (hr.mono (by decide)) (fun σ => passAt (takes_of rfl rfl rfl rfl) σ) (pa_cons (pv 0) (pa_cons (pv 1) (pa_cons pe_int pa_nil)))))))) (pg_name (i := 3) sc_law_house.nd rfl (Or.inl rfl))
      (pss_cons (ps_asg pe_dnewK (pg_sub (pv 2) (pv 3) (set_any hu)))
      (pss_one (ps_lockU (ps_for (passes_of rfl) rfl (k_walk (K := K) rfl (pe_lst (pa_cons pe_str (pa_cons pe_str (pa_cons pe_str (pa_cons pe_str pa_nil)))))) (pg_name (i := 4) sc_law_house.nd rfl (Or.inl rfl))
      (pss_one (ps_if (pt_cmpR (k_eq (K := K) rfl hu) (pe_df D_law_draw (hr.mono (by decide)) (fun σ => passAt (takes_of rfl rfl rfl rfl) σ) (pa_cons (pv 0) (pa_cons (pv 1) (pa_cons pe_int pa_nil)))) pe_int (nomark _))
      (pss_one (ps_asg (pe_df D_law_entry (hr.mono (by decide)) (fun σ => passAt (takes_of rfl rfl rfl rfl) σ) (pa_cons (pv 0) (pa_cons (pv 1) pa_nil))) (pg_sub (pe_ix (k_ix (K := K) rfl hu) (pv 2) (pv 3) (fun _ _ => rfl)) (pv 4) (set_any hu))))
      pss_nil))))))))
      (pss_one (ps_ret (pv 2))))), ?_⟩
   obtain ⟨j, a, p, rfl, hR, hp, hq⟩ := h
   have p0 := hR.p0
   walk_at "g"
   intro r hr0
   obtain ⟨rj, ra⟩ := hR.ja hr0
   have s1 : Same H (upd H r (.dK [])) := same_new hr0
   walk_at "g"
   refine .inl ?_
   walk_at "g"
   refine q_items ?_
   walk_at "g"
   intro pl0 hpl0
   rw [show [V.str (PySem.Str.ofString "t"), V.str (PySem.Str.ofString "lanes"), V.str (PySem.Str.ofString "a0")] = keysL.map V.str from rfl]
   have s2 : Same (upd H r (.dK [])) (upd (upd H r (.dK [])) pl0 (.lst (keysL.map V.str))) := same_new hpl0
   have hpl0' : H pl0 = none := s1.free hpl0
   walk_at "g"
   refine ⟨j, a, p, 3, rfl, hR.same (s1.trans s2), by omega, by decide, fun v p1 v0 v1 h1 h2 => ?_⟩
   have R2 := (hR.same (s1.trans s2)).set (p' := p1) (by omega)
   walk_at "g"
   have e3 : (upd (upd (upd H r (.dK [])) pl0 (.lst (keysL.map V.str))) a (.lst [.int p1])) pl0 = some (.lst (keysL.map V.str)) := by
     rw [upd_ne (hR.ja hpl0').2, upd_same]
   have k2 : Kp a H (upd (upd (upd H r (.dK [])) pl0 (.lst (keysL.map V.str))) a (.lst [.int p1])) := (Kp.of (s1.trans s2)).trans Kp.upd
   have er : (upd (upd (upd H r (.dK [])) pl0 (.lst (keysL.map V.str))) a (.lst [.int p1])) r = some (.dK []) := by
     rw [upd_ne ra]
     exact s2 _ _ upd_same
   generalize upd (upd (upd H r (.dK [])) pl0 (.lst (keysL.map V.str))) a (.lst [.int p1]) = Hb at R2 e3 k2 er
   refine q_slL (.inl (.inl e3)) fun pl hpl => ?_
   obtain ⟨n, hn1, hn3, hcut⟩ : ∃ n, 1 ≤ n ∧ n ≤ 3 ∧ cutV (keysL.map V.str) none (some (1 + v)) = (keysL.take n).map V.str := by
     refine ⟨(1 + v).toNat, by omega, by omega, ?_⟩
     have : (1 + v) = (((1 + v).toNat : Nat) : Int) := by omega
     rw [this]
     exact cutV_take (by show (1 + v).toNat ≤ 3; omega)
   rw [hcut]
   have s4 : Same Hb (upd Hb pl (.lst ((keysL.take n).map V.str))) := same_new hpl
   have hplf : H pl = none := k2.fresh R2.at_ hpl
   have R3 := R2.same s4
   have k3 := k2.trans (Kp.of s4)
   have e4 := s4 _ _ er
   have e5 : (upd Hb pl (.lst ((keysL.take n).map V.str))) pl = some (.lst ((keysL.take n).map V.str)) := upd_same
   generalize upd Hb pl (.lst ((keysL.take n).map V.str)) = Hc at R3 k3 e4 e5
   have hNa : ∀ b, H b = none → b ≠ a := fun b e z => (hR.ja e).2 z
   have klen : (keysL.take n).length = n := by rw [List.length_take]; show min n 3 = n; omega
   refine q_itemsE (.inl (.inl e5)) ?_
   refine for_items (xs := (keysL.take n).map V.str) (fun i σ Hi => ∃ (v3 v4 : Option V) (hi : Hs) (pi : Int), σ = [some (.ref j), some (.ref a), some (.ref r), v3, v4] ∧ Kp a H Hi ∧ Rnd Hi j a pi ∧ p ≤ pi ∧ pi ≤ p + 1 + i * 20 ∧ Hi pl = some (.lst ((keysL.take n).map V.str)) ∧
     Own K (fun b => H b = none) Hi r hi ∧ nms hi = keysL.take i ∧ Wf hi ∧ ∀ q ∈ hi, q.2.length ≤ 4 ∧ ∀ x ∈ q.2, x.1 ∈ namesL ∧ Ent x.2) ?_ ?_ ?_ ?_
   · exact ⟨none, none, [], p1, rfl, k3, R3, h1, by omega, e5, Own.nil e4 hr0, rfl, ⟨List.nodup_nil, fun p hp => nomatch hp⟩, fun q hq => nomatch hq⟩
   · rintro i σ Hi _ ⟨v3, v4, hi, pi, rfl, _, _, _, _, e, _⟩
     exact .inl (.inl e)
   · rintro i x σ Hi hx ⟨v3, v4, hi, pi, rfl, ki, Ri, g1, g2, ei, oi, nmi, wfi, enti⟩
     obtain ⟨key, hkey, rfl⟩ := hlist_at hx
     have hin : i < n := by
       have := (List.getElem?_eq_some_iff.mp hkey).1
       rw [klen] at this
       exact this
     have hkey2 : keysL[i]? = some key := by
       rw [List.getElem?_take_of_lt hin] at hkey
       exact hkey
     have nk : key ∉ nms hi := by
       rw [nmi]
       exact nd_at keysL_nd hkey2
     have hil : hi.length ≤ 3 := by rw [← nms_len, nmi, List.length_take]; exact Nat.min_le_right _ _
     walk_at "g"
     intro q hqn
     have hqf : H q = none := ki.fresh Ri.at_ hqn
     obtain ⟨kvs2, c1, c2, c3⟩ := oi.push (t := []) nk hqn hqf (same_new hqn) upd_same .nil
     walk_at "g"
     refine q_setD (.inr key) c1 (by rw [c2]; exact len_small (by omega)) ?_
     have kj : Kp a H (upd (upd Hi q (.dK [])) r (.dK (putK kvs2 (.inr key) (.ref q)))) := (ki.trans (Kp.of (same_new hqn))).new hr0
     have Rj : Rnd (upd (upd Hi q (.dK [])) r (.dK (putK kvs2 (.inr key) (.ref q)))) j a pi := (Ri.same (same_new hqn)).upd c1 rj ra
     have ej : (upd (upd Hi q (.dK [])) r (.dK (putK kvs2 (.inr key) (.ref q)))) pl = some (.lst ((keysL.take n).map V.str)) := sq_ne (same_new (o := .dK []) hqn _ _ ei) c1 (fun z => nomatch z)
     generalize upd (upd Hi q (.dK [])) r (.dK (putK kvs2 (.inr key) (.ref q))) = Hj at c3 kj Rj ej
     walk_at "g"
     refine .inl ?_
     walk_at "g"
     refine q_items ?_
     walk_at "g"
     intro p2 hp2
     have s6 : Same Hj (upd Hj p2 (.lst (namesL.map V.str))) := same_new hp2
     have hp2f := kj.fresh Rj.at_ hp2
     refine q_itemsE (xs := namesL.map V.str) sq_new ?_
     refine for_items (xs := namesL.map V.str) (fun k σ Hk => ∃ (v4 : Option V) (tk : Tab) (pk : Int), σ = [some (.ref j), some (.ref a), some (.ref r), some (.str key), v4] ∧ Kp a H Hk ∧ Rnd Hk j a pk ∧ p ≤ pk ∧ pk ≤ p + 1 + i * 20 + k * 4 ∧ Hk pl = some (.lst ((keysL.take n).map V.str)) ∧
       Hk p2 = some (.lst (namesL.map V.str)) ∧ Own K (fun b => H b = none) Hk r (hi ++ [(key, tk)]) ∧ (nms tk).Sublist (namesL.take k) ∧ ∀ x ∈ tk, x.1 ∈ namesL ∧ Ent x.2) ?_ ?_ ?_ ?_
     · exact ⟨v4, [], pi, rfl, kj.trans (Kp.of s6), Rj.same s6, g1, by omega, s6 _ _ ej, upd_same, c3.mono s6, List.nil_sublist _, fun x hx => nomatch hx⟩
     · rintro k σ Hk _ ⟨v4, tk, pk, rfl, _, _, _, _, _, e, _⟩
       exact .inl (.inl e)
     · rintro k x σ Hk hx2 ⟨v4, tk, pk, rfl, kk, Rk, d1, d2, ek, ek2, ok, sub, enk⟩
       obtain ⟨m, hm, rfl⟩ := hlist_at hx2
       have hk4 : k < 4 := (List.getElem?_eq_some_iff.mp hm).1
       walk_at "g"
       refine ⟨j, a, pk, 2, rfl, Rk, by omega, by decide, fun w p4 w0 w1 d3 d4 => ?_⟩
       have R5 := Rk.set (p' := p4) (by omega)
       have k5 : Kp a H (upd Hk a (.lst [.int p4])) := kk.trans Kp.upd
       have o5 := ok.kp (Kp.upd (a := a) (o := .lst [.int p4])) Rk.at_ hNa
       have e5 : (upd Hk a (.lst [.int p4])) pl = some (.lst ((keysL.take n).map V.str)) := by
         rw [upd_ne (hNa pl hplf)]
         exact ek
       have e6 : (upd Hk a (.lst [.int p4])) p2 = some (.lst (namesL.map V.str)) := by
         rw [upd_ne (hNa p2 hp2f)]
         exact ek2
       generalize upd Hk a (.lst [.int p4]) = Hm at R5 k5 o5 e5 e6
       have sub' : (nms tk).Sublist (namesL.take (k + 1)) := sub.trans (by rw [take_more hm]; exact List.sublist_append_left _ _)
       walk_at "g"
       refine q_dec (fun _ => ?_) (fun _ => ?_)
       · walk_at "g"
         refine ⟨j, a, p4, rfl, R5, by omega, fun vd d H7 p7 hent k7 R7 f1 f2 td => ?_⟩
         have o7 := o5.kp k7 R5.at_ hNa
         obtain ⟨kv7, q7, es7, a1, a2, a3, a4, a5, a6, a7, back⟩ := o7.at (lk_snoc nk)
         have nm : m ∉ nms tk := fun z => nd_at namesL_nd hm (sub.subset z)
         have hlt : tk.length ≤ 4 := by
           have := sub.length_le
           rw [nms_len, List.length_take] at this
           omega
         walk_at "g"
         refine q_ixK (.inr key) (.inl a1) a2 ?_
         walk_at "g"
         refine q_setD (.inr m) a3 ?_ ?_
         · rw [a4.length]
           unfold tK
           rw [List.length_map]
           exact len_small (by omega)
         have nk7 : (Sum.inr m : Key) ∉ es7.map (·.1) := by
           rw [a4.keys, keys_tK]
           exact fun z => nm (inr_mem.mp z)
         have t8 : Tk K H7 ff (putK es7 (.inr m) vd) (tK (tk ++ [(m, d)])) := by
           rw [putK_fresh nk7, tK_snoc]
           exact a4.append (Tk.cons (k := Sum.inr m) td .nil)
         have o8 := back _ _ t8
         rw [put_snoc nk] at o8
         have e8 := k7 _ _ (hNa pl hplf) e5
         have e9 := k7 _ _ (hNa p2 hp2f) e6
         obtain ⟨qj, qa⟩ := hR.ja a5
         refine ⟨_, tk ++ [(m, d)], p7, rfl, (k5.trans k7).new a5, R7.upd a3 qj qa, by omega, by omega, sqL_dk a3 e8, sqL_dk a3 e9, o8, ?_, fun x hx => ?_⟩
         · rw [nms_append, take_more hm]
           exact sub.append (List.Sublist.refl _)
         · rcases List.mem_append.mp hx with hx | hx
           · exact enk x hx
           · rw [List.mem_singleton.mp hx]
             exact ⟨mem_at hm, hent⟩
       · walk_at "g"
         exact ⟨_, tk, p4, rfl, k5, R5, by omega, by omega, e5, e6, o5, sub', enk⟩
     · rintro σ Hk ⟨v4, tk, pk, rfl, kk, Rk, d1, d2, ek, ek2, ok, sub, enk⟩
       have d2' : pk ≤ p + 1 + i * 20 + 4 * 4 := d2
       have hlt : tk.length ≤ 4 := by
         have := sub.length_le
         rw [nms_len, List.length_take] at this
         exact Nat.le_trans this (Nat.min_le_right _ _)
       refine ⟨some (.str key), v4, hi ++ [(key, tk)], pk, rfl, kk, Rk, d1, by omega, ek, ok, ?_, ⟨?_, fun q hq => ?_⟩, fun q hq => ?_⟩
       · rw [nms_append, nmi, take_more hkey2]
         rfl
       · have z : nms (hi ++ [(key, tk)]) = keysL.take (i + 1) := by
           rw [nms_append, nmi, take_more hkey2]
           rfl
         rw [z]
         exact keysL_nd.sublist (List.take_sublist _ _)
       · rcases List.mem_append.mp hq with hq | hq
         · exact wfi.tab q hq
         · rw [List.mem_singleton.mp hq]
           exact ⟨(namesL_nd.sublist (List.take_sublist _ _)).sublist sub, fun x hx => (enk x hx).2.imm⟩
       · rcases List.mem_append.mp hq with hq | hq
         · exact enti q hq
         · rw [List.mem_singleton.mp hq]
           exact ⟨hlt, enk⟩
   · rintro σ Hi ⟨v3, v4, hi, pi, rfl, ki, Ri, g1, g2, ei, oi, nmi, wfi, enti⟩
     rw [List.length_map, klen] at nmi g2
     walk_at "g"
     exact hq r hi Hi pi ki Ri g1 (by omega) hr0 oi ⟨wfi, ⟨n, hn1, hn3, nmi⟩, enti⟩
  case len =>
   obtain ⟨j, a, p, rfl, _⟩ := h
   rfl

abbrev names5 : List Str := ["c", "a", "b10", "b9", "e"]
theorem names5_nd : names5.Nodup := by decide +kernel
/-- an edit that is drawn for a house -/
structure EdG (h : Hs) (e : Ed) : Prop where
  key : e.key ∈ nms h
  name : e.name ∈ names5
  ent : ∀ k n x, e = .put k n x → Ent x
theorem EdG.imm {h : Hs} {e : Ed} (g : EdG h e) : e.Imm := by
  cases e with
  | put k n x => exact (g.ent k n x rfl).imm
  | drop k n => trivial
theorem HG.fit {h : Hs} (g : HG h) : Fits 4 h := fun q hq => (g.ent q hq).1
theorem HG.len {h : Hs} (g : HG h) : 1 ≤ h.length ∧ h.length ≤ 3 := by
  obtain ⟨n, h1, h2, h3⟩ := g.keys
  have : h.length = min n 3 := by rw [← nms_len, h3, List.length_take]; rfl
  omega
/-- a house for which edits are drawn -/
structure HE (h : Hs) : Prop where
  wf : Wf h
  fit : Fits 20 h
  len : 1 ≤ h.length ∧ h.length ≤ 3
theorem HG.he {h : Hs} (g : HG h) : HE h := ⟨g.wf, fun q hq => Nat.le_trans (g.fit q hq) (by decide), g.len⟩
/-- _law_edits(jar, at, house, many) -/
def spEds (K : PySem.W.Frag) : Sp := fun vs H Q _ => ∃ (N : Addr → Prop) (j a r : Addr) (p : Int) (h : Hs) (many : Nat), vs = [.ref j, .ref a, .ref r, .int many] ∧ Rnd H j a p ∧ p + 100 ≤ lim ∧ many ≤ 10 ∧ (∀ b, N b → b ≠ a) ∧ T K H N (.ref r) (.dic (hK h)) ∧ HE h ∧
  ∀ l H' p' xs es, Kp a H H' → Rnd H' j a p' → p ≤ p' → p' ≤ p + 100 → H l = none → H' l = some (.lst xs) → Ts K H' ff xs (es.map Ed.tr) → es.length = many → (∀ e ∈ es, EdG h e) → (∃ f, appAll (cpH h) es = .ok f) → Q (.ref l) H'
theorem sc_law_edits : FnScope ["jar", "at", "house", "many", "edits", "shape", "k", "keys", "key", "name"] ["jar", "at", "house", "many"] (defScope s_law_edits) := ⟨rfl, rfl, rfl, by decide +kernel, rfl, by decide +kernel, by decide +kernel⟩
theorem d_law_edits (B : Bt mg) (F : TopF K mg "_law_edits" s_law_edits ["jar", "at", "house", "many"]) (D_law_after : Df P w K mg base "_law_after" ["house", "edit"] 3 (spAF K)) (D_law_draw : Df P w K mg base "_law_draw" ["jar", "at", "many"] 1 (spDraw)) (D_law_entry : Df P w K mg base "_law_entry" ["jar", "at"] 2 (spEnt K)) (D_law_copy : Df P w K mg base "_law_copy" ["house"] 1 (spCH K)) : Df P w K mg base "_law_edits" ["jar", "at", "house", "many"] 4 (spEds K) := by
  refine F.df sc_law_edits (fun vs H Q E h => ?len) (fun f cdv A outer s H vs Q E hr h => ?body)
  case body =>
   have hu := hr.units
   refine ⟨_, (pss_cons (ps_set (i := 4) sc_law_edits.nd rfl (Or.inl rfl) (pe_lst pa_nil))
      (pss_cons (ps_set (i := 5) sc_law_edits.nd rfl (Or.inl rfl) (pe_df D_law_copy (hr.mono (by decide)) (fun σ => passAt (takes_of rfl rfl rfl rfl) σ) (pa_cons (pv 2) pa_nil)))
      (pss_cons (ps_for (passes_of rfl) rfl (pi_range1 (by rfl) B.b_range (pa_cons (pv 3) pa_nil)) (pg_name (i := 6) sc_law_edits.nd rfl (Or.inl rfl))
      (pss_cons (ps_set (i := 7) sc_law_edits.nd rfl (Or.inl rfl) (pe_callTy (k_list (K := K) rfl rfl) (by rfl) B.b_list (by decide +kernel) (pa_cons (pv 2) pa_nil)))
      (pss_cons (ps_set (i := 8) sc_law_edits.nd rfl (Or.inl rfl) (pe_ix (k_ix (K := K) rfl hu) (pv 7) (pe_df D_law_draw (hr.mono (by decide)) (fun σ => passAt (takes_of rfl rfl rfl rfl) σ) (pa_cons (pv 0) (pa_cons (pv 1) (pa_cons (pe_callB (k_len (K := K) rfl) (by rfl) B.b_len (by decide +kernel) (pa_cons (pv 7) pa_nil)) pa_nil)))) (fun _ _ => rfl)))
      (pss_cons (ps_set (i := 9) sc_law_edits.nd rfl (Or.inl rfl) (pe_ix (k_ix (K := K) rfl hu) (pe_lst (pa_cons pe_str (pa_cons pe_str (pa_cons pe_str (pa_cons pe_str (pa_cons pe_str pa_nil)))))) (pe_df D_law_draw (hr.mono (by decide)) (fun σ => passAt (takes_of rfl rfl rfl rfl) σ) (pa_cons (pv 0) (pa_cons (pv 1) (pa_cons pe_int pa_nil)))) (fun _ _ => rfl)))
      (pss_cons (ps_if (PW.pt (pw_and (pt_cmpR (k_eq (K := K) rfl hu) (pe_df D_law_draw (hr.mono (by decide)) (fun σ => passAt (takes_of rfl rfl rfl rfl) σ) (pa_cons (pv 0) (pa_cons (pv 1) (pa_cons pe_int pa_nil)))) pe_int (nomark _)) (pw_and1 (pt_cmpR (k_in (K := K) rfl hu) (pv 9) (pe_ix (k_ix (K := K) rfl hu) (pv 5) (pv 8) (fun _ _ => rfl)) (by rfl)))))
      (pss_one (ps_expr (k_append (K := K) rfl (pv 4) (pa_cons (pe_tup (pa_cons pe_str (pa_cons (pv 8) (pa_cons (pv 9) pa_nil)))) pa_nil))))
      (pss_one (ps_expr (k_append (K := K) rfl (pv 4) (pa_cons (pe_tup (pa_cons pe_str (pa_cons (pv 8) (pa_cons (pv 9) (pa_cons (pe_df D_law_entry (hr.mono (by decide)) (fun σ => passAt (takes_of rfl rfl rfl rfl) σ) (pa_cons (pv 0) (pa_cons (pv 1) pa_nil))) pa_nil))))) pa_nil)))))
      (pss_one (ps_set (i := 5) sc_law_edits.nd rfl (Or.inl rfl) (pe_df D_law_after (hr.mono (by decide)) (fun σ => passAt (takes_of rfl rfl rfl rfl) σ) (pa_cons (pv 5) (pa_cons (pe_ix (k_ix (K := K) rfl hu) (pv 4) (pe_op op_sub (pe_callB (k_len (K := K) rfl) (by rfl) B.b_len (by decide +kernel) (pa_cons (pv 4) pa_nil)) pe_int) (fun _ _ => rfl)) pa_nil))))))))))
      (pss_one (ps_ret (pv 4)))))), ?_⟩
   obtain ⟨N, j, a, r, p, h, many, rfl, hR, hp, hmany, hNa, ho, hG, hq⟩ := h
   have p0 := hR.p0
   obtain ⟨hl1, hl3⟩ := hG.len
   walk_at "g"
   intro l hl
   have s1 : Same H (upd H l (.lst [])) := same_new hl
   walk_at "g"
   refine ⟨N, r, h, rfl, ho.mono s1, hG.wf, fun q hq => Nat.le_trans (hG.fit q hq) (by decide), by omega, fun sh H1 s2 o1 => ?_⟩
   have el : H1 l = some (.lst []) := s2 _ _ upd_same
   have o1' := o1.imp (N' := fun b => H b = none ∧ b ≠ l) fun b e => ⟨s1.free e, fun z => by
     rw [z, upd_same] at e
     cases e⟩
   have s12 := s1.trans s2
   have hja := hR.ja hl
   have hlen : (nms h).length = h.length := nms_len h
   walk_at "g"
   refine ⟨.int many, rfl, many, rfl, ?_, ?_, ?_⟩
   · omega
   · omega
   refine for_rng (lo := 0) (n := many) (fun i σ Hi => ∃ (g : Addr) (v6 v7 v8 v9 : Option V) (pi : Int) (xs : List V) (es : List Ed) (f : Hs), σ = [some (.ref j), some (.ref a), some (.ref r), some (.int many), some (.ref l), some (.ref g), v6, v7, v8, v9] ∧ Kp a H Hi ∧ Rnd Hi j a pi ∧ p ≤ pi ∧ pi ≤ p + 10 * i ∧
     Hi l = some (.lst xs) ∧ Ts K Hi ff xs (es.map Ed.tr) ∧ es.length = i ∧ (∀ e ∈ es, EdG h e) ∧ Own K (fun b => H b = none ∧ b ≠ l) Hi g (cpH f) ∧ appAll (cpH h) es = .ok f) ?_ ?_ ?_
   · exact ⟨sh, none, none, none, none, p, [], [], cpH h, rfl, Kp.of s12, hR.same s12, by omega, by omega, el, .nil, rfl, (fun e m => nomatch m), by rw [cp_cp hG.wf]; exact o1', rfl⟩
   · rintro i σ Hi hi ⟨g, v6, v7, v8, v9, pi, xs, es, f, rfl, ki, Ri, g1, g2, ei, ti, li, hes, oi, ai⟩
     obtain ⟨wf, ft, nf⟩ := appAll_ok hG.wf.cp (fun e m => (hes e m).imm) hG.fit.cp ai
     rw [nms_cp] at nf
     have hxl : xs.length = i := by rw [ti.length, List.length_map, li]
     have fin : ∀ {Hx : Hp} {e : Ed} {u : V} {Q5 : VK} {E5 : XK}, Own K (fun b => H b = none ∧ b ≠ l) Hx g (cpH f) → T K Hx ff u e.tr → EdG h e → (∃ f', app1 f e = .ok f') →
         (∀ f' r2 H2, app1 f e = .ok f' → Same Hx H2 → Own K (fun b => Hx b = none) H2 r2 (cpH f') → Q5 (.ref r2) H2) → spAF K [.ref g, u] Hx Q5 E5 := fun {Hx e u Q5 E5} o tu eg ⟨f', hf'⟩ hk => by
       obtain ⟨g', hg', hc⟩ := app1_cp wf wf.cp (cp_cp wf).symm hf'
       exact ⟨_, g, u, cpH f, g', e, rfl, o.T, tu, wf.cp, eg.imm, fun q hq => Nat.le_trans (ft.cp q hq) (by omega), by rw [len_cp, len_of_nms nf]; omega, by rw [cp_cp wf]; exact hg', fun r2 H2 s2 o2 => hk f' r2 H2 hf' s2 (by rw [hc]; exact o2)⟩
     obtain ⟨_, kvs, e9, _, er, tk9⟩ := (ho.kp (N' := N) ki hR.at_ fun b n => ⟨n, hNa b n⟩).dicAt
     cases e9
     have ek : kvs.map (·.1) = (nms h).map Sum.inr := by rw [tk9.keys, keys_hK]
     walk_at "g"
     refine q_listK er fun q hq1 => ?_
     rw [keysV ek]
     have s3 : Same Hi (upd Hi q (.lst ((nms h).map V.str))) := same_new hq1
     have hqH : H q = none := ki.fresh Ri.at_ hq1
     walk_at "g"
     refine q_lenL sq_new ?_
     walk_at "g"
     rw [List.length_map]
     refine ⟨j, a, pi, _, rfl, Ri.same s3, by omega, by omega, fun v p1 v0 v1 h1 h2 => ?_⟩
     have R2 := (Ri.same s3).set (p' := p1) (by omega)
     have k2 : Kp a H (upd (upd Hi q (.lst ((nms h).map V.str))) a (.lst [.int p1])) := (ki.trans (Kp.of s3)).trans Kp.upd
     have e2 : (upd (upd Hi q (.lst ((nms h).map V.str))) a (.lst [.int p1])) q = some (.lst ((nms h).map V.str)) := by rw [upd_ne (hR.ja hqH).2, upd_same]
     have el2 : (upd (upd Hi q (.lst ((nms h).map V.str))) a (.lst [.int p1])) l = some (.lst xs) := by rw [upd_ne hja.2]; exact s3 _ _ ei
     have t2 := (ti.mono s3).kp (N' := ff) (Kp.upd (a := a) (o := .lst [.int p1])) (s3 _ _ Ri.at_) fun _ z => z.elim
     have o2 := (oi.mono s3).kp (Kp.upd (a := a) (o := .lst [.int p1])) (s3 _ _ Ri.at_) fun b z => (hR.ja z.1).2
     generalize upd (upd Hi q (.lst ((nms h).map V.str))) a (.lst [.int p1]) = Ha at R2 k2 e2 el2 t2 o2
     obtain ⟨key, hkey, hat⟩ := atS v0 v1
     refine q_ixL (.inl (.inl e2)) hat ?_
     walk_at "g"
     intro q5 hq5
     rw [show [V.str (PySem.Str.ofString "c"), V.str (PySem.Str.ofString "a"), V.str (PySem.Str.ofString "b10"), V.str (PySem.Str.ofString "b9"), V.str (PySem.Str.ofString "e")] = names5.map V.str from rfl]
     have s4 : Same Ha (upd Ha q5 (.lst (names5.map V.str))) := same_new hq5
     have hq5H : H q5 = none := k2.fresh R2.at_ hq5
     walk_at "g"
     refine ⟨j, a, p1, 5, rfl, R2.same s4, by omega, by decide, fun v' p2 w0 w1 h3 h4 => ?_⟩
     have R3 := (R2.same s4).set (p' := p2) (by omega)
     have k3 : Kp a H (upd (upd Ha q5 (.lst (names5.map V.str))) a (.lst [.int p2])) := (k2.trans (Kp.of s4)).trans Kp.upd
     have e3 : (upd (upd Ha q5 (.lst (names5.map V.str))) a (.lst [.int p2])) q5 = some (.lst (names5.map V.str)) := by rw [upd_ne (hR.ja hq5H).2, upd_same]
     have el3 : (upd (upd Ha q5 (.lst (names5.map V.str))) a (.lst [.int p2])) l = some (.lst xs) := by rw [upd_ne hja.2]; exact s4 _ _ el2
     have t3 := (t2.mono s4).kp (N' := ff) (Kp.upd (a := a) (o := .lst [.int p2])) (s4 _ _ R2.at_) fun _ z => z.elim
     have o3 := (o2.mono s4).kp (Kp.upd (a := a) (o := .lst [.int p2])) (s4 _ _ R2.at_) fun b z => (hR.ja z.1).2
     generalize upd (upd Ha q5 (.lst (names5.map V.str))) a (.lst [.int p2]) = Hb at R3 k3 e3 el3 t3 o3
     obtain ⟨name, hname, hat2⟩ := atS (ss := names5) w0 w1
     refine q_ixL (.inl (.inl e3)) hat2 ?_
     walk_at "g"
     refine ⟨j, a, p2, 3, rfl, R3, by omega, by decide, fun v3 p3 x0 x1 h5 h6 => ?_⟩
     have R4 := R3.set (p' := p3) (by omega)
     have k4 : Kp a H (upd Hb a (.lst [.int p3])) := k3.trans Kp.upd
     have el4 : (upd Hb a (.lst [.int p3])) l = some (.lst xs) := by rw [upd_ne hja.2]; exact el3
     have t4 := t3.kp (N' := ff) (Kp.upd (a := a) (o := .lst [.int p3])) R3.at_ fun _ z => z.elim
     have o4 := o3.kp (Kp.upd (a := a) (o := .lst [.int p3])) R3.at_ fun b z => (hR.ja z.1).2
     generalize upd Hb a (.lst [.int p3]) = Hc at R4 k4 el4 t4 o4
     have hkf : key ∈ nms f := by rw [nf]; exact hkey
     obtain ⟨t, hlk⟩ := lk_mem_nms hkf
     have hlc : lk (cpH f) key = some (ord t) := by rw [lk_cp, hlk]; rfl
     have put_ok : ∀ x, ∃ f', app1 f (.put key name x) = .ok f' := fun x => by
       unfold app1
       rw [show (Ed.put key name x).key = key from rfl, hlk]
       exact ⟨_, rfl⟩
     have last : ∀ {Hx : Hp} {u : V} {e : Ed} {px : Int}, Kp a H Hx → Rnd Hx j a px → Hx l = some (.lst xs) → Ts K Hx ff xs (es.map Ed.tr) → Own K (fun b => H b = none ∧ b ≠ l) Hx g (cpH f) → T K Hx ff u e.tr →
         Kp a H (upd Hx l (.lst (xs ++ [u]))) ∧ Rnd (upd Hx l (.lst (xs ++ [u]))) j a px ∧ Ts K (upd Hx l (.lst (xs ++ [u]))) ff (xs ++ [u]) ((es ++ [e]).map Ed.tr) ∧ Own K (fun b => H b = none ∧ b ≠ l) (upd Hx l (.lst (xs ++ [u]))) g (cpH f) ∧ T K (upd Hx l (.lst (xs ++ [u]))) ff u e.tr := fun {Hx u e px} k R e1 tx o tu => by
       refine ⟨k.new hl, R.upd e1 hja.1 hja.2, ?_, o.keep (keeps_upd (p := l)) (nt_of e1 (fun _ z => nomatch z) fun _ _ z => nomatch z) (fun b z => z.2), tu.upd e1 (fun _ z => nomatch z) (fun _ _ z => nomatch z) fun _ z => z.elim⟩
       rw [List.map_append]
       exact (tx.append (.cons tu .nil)).upd e1 (fun _ z => nomatch z) (fun _ _ z => nomatch z) fun _ z => z.elim
     have grow : ∀ {e : Ed}, EdG h e → (es ++ [e]).length = i + 1 ∧ ∀ x ∈ es ++ [e], EdG h x := fun {e} eg => by
       refine ⟨by rw [List.length_append, li]; rfl, fun x m => ?_⟩
       rcases List.mem_append.mp m with m | m
       · exact hes x m
       · rw [List.mem_singleton.mp m]
         exact eg
     have app : ∀ {e : Ed} {f' : Hs}, app1 f e = .ok f' → appAll (cpH h) (es ++ [e]) = .ok f' := fun {e f'} he => by
       rw [appAll_append, ai]
       exact (appAll_one f e).trans he
     obtain ⟨kg, qg, eg, y1, y2, y3, y4, _⟩ := o4.at hlc
     walk_at "g"
     refine q_two (PP := fun b => b = true → name ∈ nms t) (fun b hb => ?_) (fun _ => ⟨(valV eg (.inr name)).isSome, fun hs => ?_, fun hr => ?_⟩) (fun _ z => by cases z)
     · refine q_ite (fun hbt => ?_) (fun _ => ?_)
       · have hin := hb hbt
         have eG : EdG h (.drop key name) := ⟨hkey, hname, fun _ _ _ z => by cases z⟩
         walk_at "g"
         refine tyL el4 ?_
         walk_at "g"
         intro q9 hq9
         have s9 := same_new (o := .tup [.str "drop", .str key, .str name]) hq9
         have tu : T K (upd Hc q9 (.tup [.str "drop", .str key, .str name])) ff (.ref q9) (Ed.drop key name).tr := .tup st_new (.cons (.str _) (.cons (.str _) (.cons (.str _) .nil)))
         obtain ⟨z1, z2, z3, z4, z5⟩ := last (k4.trans (Kp.of s9)) (R4.same s9) (s9 _ _ el4) (t4.mono s9) (o4.mono s9) tu
         walk_at "g"
         refine q_append (s9 _ _ el4) (len_small (by omega)) ?_
         generalize hHd : upd (upd Hc q9 (.tup [.str "drop", .str key, .str name])) l (.lst (xs ++ [.ref q9])) = Hd at z1 z2 z3 z4 z5
         have el5 : Hd l = some (.lst (xs ++ [.ref q9])) := by rw [← hHd]; exact upd_same
         walk_at "g"
         refine q_lenL (.inl (.inl el5)) ?_
         walk_at "g"
         refine q_ixL (.inl (.inl el5)) atI_last ?_
         walk_at "g"
         refine fin z4 z5 eG ?_ fun f' r2 H2 hf' s5 o5 => ?_
         · unfold app1
           rw [show (Ed.drop key name).key = key from rfl, hlk]
           exact ⟨_, if_pos hin⟩
         · refine ⟨r2, _, _, _, _, p3, _, es ++ [.drop key name], f', rfl, z1.trans (Kp.of s5), z2.same s5, by omega, by omega, s5 _ _ el5, z3.mono s5, (grow eG).1, (grow eG).2, o5.imp fun b e => ⟨z1.fresh z2.at_ e, fun z => ?_⟩, app hf'⟩
           rw [z, el5] at e
           cases e
       · walk_at "g"
         refine tyL el4 ?_
         walk_at "g"
         refine ⟨j, a, p3, rfl, R4, by omega, fun vd d He p4 hent k5 R5 g5 g6 td => ?_⟩
         have el6 : He l = some (.lst xs) := k5 l _ hja.2 el4
         have t6 := t4.kp (N' := ff) k5 R4.at_ fun _ z => z.elim
         have o6 := o4.kp k5 R4.at_ fun b z => (hR.ja z.1).2
         have k6 := k4.trans k5
         have eG : EdG h (.put key name d) := ⟨hkey, hname, fun _ _ _ z => by cases z; exact hent⟩
         walk_at "g"
         intro q9 hq9
         have s9 := same_new (o := .tup [.str "put", .str key, .str name, vd]) hq9
         have tu : T K (upd He q9 (.tup [.str "put", .str key, .str name, vd])) ff (.ref q9) (Ed.put key name d).tr := .tup st_new (.cons (.str _) (.cons (.str _) (.cons (.str _) (.cons (td.mono s9) .nil))))
         obtain ⟨z1, z2, z3, z4, z5⟩ := last (k6.trans (Kp.of s9)) (R5.same s9) (s9 _ _ el6) (t6.mono s9) (o6.mono s9) tu
         walk_at "g"
         refine q_append (s9 _ _ el6) (len_small (by omega)) ?_
         generalize hHd : upd (upd He q9 (.tup [.str "put", .str key, .str name, vd])) l (.lst (xs ++ [.ref q9])) = Hd at z1 z2 z3 z4 z5
         have el5 : Hd l = some (.lst (xs ++ [.ref q9])) := by rw [← hHd]; exact upd_same
         walk_at "g"
         refine q_lenL (.inl (.inl el5)) ?_
         walk_at "g"
         refine q_ixL (.inl (.inl el5)) atI_last ?_
         walk_at "g"
         refine fin z4 z5 eG (put_ok d) fun f' r2 H2 hf' s5 o5 => ?_
         refine ⟨r2, _, _, _, _, p4, _, es ++ [.put key name d], f', rfl, z1.trans (Kp.of s5), z2.same s5, by omega, by omega, s5 _ _ el5, z3.mono s5, (grow eG).1, (grow eG).2, o5.imp fun b e => ⟨z1.fresh z2.at_ e, fun z => ?_⟩, app hf'⟩
         rw [z, el5] at e
         cases e
     · cases e2 : lk t name with
       | none =>
         have := y4.nent (n := name) (by rw [lk_ord]; exact e2)
         rw [this] at hs
         cases hs
       | some d => exact mem_nms (lk_mem e2)
     · walk_at "g"
       refine q_ixK (.inr key) (.inl y1) y2 ?_
       refine q_inD (.inr name) (.inl y3) ?_
       exact ⟨_, rfl, hr⟩
   · rintro σ Hi ⟨g, v6, v7, v8, v9, pi, xs, es, f, rfl, ki, Ri, g1, g2, ei, ti, li, hes, oi, ai⟩
     walk_at "g"
     exact hq l Hi pi xs es ki Ri g1 (by omega) hl ei ti li hes ⟨f, ai⟩
  case len =>
   obtain ⟨N, j, a, r, p, h, many, rfl, _⟩ := h
   rfl

/-- _law_replay(house, edits), where all edits can be applied -/
def spLR (K : PySem.W.Frag) : Sp := fun vs H Q _ => ∃ (N : Addr → Prop) (a b : Addr) (h f : Hs) (xs : List V) (es : List Ed) (n : Nat), vs = [.ref a, .ref b] ∧ T K H N (.ref a) (.dic (hK h)) ∧ H b = some (.lst xs) ∧ Ts K H ff xs (es.map Ed.tr) ∧ Wf h ∧ (∀ e ∈ es, e.Imm) ∧ Fits n h ∧ n + es.length ≤ 59 ∧ h.length ≤ 40 ∧
  appAll (cpH h) es = .ok f ∧ ∀ r H', Same H H' → Own K (fun z => H z = none) H' r (cpH f) → Q (.ref r) H'
-- _law_replay: 0 house, 1 edits, 2 found, 3 edit
theorem sc_law_replay : FnScope ["house", "edits", "found", "edit"] ["house", "edits"] (defScope s_law_replay) := ⟨rfl, rfl, rfl, by decide +kernel, rfl, by decide +kernel, by decide +kernel⟩
theorem d_law_replay (B : Bt mg) (F : TopF K mg "_law_replay" s_law_replay ["house", "edits"]) (D_law_after : Df P w K mg base "_law_after" ["house", "edit"] 3 (spAF K)) (D_law_copy : Df P w K mg base "_law_copy" ["house"] 1 (spCH K)) : Df P w K mg base "_law_replay" ["house", "edits"] 4 (spLR K) := by
  refine F.df sc_law_replay (fun vs H Q E h => ?len) (fun f cdv A outer s H vs Q E hr h => ?body)
  case body =>
   have hu := hr.units
   refine ⟨_, (pss_cons (ps_set (i := 2) sc_law_replay.nd rfl (Or.inl rfl) (pe_df D_law_copy (hr.mono (by decide)) (fun σ => passAt (takes_of rfl rfl rfl rfl) σ) (pa_cons (pv 0) pa_nil)))
      (pss_cons (ps_lockU (ps_for (passes_of rfl) rfl (k_walk (K := K) rfl (pv 1)) (pg_name (i := 3) sc_law_replay.nd rfl (Or.inl rfl))
      (pss_cons (ps_if (PW.pt (pw_and (pt_cmpR (k_eq (K := K) rfl hu) (pe_ix (k_ix (K := K) rfl hu) (pv 3) pe_int (fun _ _ => rfl)) pe_str (nomark _)) (pw_and1 (pt_cmpR (k_nin (K := K) rfl hu) (pe_ix (k_ix (K := K) rfl hu) (pv 3) pe_int (fun _ _ => rfl)) (pe_ix (k_ix (K := K) rfl hu) (pv 2) (pe_ix (k_ix (K := K) rfl hu) (pv 3) pe_int (fun _ _ => rfl)) (fun _ _ => rfl)) (by rfl)))))
      (pss_one (ps_ret pe_dnewK))
      pss_nil)
      (pss_one (ps_set (i := 2) sc_law_replay.nd rfl (Or.inl rfl) (pe_df D_law_after (hr.mono (by decide)) (fun σ => passAt (takes_of rfl rfl rfl rfl) σ) (pa_cons (pv 2) (pa_cons (pv 3) pa_nil))))))))
      (pss_one (ps_ret (pv 2))))), ?_⟩
   obtain ⟨N, a, b, h, f, xs, es, n, rfl, ha, hb, ts, wf, im, fit, hn, hl, hf, hq⟩ := h
   walk_at "g"
   refine ⟨N, a, h, rfl, ha, wf, fun q hq => Nat.le_trans (fit q hq) (by omega), by omega, fun q H1 s1 o1 => ?_⟩
   walk_at "g"
   refine .inl ?_
   walk_at "g"
   refine q_items ?_
   walk_at "g"
   have xl : xs.length = es.length := by rw [ts.length, List.length_map]
   refine q_itemsE (xs := xs) (.inl (.inl (s1 _ _ hb))) ?_
   refine for_items (xs := xs) (fun i σ Hi => ∃ (q : Addr) (v3 : Option V) (fi : Hs), σ = [some (.ref a), some (.ref b), some (.ref q), v3] ∧ Same H Hi ∧ appAll (cpH h) (es.take i) = .ok fi ∧ Own K (fun z => H z = none) Hi q (cpH fi)) ?_ ?_ ?_ ?_
   · exact ⟨q, none, cpH h, rfl, s1, rfl, by rw [cp_cp wf]; exact o1⟩
   · rintro i σ Hi _ ⟨q, v3, fi, rfl, si, _⟩
     exact .inl (.inl (si _ _ hb))
   · rintro i x σ Hi hx ⟨q, v3, fi, rfl, si, ai, oi⟩
     obtain ⟨d, gd, tx0⟩ := ts.gets hx
     obtain ⟨e, he, rfl⟩ := map_at gd
     have ime := im e (mem_at he)
     have ilt : i < es.length := by
       have := (List.getElem?_eq_some_iff.mp he).1
       exact this
     have imt : ∀ e ∈ es.take i, e.Imm := fun e m => im e (List.mem_of_mem_take m)
     obtain ⟨wi, fti, ni⟩ := appAll_ok wf.cp imt fit.cp ai
     have hlt : (es.take i).length = i := by rw [List.length_take]; omega
     rw [nms_cp] at ni
     obtain ⟨f', hf'⟩ := appAll_next he ai hf
     obtain ⟨g, u, stp, hc, wg, wu, ng, nu⟩ := step_of wi ime hf'
     have fin : ∀ {Q5 : VK} {E5 : XK}, (∀ q2 H3, Same Hi H3 → Own K (fun z => H z = none) H3 q2 (cpH f') → Q5 (.ref q2) H3) → spAF K [.ref q, x] Hi Q5 E5 := fun {Q5 E5} k =>
       ⟨_, q, x, cpH fi, g, e, rfl, oi.T, tx0.mono si, wi.cp, ime, fun q hq => Nat.le_trans (fti.cp q hq) (by omega), by rw [len_cp, len_of_nms ni]; omega, stp.a2, fun q2 H3 s3 o3 => k q2 H3 s3 (by rw [hc]; exact o3.imp fun z e => si.free e)⟩
     have nxt : ∀ {σ' : L2.St} {q2 : Addr} {H3 : Hp}, Same Hi H3 → Own K (fun z => H z = none) H3 q2 (cpH f') → σ' = [some (.ref a), some (.ref b), some (.ref q2), some x] → ∃ (q : Addr) (v3 : Option V) (fi : Hs), σ' = [some (.ref a), some (.ref b), some (.ref q), v3] ∧ Same H H3 ∧ appAll (cpH h) (es.take (i + 1)) = .ok fi ∧ Own K (fun z => H z = none) H3 q (cpH fi) := fun {σ' q2 H3} s3 o3 e9 =>
       ⟨q2, _, f', e9, si.trans s3, by rw [appAll_more he ai]; exact hf', o3⟩
     obtain ⟨bx, rfl, hed⟩ := Ed.at (tx0.mono si)
     cases e with
     | put k m y =>
       obtain ⟨vy, hs, ty⟩ := hed
       walk_at "g"
       walk_at "ix"
       walk_at "g"
       rw [decide_eq_false (by decide)]
       walk_at "g"
       exact fin fun q2 H3 s3 o3 => nxt s3 o3 rfl
     | drop k m =>
       have hs := hed
       walk_at "g"
       walk_at "ix"
       walk_at "g"
       rw [decide_eq_true rfl]
       walk_at "g"
       walk_at "ix"
       walk_at "g"
       cases q1 : lk fi k with
       | none =>
         exfalso
         have z : lk fi (Ed.drop k m).key = none := q1
         simp only [app1, z] at hf'
         cases hf'
       | some t =>
         have lc : lk (cpH fi) k = some (ord t) := by rw [lk_cp, q1]; rfl
         obtain ⟨kvs, qt, et, z1, z2, z3, z4, _⟩ := oi.at lc
         have min : m ∈ nms t := by
           by_cases c : m ∈ nms t
           · exact c
           · exfalso
             have z : lk fi (Ed.drop k m).key = some t := q1
             simp only [app1, z, if_neg c] at hf'
             cases hf'
         obtain ⟨dm, em⟩ := lk_mem_nms min
         obtain ⟨vm, g1, g2⟩ := z4.ent (n := m) (d := dm) (by rw [lk_ord]; exact em)
         walk_at "ix"
         refine q_ixK (.inr k) (.inl z1) z2 ?_
         refine q_ninD (.inr m) (.inl z3) ?_
         rw [g1]
         walk_at "g"
         exact fin fun q2 H3 s3 o3 => nxt s3 o3 rfl
   · rintro σ Hi ⟨q, v3, fi, rfl, si, ai, oi⟩
     rw [xl, List.take_length, hf] at ai
     cases ai
     walk_at "g"
     exact hq q Hi si oi
  case len =>
   obtain ⟨N, a, b, h, f, xs, es, n, rfl, _⟩ := h
   rfl
theorem catch1 {C : Addr} {v : Int} {i : Nat} {Wout : WX} {D : Ends} {σ : L2.St} {H1 : Hp} (te : PySem.W.exmOne K (.ref C) (.ref C) = some true) (hi : i < σ.length) (h : ∀ H', Same H1 H' → D.rt (.int v) H') :
    XSt C v H1 (WE (wAs K (.ref C) i (fun a cls d => tRet (tXf a cls d C "version" (tVar i))) Wout D) σ) := by
  intro d H' s e
  refine ⟨true, te, fun _ a ha => ?_, fun z => by cases z⟩
  have hv : (σ.set i (some (V.ref a)))[i]? = some (some (V.ref a)) := by rw [List.getElem?_set_self hi]
  exact q_ret ⟨_, hv, rfl, rfl, d, _, .int v, rfl, e, rfl, h _ s⟩
/-- _law_stale(past, one, two), where one of the versions is not held -/
def spLS (C : Addr) (K : PySem.W.Frag) : Sp := fun vs H Q _ => ∃ (N : Addr → Prop) (p : Addr) (i j v : Int) (vl : List Ver) (now : Nat), vs = [.ref p, .int i, .int j] ∧ HiAt C K N H p vl now ∧ Chn vl ∧ ((¬ (0 ≤ i ∧ i < vl.length) ∧ v = i) ∨ ((0 ≤ i ∧ i < vl.length) ∧ ¬ (0 ≤ j ∧ j < vl.length) ∧ v = j)) ∧ ∀ H', Same H H' → Q (.int v) H'
theorem sc_law_stale : FnScope ["past", "one", "two", "error"] ["past", "one", "two"] (defScope s_law_stale) := ⟨rfl, rfl, rfl, by decide +kernel, rfl, by decide +kernel, by decide +kernel⟩
theorem d_law_stale (B : Bt mg) (F : TopF K mg "_law_stale" s_law_stale ["past", "one", "two"]) (Kl_History : Kl K mg "History" C_History ["houses", "labels", "lists", "now"]) (X_Stale : Xc P w K mg base "Stale" ["version"] C_Stale) (D_History_way_of : Dm P w K mg base C_History "way_of" ["self", "first", "last"] 7 (spWO C_History C_Stale K)) : Df P w K mg base "_law_stale" ["past", "one", "two"] 8 (spLS C_History K) := by
  refine F.df sc_law_stale (fun vs H Q E h => ?len) (fun f cdv A outer s H vs Q E hr h => ?body)
  case body =>
   have hu := hr.units
   refine ⟨_, (pss_cons (ps_try_as (i := 3) rfl rfl sc_law_stale.nd rfl rfl ⟨rfl, by decide, .inl X_Stale.g⟩ (takes_of rfl rfl rfl rfl) (fun W pn xe tk po => (pss_one (ps_expr (pe_dm (pv 0) Kl_History D_History_way_of (hr.mono (by decide)) (fun σ => passAt tk σ) (pa_cons (pv 1) (pa_cons (pv 2) pa_nil))))))
      (fun a oe cls d pn hz hf => (pss_one (ps_ret (pe_xf X_Stale.xf (X_Stale.no _ (by decide)) hz hf (pv 3))))))
      (pss_one (ps_ret pe_str))), ?_⟩
   obtain ⟨N, p, i, j, v, vl, now, rfl, hh, ch, hv, hq⟩ := h
   have hh0 := hh
   obtain ⟨dx, lh, ll, le, xh, xe, e1, n1, n2, n3, eh, th, eb, el, te⟩ := hh.ex
   walk_at "g"
   refine ⟨p, dx, _, rfl, e1, hfs_no (by decide +kernel), ?_⟩
   walk_at "g"
   refine ⟨N, p, i, j, vl, now, rfl, hh0, ch, fun a b ea eb ha hb => ?_, fun hi => ?_, fun hi hj => ?_⟩
   · exfalso
     rcases hv with ⟨z, _⟩ | ⟨_, z, _⟩
     · exact z ⟨by omega, by omega⟩
     · exact z ⟨by omega, by omega⟩
   · have ev : v = i := by
       rcases hv with ⟨_, z⟩ | ⟨z, _⟩
       · exact z
       · exact absurd z hi
     subst ev
     exact catch1 X_Stale.te (show 3 < 4 by decide) hq
   · have ev : v = j := by
       rcases hv with ⟨z, _⟩ | ⟨_, _, z⟩
       · exact absurd hi z
       · exact z
     subst ev
     exact catch1 X_Stale.te (show 3 < 4 by decide) hq
  case len =>
   obtain ⟨N, p, i, j, v, vl, now, rfl, _⟩ := h
   rfl

/-! ### ways between versions -/
section
variable {vs : List Ver}
/-- the versions in order, each one's tables ascending -/
structure Vsx (vs : List Ver) : Prop where
  ch : Chn vs
  cp : ∀ v ∈ vs, cpH v.h = v.h
theorem vAt_mem {k : Nat} (h : k < vs.length) : vAt vs k ∈ vs ∧ vs[k]? = some (vAt vs k) := by
  have e := List.getElem?_eq_getElem h
  rw [vAt_of e]
  exact ⟨List.getElem_mem h, e⟩
theorem way_imm (x : Vsx vs) {a n : Nat} (h : a + n < vs.length) : ∀ e ∈ wayF vs a n, e.Imm := fun e m => by
  obtain ⟨k, hk, hm⟩ := List.mem_flatMap.mp m
  have hk := List.mem_range.mp hk
  exact (x.ch.1 _ (vAt_mem (k := a + 1 + k) (by omega)).1).imm e hm
theorem wayB_imm (x : Vsx vs) {a n : Nat} (h : a < vs.length) (hn : n ≤ a) : ∀ e ∈ wayB vs a n, e.Imm := fun e m => by
  obtain ⟨k, hk, hm⟩ := List.mem_flatMap.mp m
  have hk := List.mem_range.mp hk
  have v := x.ch.1 _ (vAt_mem (k := a - k) (by omega)).1
  have u := x.ch.1 _ (vAt_mem (k := a - k - 1) (by omega)).1
  exact invs_imm v.imm u.wf.cp e (List.mem_reverse.mp hm)
/-- one step on -/
theorem app_on {g f h' : Hs} {es fs : List Ed} (ime : ∀ e ∈ es, e.Imm) (imf : ∀ e ∈ fs, e.Imm) {g0 g1 : Hs} (w0 : Wf g0) (w1 : Wf g1) (ha : appAll g0 es = .ok f) (hc : cpH f = cpH g1) (hb : appAll g1 fs = .ok h') : ∃ f2, appAll g0 (es ++ fs) = .ok f2 ∧ cpH f2 = cpH h' := by
  obtain ⟨wf, _⟩ := appAll_wf ime w0 ha
  obtain ⟨f2, h1, h2⟩ := appAll_cp imf w1 wf hc.symm hb
  exact ⟨f2, by rw [appAll_append, ha]; exact h1, h2.symm⟩
theorem wayF_ok (x : Vsx vs) {a : Nat} : ∀ {n : Nat}, a + n < vs.length → ∃ f, appAll (cpH (vAt vs a).h) (wayF vs a n) = .ok f ∧ cpH f = (vAt vs (a + n)).h
  | 0, h => ⟨_, rfl, by
    show cpH (cpH (vAt vs a).h) = (vAt vs a).h
    rw [cp_cp (x.ch.1 _ (vAt_mem (k := a) h).1).wf]
    exact x.cp _ (vAt_mem (k := a) h).1⟩
  | n + 1, h => by
    obtain ⟨f, h1, h2⟩ := wayF_ok x (a := a) (n := n) (by omega)
    have hn : a + n < vs.length := by omega
    obtain ⟨f2, h3, h4⟩ := x.ch.2 (a + n) _ _ (vAt_mem hn).2 (vAt_mem h).2
    have vn := x.ch.1 _ (vAt_mem hn).1
    have e := x.cp _ (vAt_mem hn).1
    have va := x.ch.1 _ (vAt_mem (k := a) (by omega)).1
    have vk := x.ch.1 _ (vAt_mem h).1
    obtain ⟨f3, h5, h6⟩ := app_on (g := f) (way_imm x (a := a) (n := n) (by omega)) vk.imm va.wf.cp vn.wf.cp h1 (by rw [h2, e, e]) h3
    refine ⟨f3, ?_, by rw [h6, h4]⟩
    have e9 : wayF vs a (n + 1) = wayF vs a n ++ (vAt vs (a + 1 + n)).es := flat_succ _ _
    rw [e9, show a + 1 + n = a + (n + 1) by omega]
    exact h5
theorem wayB_ok (x : Vsx vs) {a : Nat} (ha : a < vs.length) : ∀ {n : Nat}, n ≤ a → ∃ f, appAll (cpH (vAt vs a).h) (wayB vs a n) = .ok f ∧ cpH f = (vAt vs (a - n)).h
  | 0, _ => ⟨_, rfl, by rw [cp_cp (x.ch.1 _ (vAt_mem ha).1).wf]; exact x.cp _ (vAt_mem ha).1⟩
  | n + 1, hn => by
    obtain ⟨f, h1, h2⟩ := wayB_ok x ha (n := n) (by omega)
    have l1 : a - n < vs.length := by omega
    have l2 : a - n - 1 < vs.length := by omega
    have e0 : a - n - 1 + 1 = a - n := by omega
    obtain ⟨f2, h3, h4⟩ := x.ch.2 (a - n - 1) _ _ (vAt_mem l2).2 (by rw [e0]; exact (vAt_mem l1).2)
    have v1 := x.ch.1 _ (vAt_mem l1).1
    have v2 := x.ch.1 _ (vAt_mem l2).1
    have va := x.ch.1 _ (vAt_mem ha).1
    obtain ⟨r, h5, h6⟩ := undoAll v1.imm v2.wf.cp h3
    obtain ⟨wf2, _⟩ := appAll_wf v1.imm v2.wf.cp h3
    obtain ⟨f3, h7, h8⟩ := app_on (g := f) (wayB_imm x ha (by omega)) (fun e m => invs_imm v1.imm v2.wf.cp e (List.mem_reverse.mp m)) va.wf.cp wf2 h1 (by rw [h2, h4]) h5
    refine ⟨f3, ?_, ?_⟩
    · have e9 : wayB vs a (n + 1) = wayB vs a n ++ (invs (cpH (vAt vs (a - n - 1)).h) (vAt vs (a - n)).es).reverse := flat_succ _ _
      rw [e9]
      exact h7
    · rw [h8, h6, cp_cp v2.wf, x.cp _ (vAt_mem l2).1]
      rfl
theorem wayE_imm (x : Vsx vs) {a b : Nat} (ha : a < vs.length) (hb : b < vs.length) : ∀ e ∈ wayE vs a b, e.Imm := fun e m => by
  rcases List.mem_append.mp m with m | m
  · by_cases c : a ≤ b
    · exact way_imm x (by omega) e m
    · rw [show b - a = 0 by omega] at m
      cases m
  · exact wayB_imm x ha (by omega) e m
theorem wayE_ok (x : Vsx vs) {a b : Nat} (ha : a < vs.length) (hb : b < vs.length) : ∃ f, appAll (cpH (vAt vs a).h) (wayE vs a b) = .ok f ∧ cpH f = (vAt vs b).h := by
  unfold wayE
  by_cases c : a ≤ b
  · rw [show a - b = 0 by omega]
    obtain ⟨f, h1, h2⟩ := wayF_ok x (a := a) (n := b - a) (by omega)
    refine ⟨f, ?_, by rw [h2, show a + (b - a) = b by omega]⟩
    show appAll _ (_ ++ []) = _
    rw [List.append_nil]
    exact h1
  · rw [show b - a = 0 by omega]
    obtain ⟨f, h1, h2⟩ := wayB_ok x ha (n := a - b) (by omega)
    exact ⟨f, h1, by rw [h2, show a - (a - b) = b by omega]⟩
theorem wayBack_ok (x : Vsx vs) {a b : Nat} (ha : a < vs.length) (hb : b < vs.length) : ∃ f, appAll (cpH (vAt vs a).h) (wayE vs a b ++ wayE vs b a) = .ok f ∧ cpH f = (vAt vs a).h := by
  obtain ⟨f, h1, h2⟩ := wayE_ok x ha hb
  obtain ⟨f2, h3, h4⟩ := wayE_ok x hb ha
  have va := x.ch.1 _ (vAt_mem ha).1
  have vb := x.ch.1 _ (vAt_mem hb).1
  obtain ⟨f3, h5, h6⟩ := app_on (g := f) (wayE_imm x ha hb) (wayE_imm x hb ha) va.wf.cp vb.wf.cp h1 (by rw [h2, cp_cp vb.wf, x.cp _ (vAt_mem hb).1]) h3
  exact ⟨f3, h5, h6.trans h4⟩
theorem flat_len (f : Nat → List Ed) (m : Nat) : ∀ n, (∀ k, k < n → (f k).length ≤ m) → ((List.range n).flatMap f).length ≤ m * n
  | 0, _ => Nat.zero_le _
  | n + 1, h => by
    rw [flat_succ, List.length_append, Nat.mul_succ]
    have h1 := flat_len f m n fun k hk => h k (by omega)
    have h2 := h n (by omega)
    omega
theorem wayE_len {m : Nat} (hm : ∀ v ∈ vs, v.es.length ≤ m) {a b : Nat} (ha : a < vs.length) (hb : b < vs.length) : (wayE vs a b).length ≤ m * (b - a) + m * (a - b) := by
  unfold wayE
  rw [List.length_append]
  have h1 := flat_len (fun k => (vAt vs (a + 1 + k)).es) m (b - a) fun k hk => hm _ (vAt_mem (by omega)).1
  have h2 := flat_len (fun k => (invs (cpH (vAt vs (a - k - 1)).h) (vAt vs (a - k)).es).reverse) m (a - b) fun k hk => by
    rw [List.length_reverse]
    exact Nat.le_trans (invs_len _ _) (hm _ (vAt_mem (by omega)).1)
  exact Nat.add_le_add h1 h2
end
/-! ### the difference leads from the one to the other -/
theorem lk_put_ne {β : Type} {l : List (Str × β)} {k x : Str} {v : β} (h : x ≠ k) : lk (put l k v) x = lk l x := by rw [lk_put, if_neg h]
theorem lk_put_eq {β : Type} {l : List (Str × β)} {k : Str} {v : β} : lk (put l k v) k = some v := by rw [lk_put, if_pos rfl]
theorem difN {k : Str} {a u : Tab} (im : immT u) (hd : ∀ n d e, lk a n = some d → lk u n = some e → eqb d e = true → d = e) : ∀ (ns : List Str), ns.Nodup → (∀ n ∈ ns, n ∈ nms a ∨ n ∈ nms u) → ∀ {f : Hs} {t : Tab}, Wf f → lk f k = some t → (∀ n ∈ ns, lk t n = lk a n) →
    ∃ f' t', appAll f (ns.filterMap fun n => dif1 k n (lk a n) (lk u n)) = .ok f' ∧ Wf f' ∧ nms f' = nms f ∧ lk f' k = some t' ∧ (∀ n, lk t' n = if n ∈ ns then lk u n else lk t n) ∧ ∀ x, x ≠ k → lk f' x = lk f x
  | [], _, _, f, t, w, e, _ => ⟨f, t, rfl, w, rfl, e, fun n => by simp, fun _ _ => rfl⟩
  | n :: ns, nd, hm, f, t, w, e, ht => by
    have nd2 := List.nodup_cons.mp nd
    have wt := w.tab _ (lk_mem e)
    have mk : k ∈ nms f := mem_nms (lk_mem e)
    have rest : ∀ {f1 : Hs} {t1 : Tab}, Wf f1 → nms f1 = nms f → lk f1 k = some t1 → (∀ x, lk t1 x = if x = n then lk u n else lk t x) → (∀ x, x ≠ k → lk f1 x = lk f x) → ∃ f' t', appAll f1 (ns.filterMap fun n => dif1 k n (lk a n) (lk u n)) = .ok f' ∧ Wf f' ∧ nms f' = nms f ∧ lk f' k = some t' ∧ (∀ x, lk t' x = if x ∈ n :: ns then lk u x else lk t x) ∧ ∀ x, x ≠ k → lk f' x = lk f x := fun {f1 t1} w1 n1 e1 h1 o1 => by
      obtain ⟨f', t', g1, g2, g3, g4, g5, g6⟩ := difN im hd ns nd2.2 (fun x hx => hm x (List.mem_cons_of_mem _ hx)) w1 e1 fun x hx => by
        rw [h1 x, if_neg fun z => nd2.1 (by rw [← z]; exact hx)]
        exact ht x (List.mem_cons_of_mem _ hx)
      refine ⟨f', t', g1, g2, g3.trans n1, g4, fun x => ?_, fun x hx => (g6 x hx).trans (o1 x hx)⟩
      rw [g5 x, h1 x]
      by_cases c : x ∈ ns
      · rw [if_pos c, if_pos (List.mem_cons_of_mem _ c)]
      · rw [if_neg c]
        by_cases c2 : x = n
        · rw [if_pos c2, if_pos (by rw [c2]; exact List.mem_cons_self), c2]
        · rw [if_neg c2, if_neg fun z => (List.mem_cons.mp z).elim c2 c]
    have htn := ht n List.mem_cons_self
    rw [List.filterMap_cons]
    cases eu : lk u n with
    | none =>
      have mt : n ∈ nms t := by
        rcases hm n List.mem_cons_self with c | c
        · obtain ⟨d, ed⟩ := lk_mem_nms c
          rw [← htn] at ed
          exact mem_nms (lk_mem ed)
        · exact absurd c (lk_none.mp eu)
      show ∃ f' t', appAll f (.drop k n :: _) = _ ∧ _
      rw [appAll_cons]
      have ap : app1 f (.drop k n) = .ok (put f k (del t n)) := by
        unfold app1
        rw [show (Ed.drop k n).key = k from rfl, e]
        exact if_pos mt
      rw [ap]
      exact rest (w.set (nd_del wt.1 n) (immT_del wt.2 n)) (nms_put_of mk) lk_put_eq (fun x => by rw [lk_del wt.1, eu]) fun x hx => lk_put_ne hx
    | some y =>
      have ap : app1 f (.put k n y) = .ok (put f k (put t n y)) := by
        unfold app1
        rw [show (Ed.put k n y).key = k from rfl, e]
      have iy : imm y = true := immT_lk im eu
      have put_ : ∃ f' t', eb (app1 f (.put k n y)) (fun h' => appAll h' (ns.filterMap fun n => dif1 k n (lk a n) (lk u n))) = .ok f' ∧ Wf f' ∧ nms f' = nms f ∧ lk f' k = some t' ∧ (∀ x, lk t' x = if x ∈ n :: ns then lk u x else lk t x) ∧ ∀ x, x ≠ k → lk f' x = lk f x := by
        rw [ap]
        exact rest (w.set (nd_put wt.1 n y) (immT_put wt.2 n iy)) (nms_put_of mk) lk_put_eq (fun x => by rw [lk_put, eu]) fun x hx => lk_put_ne hx
      cases ea : lk a n with
      | none => exact put_
      | some d =>
        by_cases c : eqb d y = true
        · have e1 : dif1 k n (some d) (some y) = none := if_pos c
          rw [e1]
          have edy := hd n d y ea eu c
          exact rest w rfl e (fun x => by
            by_cases c2 : x = n
            · rw [if_pos c2, c2, eu, htn, ea, edy]
            · rw [if_neg c2]) fun _ _ => rfl
        · have e1 : dif1 k n (some d) (some y) = some (.put k n y) := if_neg c
          rw [e1]
          exact put_
theorem difK {h o : Hs} (wh : Wf h) (wo : Wf o) (hn : ∀ k, k ∈ nms h → k ∈ nms o) (hd : ∀ k n d e, ent h k n = some d → ent o k n = some e → eqb d e = true → d = e) : ∀ (ks : List Str), ks.Nodup → (∀ k ∈ ks, k ∈ nms h) → ∀ {f : Hs}, Wf f → (∀ k ∈ ks, ∃ t t1, lk f k = some t ∧ lk h k = some t1 ∧ ∀ n, lk t n = lk t1 n) →
    ∃ f', appAll f (ks.flatMap fun k => difT k ((lk h k).getD []) ((lk o k).getD [])) = .ok f' ∧ Wf f' ∧ nms f' = nms f ∧ (∀ k ∈ ks, ∃ t u, lk f' k = some t ∧ lk o k = some u ∧ ∀ n, lk t n = lk u n) ∧ ∀ k, k ∉ ks → lk f' k = lk f k
  | [], _, _, f, w, _ => ⟨f, rfl, w, rfl, (fun k m => nomatch m), fun _ _ => rfl⟩
  | k :: ks, nd, sub, f, w, hk => by
    have nd2 := List.nodup_cons.mp nd
    obtain ⟨t, t1, e1, e2, e3⟩ := hk k List.mem_cons_self
    obtain ⟨u, e4⟩ := lk_mem_nms (hn k (sub k List.mem_cons_self))
    have w1 := wh.tab _ (lk_mem e2)
    have wu := wo.tab _ (lk_mem e4)
    obtain ⟨f1, t2, g1, g2, g3, g4, g5, g6⟩ := difN (k := k) (a := t1) (u := u) wu.2 (fun n d e a b c => hd k n d e (by unfold ent; rw [e2]; exact a) (by unfold ent; rw [e4]; exact b) c) (srt (un2 t1 u)) ((srt_perm _).nodup_iff.mpr (un2_nd w1.1 wu.1)) (fun n hm => un2_mem.mp ((srt_perm _).mem_iff.mp hm)) w e1 fun n _ => e3 n
    have all : ∀ n, lk t2 n = lk u n := fun n => by
      rw [g5 n]
      by_cases c : n ∈ srt (un2 t1 u)
      · rw [if_pos c]
      · rw [if_neg c, e3 n]
        have c2 : n ∉ un2 t1 u := fun z => c ((srt_perm _).mem_iff.mpr z)
        rw [un2_mem, not_or] at c2
        rw [lk_none.mpr c2.1, lk_none.mpr c2.2]
    obtain ⟨f', y1, y2, y3, y4, y5⟩ := difK wh wo hn hd ks nd2.2 (fun x hx => sub x (List.mem_cons_of_mem _ hx)) g2 fun x hx => by
      obtain ⟨z, z1, z2, z3, z4⟩ := hk x (List.mem_cons_of_mem _ hx)
      exact ⟨z, z1, by rw [g6 x fun c => nd2.1 (by rw [← c]; exact hx)]; exact z2, z3, z4⟩
    refine ⟨f', ?_, y2, y3.trans g3, fun x hx => ?_, fun x hx => ?_⟩
    · rw [List.flatMap_cons, appAll_append, e2, e4]
      show eb (appAll f (difT k t1 u)) _ = _
      unfold difT
      rw [g1]
      exact y1
    · rcases List.mem_cons.mp hx with c | c
      · subst c
        exact ⟨t2, u, by rw [y5 x nd2.1]; exact g4, e4, all⟩
      · exact y4 x c
    · rw [List.mem_cons, not_or] at hx
      rw [y5 x hx.2, g6 x hx.1]
theorem dif_ok {h o : Hs} (wh : Wf h) (wo : Wf o) (hn : nms o = nms h) (hd : ∀ k n d e, ent h k n = some d → ent o k n = some e → eqb d e = true → d = e) : ∃ f, appAll (cpH h) (dif h o) = .ok f ∧ cpH f = cpH o := by
  obtain ⟨f, h1, h2, h3, h4, h5⟩ := difK wh wo (fun k m => by rw [hn]; exact m) hd (srt (nms h)) ((srt_perm _).nodup_iff.mpr wh.nd) (fun k m => (srt_perm _).mem_iff.mp m) wh.cp fun k m => by
    obtain ⟨t, e⟩ := lk_mem_nms ((srt_perm _).mem_iff.mp m)
    exact ⟨ord t, t, by rw [lk_cp, e]; rfl, e, fun n => lk_ord t n⟩
  refine ⟨f, h1, cp_eq h2.nd (by rw [h3, nms_cp, hn]) fun k => ?_⟩
  by_cases m : k ∈ nms h
  · obtain ⟨t, u, e1, e2, e3⟩ := h4 k ((srt_perm _).mem_iff.mpr m)
    rw [e1, e2]
    exact congrArg some (ord_perm (h2.tab _ (lk_mem e1)).1 (wo.tab _ (lk_mem e2)).1 e3)
  · rw [lk_none.mpr (by rw [h3, nms_cp]; exact m), lk_none.mpr (by rw [hn]; exact m)]
theorem dif_imm {h o : Hs} (wo : Wf o) : ∀ e ∈ dif h o, e.Imm := fun e m => by
  obtain ⟨k, hk, hm⟩ := List.mem_flatMap.mp m
  obtain ⟨n, hn, he⟩ := List.mem_filterMap.mp (show e ∈ (srt (un2 ((lk h k).getD []) ((lk o k).getD []))).filterMap fun n => dif1 k n (lk ((lk h k).getD []) n) (lk ((lk o k).getD []) n) from hm)
  cases eo : lk o k with
  | none =>
    rw [eo] at he
    cases he
    trivial
  | some u =>
    rw [eo] at he
    have he2 : dif1 k n (lk ((lk h k).getD []) n) (lk u n) = some e := he
    cases eu : lk u n with
    | none =>
      rw [eu] at he2
      cases he2
      trivial
    | some y =>
      rw [eu] at he2
      have iy := immT_lk (wo.tab _ (lk_mem eo)).2 eu
      cases ea : lk ((lk h k).getD []) n with
      | none =>
        rw [ea] at he2
        cases he2
        exact iy
      | some d =>
        rw [ea] at he2
        have he3 : (if eqb d y = true then none else some (Ed.put k n y)) = some e := he2
        split at he3
        · cases he3
        · cases he3
          exact iy
theorem dif_len {h o : Hs} {m : Nat} (fh : Fits m h) (fo : Fits m o) : (dif h o).length ≤ 2 * m * h.length := by
  have len : ∀ {g : Hs}, Fits m g → ∀ k, ((lk g k).getD []).length ≤ m := fun {g} f k => by
    cases e : lk g k with
    | none => exact Nat.zero_le _
    | some t => exact f _ (lk_mem e)
  have one : ∀ k, (difT k ((lk h k).getD []) ((lk o k).getD [])).length ≤ 2 * m := fun k => by
    have z1 := List.length_filterMap_le (fun n => dif1 k n (lk ((lk h k).getD []) n) (lk ((lk o k).getD []) n)) (srt (un2 ((lk h k).getD []) ((lk o k).getD [])))
    rw [(srt_perm _).length_eq] at z1
    have z2 := un2_len ((lk h k).getD []) ((lk o k).getD [])
    have z3 := len fh k
    have z4 := len fo k
    unfold difT
    omega
  have all : ∀ l : List Str, (l.flatMap fun k => difT k ((lk h k).getD []) ((lk o k).getD [])).length ≤ 2 * m * l.length := by
    intro l
    induction l with
    | nil => exact Nat.zero_le _
    | cons x l ih =>
      rw [List.flatMap_cons, List.length_append, List.length_cons, Nat.mul_succ]
      have := one x
      omega
  have := all (srt (nms h))
  rw [(srt_perm _).length_eq, nms_len] at this
  exact this
theorem HG.nam {h : Hs} (g : HG h) : Nam names5 h := fun q hq x hx => by
  have := ((g.ent q hq).2 x hx).1
  have sub : ∀ n ∈ namesL, n ∈ names5 := by decide +kernel
  exact sub _ this

theorem keysL_pla : ∀ n ∈ keysL, Pla 5 n := by decide +kernel
theorem names5_pla : ∀ n ∈ names5, Pla 3 n := by decide +kernel
theorem Ent.vw {d : Tr} {j : Bool} (h : Ent d) : Vw 4 1 j d := by
  cases h with
  | int i h1 h2 => exact (Vw.int (sho_of (by omega) (by omega))).le (by decide) (by decide)
  | tup k h1 h2 => exact (Vw.tup (.cons (.str (n := 1) (by decide +kernel)) (.cons (.int (sho_of h1 (by omega))) .nil))).le (by decide) (by decide)
  | word => exact (Vw.str (n := 4) (by decide +kernel)).le (by decide) (by decide)
theorem HG.in_keys {h : Hs} (g : HG h) {n : Str} (m : n ∈ nms h) : n ∈ keysL := by
  obtain ⟨k, _, _, e⟩ := g.keys
  rw [e] at m
  exact List.mem_of_mem_take m
theorem HG.vw {h : Hs} (g : HG h) : Vw 400 3 true (.dic (hK h)) := by
  have hl := g.len
  have vk : Vwk ((5 + 52 + 2) * (hK h).length) 2 true (hK h) := Vwk.all fun p hp => by
    obtain ⟨q, hq, rfl⟩ := List.mem_map.mp hp
    refine ⟨⟨q.1, rfl, keysL_pla _ (g.in_keys (mem_nms hq))⟩, ?_⟩
    have ge := g.ent q hq
    have vt : Vwk ((3 + 4 + 2) * (tK q.2).length) 1 true (tK q.2) := Vwk.all fun x hx => by
      obtain ⟨y, hy, rfl⟩ := List.mem_map.mp hx
      exact ⟨⟨y.1, rfl, names5_pla _ (g.nam q hq y hy)⟩, (ge.2 y hy).2.vw⟩
    have e : (tK q.2).length = q.2.length := List.length_map _
    exact (Vw.dic vt).le (by rw [e]; have := ge.1; omega) (by decide)
  have e : (hK h).length = h.length := List.length_map _
  exact (Vw.dic vk).le (by rw [e]; omega) (by decide)
theorem EdG.vw {h : Hs} (hG : HG h) {e : Ed} (g : EdG h e) : Vw 30 2 true e.tr := by
  have k := keysL_pla _ (hG.in_keys g.key)
  have n := names5_pla _ g.name
  have s0 : ∀ {n : Nat} {s : Str}, Pla n s → Vw n 1 true (.str s) := fun p => (Vw.str p).le (Nat.le_refl _) (Nat.zero_le _)
  cases e with
  | put key name x => exact (Vw.tup (.cons (s0 (n := 4) (by decide +kernel)) (.cons (s0 k) (.cons (s0 n) (.cons (g.ent _ _ _ rfl).vw .nil))))).le (by decide) (by decide)
  | drop key name => exact (Vw.tup (.cons (s0 (n := 4) (by decide +kernel)) (.cons (s0 k) (.cons (s0 n) .nil)))).le (by decide) (by decide)

theorem nd_sub_len : ∀ {l m : List Str}, l.Nodup → (∀ x ∈ l, x ∈ m) → l.length ≤ m.length
  | [], _, _, _ => Nat.zero_le _
  | x :: l, m, nd, sub => by
    have nd2 := List.nodup_cons.mp nd
    have hx := sub x List.mem_cons_self
    have ih := nd_sub_len (l := l) (m := m.erase x) nd2.2 fun y hy => (List.mem_erase_of_ne fun e => nd2.1 (by rw [← e]; exact hy)).mpr (sub y (List.mem_cons_of_mem _ hy))
    rw [List.length_erase_of_mem hx] at ih
    have := List.length_pos_of_mem hx
    rw [List.length_cons]
    omega
theorem Ent.dep {d : Tr} (h : Ent d) : TU.dep d ≤ 50 := by
  cases h with
  | int i h1 h2 => exact Nat.zero_le _
  | tup k h1 h2 => exact (by decide : 1 ≤ 50)
  | word => exact Nat.zero_le _
theorem HG.all {h : Hs} (g : HG h) : All Ent h := fun q hq x hx => ((g.ent q hq).2 x hx).2
/-- a house of these scripts -/
structure Gd (h g : Hs) : Prop where
  wf : Wf g
  nm : nms g = nms h
  en : All Ent g
  na : Nam names5 g
  cp : cpH g = g
theorem Gd.fit {h g : Hs} (x : Gd h g) : Fits 5 g := fun q hq => by
  have := nd_sub_len (m := names5) (x.wf.tab q hq).1 fun y hy => by
    obtain ⟨z, hz, rfl⟩ := List.mem_map.mp hy
    exact x.na q hq z hz
  rw [nms_len] at this
  exact this
theorem Gd.len {h g : Hs} (x : Gd h g) : g.length = h.length := len_of_nms x.nm
theorem Gd.sml {h g : Hs} (x : Gd h g) : Sml g := fun q hq y hy => Nat.le_trans (x.en q hq y hy).dep (by decide)
theorem Gd.asc {h g : Hs} (x : Gd h g) : AscH g := by
  rw [← x.cp]
  exact AscH.cp g
theorem HG.gd {h : Hs} (x : HG h) : Gd h (cpH h) := ⟨x.wf.cp, nms_cp h, x.all.cp, x.nam.cp, cp_cp x.wf⟩
theorem gd_app {h g f : Hs} {es : List Ed} (x : Gd h g) (heg : ∀ e ∈ es, EdG g e) (ha : appAll (cpH g) es = .ok f) : Gd h (cpH f) := by
  obtain ⟨wf, nf⟩ := appAll_wf (fun e m => (heg e m).imm) x.wf.cp ha
  rw [nms_cp] at nf
  exact ⟨wf.cp, by rw [nms_cp, nf, x.nm], (appAll_all x.en.cp (fun e m => (heg e m).ent) ha).cp, (appAll_nam x.na.cp (fun e m => (heg e m).name) ha).cp, cp_cp wf⟩
theorem Gd.he {h g : Hs} (hG : HG h) (x : Gd h g) : HE g := ⟨x.wf, fun q hq => Nat.le_trans (x.fit q hq) (by decide), by rw [x.len]; exact hG.len⟩
theorem Gd.mok {h g : Hs} (x : Gd h g) : MOk g := ⟨x.wf, fun q hq => Nat.le_trans (x.fit q hq) (by decide), fun q hq y hy => (x.en q hq y hy).dep⟩
/-- the versions of the law's own list -/
structure Gv (h : Hs) (vs : List Ver) : Prop where
  x : Vsx vs
  gd : ∀ v ∈ vs, Gd h v.h
  es : ∀ v ∈ vs, v.es.length ≤ 3
  hd : ∃ ws, vs = ⟨cpH h, "", []⟩ :: ws
  ed : ∀ v ∈ vs, ∀ e ∈ v.es, EdP Ent e
abbrev Stb (a p m l : Addr) : Addr → Prop := fun z => z ≠ a ∧ z ≠ p ∧ z ≠ m ∧ z ≠ l
/-- what stands between two turns -/
structure S79 (C : Addr) (K : PySem.W.Frag) (h : Hs) (j a r p m l : Addr) (vs vf : List Ver) (H : Hp) (pi : Int) : Prop where
  R : Rnd H j a pi
  th : T K H (Stb a p m l) (.ref r) (.dic (hK h))
  xm : ∃ xm, H m = some (.lst xm) ∧ Ts K H (Stb a p m l) xm (vH vs)
  xl : ∃ xl, H l = some (.lst xl) ∧ EL K (Stb a p m l) H xl (vL vs.tail)
  hi : HiAt C K (Stb a p m l) H p vf (vs.length - 1)
  tk : vf.take vs.length = vs
  ne : 0 < vs.length
  g : Gv h vs
theorem S79.same {C j a r p m l : Addr} {h : Hs} {vs vf : List Ver} {H H' : Hp} {pi : Int} (x : S79 C K h j a r p m l vs vf H pi) (s : Same H H') : S79 C K h j a r p m l vs vf H' pi := by
  obtain ⟨xm, m1, m2⟩ := x.xm
  obtain ⟨xl, l1, l2⟩ := x.xl
  exact ⟨x.R.same s, x.th.mono s, ⟨xm, s _ _ m1, m2.mono s⟩, ⟨xl, s _ _ l1, l2.mono s⟩, x.hi.mono s, x.tk, x.ne, x.g⟩
theorem S79.live {C j a r p m l : Addr} {h : Hs} {vs vf : List Ver} {H : Hp} {pi : Int} (x : S79 C K h j a r p m l vs vf H pi) : (∃ o, H a = some (.lst o)) ∧ (∃ dx fs, H p = some (.ins C dx fs)) ∧ (∃ o, H m = some (.lst o)) ∧ (∃ o, H l = some (.lst o)) := by
  obtain ⟨xm, m1, m2⟩ := x.xm
  obtain ⟨xl, l1, l2⟩ := x.xl
  obtain ⟨dx, lh, ll, le, xh, xe, e1, _⟩ := x.hi.ex
  exact ⟨⟨_, x.R.at_⟩, ⟨dx, _, e1⟩, ⟨_, m1⟩, ⟨_, l1⟩⟩
theorem S79.st {C j a r p m l : Addr} {h : Hs} {vs vf : List Ver} {H : Hp} {pi : Int} (x : S79 C K h j a r p m l vs vf H pi) : ∀ z, H z = none → Stb a p m l z := fun z e => by
  obtain ⟨⟨_, e1⟩, ⟨_, _, e2⟩, ⟨_, e3⟩, ⟨_, e4⟩⟩ := x.live
  exact ⟨(ne_of_none e1 e).symm, (ne_of_none e2 e).symm, (ne_of_none e3 e).symm, (ne_of_none e4 e).symm⟩
theorem S79.kp {C j a r p m l : Addr} {h : Hs} {vs vf : List Ver} {H H' : Hp} {pi pi' : Int} (x : S79 C K h j a r p m l vs vf H pi) (ma : m ≠ a) (la : l ≠ a) (pa : p ≠ a) (k : Kp a H H') (R : Rnd H' j a pi') : S79 C K h j a r p m l vs vf H' pi' := by
  obtain ⟨xm, m1, m2⟩ := x.xm
  obtain ⟨xl, l1, l2⟩ := x.xl
  have nt : ∀ z xs, z = a → ¬ Rd H z (.tup xs) := nt_of x.R.at_ (fun _ z => nomatch z) fun _ _ z => nomatch z
  have ok : ∀ z, Stb a p m l z → Stb a p m l z ∧ ¬ z = a := fun z n => ⟨n, n.1⟩
  exact ⟨R, x.th.keep k nt ok, ⟨xm, k _ _ ma m1, m2.keep k nt ok⟩, ⟨xl, k _ _ la l1, l2.keep k nt ok⟩, x.hi.keep k nt ok pa, x.tk, x.ne, x.g⟩
theorem str_k : ∀ k : Fin 100, (("k" : Str).length + (Str.ofString (toString (k.val : Int))).length ≤ 100) ∧ (k.val : Int).natAbs.log2 < 1920 := by decide +kernel
theorem Ts.at_ {H : Hp} {P : Addr → Prop} : ∀ {vs : List V} {ds : List Tr} {i : Nat} {d : Tr}, Ts K H P vs ds → ds[i]? = some d → ∃ v, vs[i]? = some v ∧ T K H P v d
  | _, _, _, _, .nil, e => by simp at e
  | _, _, 0, _, .cons a b, e => by
    cases (show some _ = some _ from e)
    exact ⟨_, rfl, a⟩
  | _, _, i + 1, _, .cons a b, e => by
    obtain ⟨v, h1, h2⟩ := Ts.at_ (i := i) b (by simpa using e)
    exact ⟨v, by simpa using h1, h2⟩
theorem q_neII {K : PySem.W.Frag} {H : Hp} {Q : VK} {a b : Int} (h : a = b) (k : Q (.bl false) H) : rNeU K (.int a) (.int b) H Q := q_neI (by rw [decide_eq_true h]; exact k)
/-- the addresses that differ -/
structure Dst (j a p m l : Addr) : Prop where
  jp : j ≠ p
  jm : j ≠ m
  jl : j ≠ l
  ap : a ≠ p
  am : a ≠ m
  al : a ≠ l
  pm : p ≠ m
  pl : p ≠ l
  ml : m ≠ l
/-- a change at one of them -/
structure K5 (C : Addr) (K : PySem.W.Frag) (j a p m l q : Addr) (H H' : Hp) : Prop where
  rn : q ≠ a → ∀ {pi : Int}, Rnd H j a pi → Rnd H' j a pi
  t : ∀ {v : V} {d : Tr}, T K H (Stb a p m l) v d → T K H' (Stb a p m l) v d
  ts : ∀ {v : List V} {d : List Tr}, Ts K H (Stb a p m l) v d → Ts K H' (Stb a p m l) v d
  el : ∀ {v : List V} {d : List (List Ed)}, EL K (Stb a p m l) H v d → EL K (Stb a p m l) H' v d
  hi : q ≠ p → ∀ {vs : List Ver} {n : Nat}, HiAt C K (Stb a p m l) H p vs n → HiAt C K (Stb a p m l) H' p vs n
  z : ∀ {v : List V} {d : List Tr}, Ts K H ff v d → Ts K H' ff v d
  k : Kp q H H'
theorem k5 {C j a p m l q : Addr} {H H' : Hp} (D : Dst j a p m l) (hq : q = a ∨ q = p ∨ q = m ∨ q = l) (nt : ∀ xs, ¬ Rd H q (.tup xs)) (k : Kp q H H') : K5 C K j a p m l q H H' := by
  have nt' : ∀ z xs, z = q → ¬ Rd H z (.tup xs) := fun z xs e => by
    rw [e]
    exact nt xs
  have ok : ∀ z, Stb a p m l z → Stb a p m l z ∧ ¬ z = q := fun z n => ⟨n, fun e => by
    rcases hq with c | c | c | c
    · exact n.1 (e.trans c)
    · exact n.2.1 (e.trans c)
    · exact n.2.2.1 (e.trans c)
    · exact n.2.2.2 (e.trans c)⟩
  refine ⟨fun hqa pi R => ?_, fun t => t.keep k nt' ok, fun t => t.keep k nt' ok, fun t => t.keep k nt' ok, fun hp vs n x => x.keep k nt' ok hp.symm, fun t => t.keep k nt' fun _ z => z.elim, k⟩
  obtain ⟨ns, h1, h2, h3⟩ := R.ex
  have jq : j ≠ q := by
    rcases hq with c | c | c | c
    · exact absurd c hqa
    · rw [c]; exact D.jp
    · rw [c]; exact D.jm
    · rw [c]; exact D.jl
  exact ⟨⟨ns, k _ _ jq h1, h2, h3⟩, k _ _ hqa.symm R.at_, R.ne, R.p0⟩
theorem nt_lst {H : Hp} {q : Addr} {o : List V} (e : H q = some (.lst o)) : ∀ xs, ¬ Rd H q (.tup xs) := fun xs => nt_of e (fun _ z => nomatch z) (fun _ _ z => nomatch z) q xs rfl
theorem nt_ins {H : Hp} {q C dx : Addr} {fs : List (Str × V)} (e : H q = some (.ins C dx fs)) : ∀ xs, ¬ Rd H q (.tup xs) := fun xs => nt_of e (fun _ z => nomatch z) (fun _ _ z => nomatch z) q xs rfl
theorem EL.last {N : Addr → Prop} {H : Hp} : ∀ {vs : List V} {ds : List (List Ed)} {d : List Ed}, EL K N H vs (ds ++ [d]) → ∃ us v, vs = us ++ [v] ∧ EL K N H us ds
  | _, [], d, .cons a b c .nil => ⟨[], _, rfl, .nil⟩
  | _, x :: ds, d, .cons a b c e => by
    obtain ⟨us, v, e1, h⟩ := EL.last (ds := ds) e
    exact ⟨_ :: us, v, by rw [e1]; rfl, .cons a b c h⟩
theorem Ts.last2 {H : Hp} {P : Addr → Prop} {vs : List V} {ds : List Tr} {d : Tr} (h : Ts K H P vs (ds ++ [d])) : ∃ us v, vs = us ++ [v] ∧ Ts K H P us ds ∧ T K H P v d := by
  induction ds generalizing vs with
  | nil =>
    cases h with
    | cons a b =>
      cases b
      exact ⟨[], _, rfl, .nil, a⟩
  | cons x ds ih =>
    cases h with
    | cons a b =>
      obtain ⟨us, v, e, h1, h2⟩ := ih b
      exact ⟨_ :: us, v, by rw [e]; rfl, .cons a h1, h2⟩
theorem S79.end_ {C j a r p m l : Addr} {h : Hs} {vs vf : List Ver} {H : Hp} {pi : Int} (x : S79 C K h j a r p m l vs vf H pi) : ∃ ws u, vs = ws ++ [u] := by
  have := x.ne
  cases e : vs.reverse with
  | nil => rw [List.reverse_eq_nil_iff.mp e] at this; cases this
  | cons u ws => exact ⟨ws.reverse, u, by rw [← List.reverse_reverse vs, e, List.reverse_cons]⟩
theorem Gv.sub {h : Hs} {ws vs : List Ver} {u : Ver} (g : Gv h vs) (e : vs = ws ++ [u]) (hw : 0 < ws.length) : Gv h ws := by
  subst e
  have mm : ∀ v ∈ ws, v ∈ ws ++ [u] := fun v m => List.mem_append_left _ m
  have at' : ∀ {i : Nat} {v : Ver}, ws[i]? = some v → (ws ++ [u])[i]? = some v := fun {i v} e => by rw [List.getElem?_append_left (List.getElem?_eq_some_iff.mp e).1]; exact e
  exact ⟨⟨⟨fun v m => g.x.ch.1 v (mm v m), fun i a b e1 e2 => g.x.ch.2 i a b (at' e1) (at' e2)⟩, fun v m => g.x.cp v (mm v m)⟩, fun v m => g.gd v (mm v m), fun v m => g.es v (mm v m), by
    obtain ⟨w2, e⟩ := g.hd
    cases ws with
    | nil => cases hw
    | cons a b =>
      rw [List.cons_append] at e
      cases e
      exact ⟨b, rfl⟩, fun v m => g.ed v (mm v m)⟩
theorem vok_of {h g : Hs} {lb : Str} {es : List Ed} (hl : h.length ≤ 3) (x : Gd h g) (im : ∀ e ∈ es, e.Imm) (n : es.length ≤ 3) : VOk ⟨g, lb, es⟩ :=
  ⟨x.wf, fun q hq => Nat.le_trans (x.fit q hq) (by decide), by rw [show (Ver.mk g lb es).h = g from rfl, x.len]; omega, im, Nat.le_trans n (by decide)⟩
theorem Gv.grow {h f : Hs} {ws : List Ver} {u : Ver} {lb : Str} {es : List Ed} (hl : h.length ≤ 3) (g : Gv h (ws ++ [u])) (heg : ∀ e ∈ es, EdG u.h e) (n : es.length ≤ 3) (ha : appAll (cpH u.h) es = .ok f) : Gv h ((ws ++ [u]) ++ [⟨cpH f, lb, es⟩]) := by
  have gu := g.gd u (List.mem_append_right _ (List.mem_singleton.mpr rfl))
  have gf := gd_app gu heg ha
  have one : ∀ {P : Ver → Prop}, (∀ v ∈ ws ++ [u], P v) → P ⟨cpH f, lb, es⟩ → ∀ v ∈ (ws ++ [u]) ++ [⟨cpH f, lb, es⟩], P v := fun {P} h1 h2 v m => by
    rcases List.mem_append.mp m with m | m
    · exact h1 v m
    · rw [List.mem_singleton.mp m]
      exact h2
  refine ⟨⟨⟨one g.x.ch.1 (vok_of hl gf (fun e m => (heg e m).imm) n), fun i a b e1 e2 => ?_⟩, one g.x.cp gf.cp⟩, one g.gd gf, one g.es n, by
    obtain ⟨w2, e⟩ := g.hd
    rw [e]
    exact ⟨_, rfl⟩, one g.ed fun e m => (heg e m).ent⟩
  have li := (List.getElem?_eq_some_iff.mp e2).1
  rw [List.length_append, List.length_singleton] at li
  by_cases c : i + 1 < (ws ++ [u]).length
  · rw [List.getElem?_append_left c] at e2
    rw [List.getElem?_append_left (by omega)] at e1
    exact g.x.ch.2 i a b e1 e2
  · have e0 : i = ws.length := by
      rw [List.length_append, List.length_singleton] at li c
      omega
    rw [List.getElem?_append_left (by omega), e0, List.getElem?_concat_length] at e1
    rw [show i + 1 = (ws ++ [u]).length by rw [e0, List.length_append, List.length_singleton], List.getElem?_concat_length] at e2
    cases e1
    cases e2
    exact ⟨f, ha, rfl⟩
/-- what stands behind the commits -/
structure Z79 (C : Addr) (K : PySem.W.Frag) (h : Hs) (r p m l : Addr) (vs : List Ver) (xm xl : List V) (H : Hp) : Prop where
  th : T K H (fun z => H z ≠ none) (.ref r) (.dic (hK h))
  m1 : H m = some (.lst xm)
  m2 : Ts K H (fun z => H z ≠ none) xm (vH vs)
  l1 : H l = some (.lst xl)
  l2 : EL K (fun z => H z ≠ none) H xl (vL vs.tail)
  hi : HiAt C K (fun z => H z ≠ none) H p vs (vs.length - 1)
  g : Gv h vs
  n : vs.length ≤ 7
theorem S79.z {C j a r p m l : Addr} {h : Hs} {vs : List Ver} {H : Hp} {pi : Int} (x : S79 C K h j a r p m l vs vs H pi) (wf : Wf h) (n : vs.length ≤ 7) : ∃ xm xl, Z79 C K h r p m l vs xm xl H := by
  obtain ⟨xm, m1, m2⟩ := x.xm
  obtain ⟨xl, l1, l2⟩ := x.xl
  refine ⟨xm, xl, ⟨(x.th.livek (nol_house wf)).imp fun z n => n.2, m1, (m2.livek (nols_all fun d hd => ?_)).imp fun z n => n.2, l1, l2.live.imp fun z n => n.2, (x.hi.live fun v m => (x.g.gd v m).wf).imp fun z n => n.2, x.g, n⟩⟩
  obtain ⟨v, hv, rfl⟩ := List.mem_map.mp hd
  exact nol_house (x.g.gd v hv).wf
section
variable {C r p m l : Addr} {h : Hs} {vs : List Ver} {xm xl : List V} {H H' : Hp}
/-- version i, at every later heap -/
theorem Z79.at (x : Z79 C K h r p m l vs xm xl H) {i : Nat} (hi : i < vs.length) (s : Same H H') : ∃ ri, xm[i]? = some (.ref ri) ∧ T K H' (fun z => H z ≠ none) (.ref ri) (.dic (hK (vAt vs i).h)) := by
  have e : (vH vs)[i]? = some (.dic (hK (vAt vs i).h)) := by
    unfold vH
    rw [List.getElem?_map, (vAt_mem hi).2]
    rfl
  obtain ⟨v, e1, t1⟩ := Ts.at_ x.m2 e
  obtain ⟨ri, es, ev, _⟩ := t1.dicAt
  rw [ev] at e1 t1
  exact ⟨ri, e1, t1.mono s⟩
theorem Z79.es (x : Z79 C K h r p m l vs xm xl H) {i : Nat} (hi : i + 1 < vs.length) (s : Same H H') : ∃ b zs, xl[i]? = some (.ref b) ∧ H' b = some (.lst zs) ∧ Ts K H' ff zs ((vAt vs (i + 1)).es.map Ed.tr) := by
  have e : (vL vs.tail)[i]? = some (vAt vs (i + 1)).es := by
    unfold vL
    rw [List.getElem?_map, List.getElem?_tail, (vAt_mem hi).2]
    rfl
  obtain ⟨b, zs, h1, _, h2, h3⟩ := x.l2.at e
  exact ⟨b, zs, h1, s _ _ h2, h3.mono s⟩
theorem Z79.gd (x : Z79 C K h r p m l vs xm xl H) {i : Nat} (hi : i < vs.length) : Gd h (vAt vs i).h := x.g.gd _ (vAt_mem hi).1
theorem Z79.lm (x : Z79 C K h r p m l vs xm xl H) : xm.length = vs.length := by rw [x.m2.length]; exact List.length_map _
theorem Z79.ll (x : Z79 C K h r p m l vs xm xl H) : xl.length = vs.length - 1 := by rw [x.l2.len]; unfold vL; rw [List.length_map, List.length_tail]
theorem Z79.insT (x : Z79 C K h r p m l vs xm xl H) (s : Same H H') : ∃ dx a b c d, H' p = some (.ins C dx (hfs a b c d)) := by
  obtain ⟨dx, lh, lb, le, xh, xe, e1, _⟩ := x.hi.ex
  exact ⟨_, _, _, _, _, s _ _ e1⟩
end
theorem nod_eds (es : List Ed) (im : ∀ e ∈ es, e.Imm) : nod (.lst (es.map Ed.tr)) = true := by
  rw [nod]
  refine nods_all fun d hd => ?_
  obtain ⟨e, he, rfl⟩ := List.mem_map.mp hd
  exact e.nod (im e he)
theorem q_rng1 {ta : TA} {R : It → Hp → Prop} {σ : L2.St} {H : Hp} (h : ta σ H fun vs H1 => ∃ j : Int, vs = [.int j] ∧ -(2 ^ 62) ≤ j ∧ j < 2 ^ 62 ∧ R (Itr 0 j.toNat) H1) : iRng1 ta σ H R := h
theorem eqE {d e : Tr} (hd : Ent d) (he : Ent e) (h : eqb d e = true) : d = e := by
  cases hd with
  | int i => cases he with
    | int j =>
      have z : (i == j) = true := h
      rw [eq_of_beq z]
    | tup k => cases h
    | word => cases h
  | tup k => cases he with
    | int j => cases h
    | tup k2 =>
      have z : (("b" : Str) == "b" && ((k == k2) && true)) = true := h
      rw [Bool.and_true, Bool.and_eq_true] at z
      rw [eq_of_beq z.2]
    | word => cases h
  | word => cases he with
    | int j => cases h
    | tup k => cases h
    | word => rfl
theorem Gd.ent {h g : Hs} (x : Gd h g) {k n : Str} {d : Tr} (e : TU.ent g k n = some d) : Ent d := by
  unfold TU.ent at e
  cases q : lk g k with
  | none => rw [q] at e; cases e
  | some t =>
    rw [q] at e
    exact All.lk x.en q e
theorem dep_eds {es : List Ed} (h : ∀ e ∈ es, EdP Ent e) : TU.dep (.lst (es.map Ed.tr)) ≤ 60 := by
  have z : deps (es.map Ed.tr) ≤ 51 := deps_all fun d hd => by
    obtain ⟨e, he, rfl⟩ := List.mem_map.mp hd
    exact Ed.dep fun k n d z => (h e he k n d z).dep
  simp only [TU.dep]
  omega
theorem way_ed {h : Hs} {vs : List Ver} (g : Gv h vs) {a n : Nat} (hn : a + n < vs.length) : ∀ e ∈ wayF vs a n, EdP Ent e := fun e m => by
  obtain ⟨k, hk, hm⟩ := List.mem_flatMap.mp m
  have hk := List.mem_range.mp hk
  exact g.ed _ (vAt_mem (k := a + 1 + k) (by omega)).1 e hm
theorem row_of {h : Hs} : ∀ {vs : List Ver} {v : Ver}, (∀ u ∈ v :: vs, VOk u) → (∀ u ∈ v :: vs, cpH u.h = u.h) → (∀ (i : Nat) (a b : Ver), (v :: vs)[i]? = some a → (v :: vs)[i + 1]? = some b → ∃ f, appAll (cpH a.h) b.es = .ok f ∧ cpH f = b.h) → Row v.h (vs.map Ver.h) (vs.map Ver.es)
  | [], v, _, _, _ => trivial
  | u :: vs, v, ok, cp, ch => by
    refine ⟨?_, ?_, row_of (h := h) (fun w m => ok w (List.mem_cons_of_mem _ m)) (fun w m => cp w (List.mem_cons_of_mem _ m)) fun i a b e1 e2 => ch (i + 1) a b (by simpa using e1) (by simpa using e2)⟩
    · exact ch 0 v u rfl rfl
    · have a := ok v List.mem_cons_self
      have b := ok u (List.mem_cons_of_mem _ List.mem_cons_self)
      exact ⟨a.wf, a.fit, a.len, b.imm, b.few⟩
-- law: 0 script, 1 jar, 2 at, 3 house, 4 before, 5 past, 6 mine, 7 lists, 8 many, 9 turn, 10 k, 11 edits, 12 one, 13 two, 14 way, 15 ahead, 16 back, 17 told
theorem sc_law : FnScope ["script", "jar", "at", "house", "before", "past", "mine", "lists", "many", "turn", "k", "edits", "one", "two", "way", "ahead", "back", "told"] ["script"] (defScope s_law) := ⟨rfl, rfl, rfl, by decide +kernel, rfl, by decide +kernel, by decide +kernel⟩
theorem d_law (B : Bt mg) (F : TopF K mg "law" s_law ["script"]) (Kl_History : Kl K mg "History" C_History ["houses", "labels", "lists", "now"]) (D_law_stale : Df P w K mg base "_law_stale" ["past", "one", "two"] 8 (spLS C_History K)) (D_law_same : Df P w K mg base "_law_same" ["told", "house"] 1 (spSame K)) (D_History_house_at : Dm P w K mg base C_History "house_at" ["self", "version"] 4 (spHA C_History C_Stale K)) (D_replayed : Df P w K mg base "replayed" ["house", "lists"] 7 (spRP K)) (D_apply_edits : Df P w K mg base "apply_edits" ["house", "edits"] 6 (spAE K C_Unknown)) (D_difference : Df P w K mg base "difference" ["house", "other"] 3 (spDF K C_Misfit)) (D_law_replay : Df P w K mg base "_law_replay" ["house", "edits"] 4 (spLR K)) (D_History_way_of : Dm P w K mg base C_History "way_of" ["self", "first", "last"] 7 (spWO C_History C_Stale K)) (D_History_count : Dm P w K mg base C_History "count" ["self"] 1 (spHn C_History K)) (D_History_commit : Dm P w K mg base C_History "commit" ["self", "edits", "label"] 7 (spHC C_History C_Unknown C_TooMany K)) (D_law_edits : Df P w K mg base "_law_edits" ["jar", "at", "house", "many"] 4 (spEds K)) (D_law_draw : Df P w K mg base "_law_draw" ["jar", "at", "many"] 1 (spDraw)) (D_History_undo : Dm P w K mg base C_History "undo" ["self"] 1 (spHU C_History K)) (D_law_copy : Df P w K mg base "_law_copy" ["house"] 1 (spCH K)) (D_History___init : Dm P w K mg base C_History "__init__" ["self", "house"] 2 (spHI C_History K)) (D_law_house : Df P w K mg base "_law_house" ["jar", "at"] 3 (spHouse K)) (D_law_jar : Df P w K mg base "_law_jar" ["script"] 1 (spJar K)) : ∃ fa, mg "law" = some (.ref fa) ∧ TopOk P w K mg base fa (spLaw K) := by
  refine top_ok (k := 8) F sc_law ⟨rfl, by decide, by decide⟩ (fun f cdv A s H vs Q E hg hr h => ?body)
  case body =>
   have hu := hr.units
   have hgd : (A.deeper (envOfC "law" (defScope s_law) s.heap.objs.size f cdv)).guards = some [] := hg
   refine ⟨_, (pss_cons (ps_set (i := 1) sc_law.nd rfl (Or.inl rfl) (pe_df D_law_jar (hr.mono (by decide)) (fun σ => passAt (takes_of rfl rfl rfl rfl) σ) (pa_cons (pv 0) pa_nil)))
      (pss_cons (ps_set (i := 2) sc_law.nd rfl (Or.inl rfl) (pe_lst (pa_cons pe_int pa_nil)))
      (pss_cons (ps_set (i := 3) sc_law.nd rfl (Or.inl rfl) (pe_df D_law_house (hr.mono (by decide)) (fun σ => passAt (takes_of rfl rfl rfl rfl) σ) (pa_cons (pv 1) (pa_cons (pv 2) pa_nil))))
      (pss_cons (ps_set (i := 4) sc_law.nd rfl (Or.inl rfl) (pe_callB (k_repr (K := K) rfl hgd hu) (by rfl) B.b_repr (by decide +kernel) (pa_cons (pv 3) pa_nil)))
      (pss_cons (ps_set (i := 5) sc_law.nd rfl (Or.inl rfl) (pe_mkC Kl_History D_History___init (hr.mono (by decide)) (pa_cons (pv 3) pa_nil)))
      (pss_cons (ps_set (i := 6) sc_law.nd rfl (Or.inl rfl) (pe_lst (pa_cons (pe_df D_law_copy (hr.mono (by decide)) (fun σ => passAt (takes_of rfl rfl rfl rfl) σ) (pa_cons (pv 3) pa_nil)) pa_nil)))
      (pss_cons (ps_set (i := 7) sc_law.nd rfl (Or.inl rfl) (pe_lst pa_nil))
      (pss_cons (ps_set (i := 8) sc_law.nd rfl (Or.inl rfl) (pe_df D_law_draw (hr.mono (by decide)) (fun σ => passAt (takes_of rfl rfl rfl rfl) σ) (pa_cons (pv 1) (pa_cons (pv 2) (pa_cons pe_int pa_nil)))))
      (pss_cons (ps_set (i := 9) sc_law.nd rfl (Or.inl rfl) (pe_df D_law_draw (hr.mono (by decide)) (fun σ => passAt (takes_of rfl rfl rfl rfl) σ) (pa_cons (pv 1) (pa_cons (pv 2) (pa_cons pe_int pa_nil)))))
      (pss_cons (ps_for (passes_of rfl) rfl (pi_range1 (by rfl) B.b_range (pa_cons (pv 8) pa_nil)) (pg_name (i := 10) sc_law.nd rfl (Or.inl rfl))
      (pss_cons (ps_if (PW.pt (pw_and (pt_cmpR (k_eq (K := K) rfl hu) (pv 10) (pv 9) (nomark _)) (pw_and1 (pt_cmpR op_gt (pe_callB (k_len (K := K) rfl) (by rfl) B.b_len (by decide +kernel) (pa_cons (pv 7) pa_nil)) pe_int (nomark _)))))
      (pss_cons (ps_if (pt_cmpR (k_neW (K := K) rfl hu) (pe_dm0 (pv 5) Kl_History D_History_undo (hr.mono (by decide)) (fun σ => passAt (takes_of rfl rfl rfl rfl) σ)) (pe_op op_sub (pe_callB (k_len (K := K) rfl) (by rfl) B.b_len (by decide +kernel) (pa_cons (pv 7) pa_nil)) pe_int) (nomark _))
      (pss_one (ps_ret pe_bl))
      pss_nil)
      (pss_cons (ps_expr (k_popL (K := K) rfl (pv 6)))
      (pss_one (ps_expr (k_popL (K := K) rfl (pv 7))))))
      pss_nil)
      (pss_cons (ps_set (i := 11) sc_law.nd rfl (Or.inl rfl) (pe_df D_law_edits (hr.mono (by decide)) (fun σ => passAt (takes_of rfl rfl rfl rfl) σ) (pa_cons (pv 1) (pa_cons (pv 2) (pa_cons (pe_ix (k_ix (K := K) rfl hu) (pv 6) (pe_op op_sub (pe_callB (k_len (K := K) rfl) (by rfl) B.b_len (by decide +kernel) (pa_cons (pv 6) pa_nil)) pe_int) (fun _ _ => rfl)) (pa_cons (pe_df D_law_draw (hr.mono (by decide)) (fun σ => passAt (takes_of rfl rfl rfl rfl) σ) (pa_cons (pv 1) (pa_cons (pv 2) (pa_cons pe_int pa_nil)))) pa_nil))))))
      (pss_cons (ps_if (pt_cmpR (k_neW (K := K) rfl hu) (pe_dm (pv 5) Kl_History D_History_commit (hr.mono (by decide)) (fun σ => passAt (takes_of rfl rfl rfl rfl) σ) (pa_cons (pe_callTy (k_list (K := K) rfl rfl) (by rfl) B.b_list (by decide +kernel) (pa_cons (pv 11) pa_nil)) (pa_cons (pe_op (k_add (K := K) rfl) pe_str (pe_callTy call_str_int (by rfl) B.b_str (by decide +kernel) (pa_cons (pv 10) pa_nil))) pa_nil))) (pe_callB (k_len (K := K) rfl) (by rfl) B.b_len (by decide +kernel) (pa_cons (pv 6) pa_nil)) (nomark _))
      (pss_one (ps_ret pe_bl))
      pss_nil)
      (pss_cons (ps_expr (k_append (K := K) rfl (pv 7) (pa_cons (pv 11) pa_nil)))
      (pss_one (ps_expr (k_append (K := K) rfl (pv 6) (pa_cons (pe_df D_law_replay (hr.mono (by decide)) (fun σ => passAt (takes_of rfl rfl rfl rfl) σ) (pa_cons (pe_ix (k_ix (K := K) rfl hu) (pv 6) (pe_op op_sub (pe_callB (k_len (K := K) rfl) (by rfl) B.b_len (by decide +kernel) (pa_cons (pv 6) pa_nil)) pe_int) (fun _ _ => rfl)) (pa_cons (pv 11) pa_nil))) pa_nil)))))))))
      (pss_cons (ps_if (pt_cmpR (k_neW (K := K) rfl hu) (pe_dm0 (pv 5) Kl_History D_History_count (hr.mono (by decide)) (fun σ => passAt (takes_of rfl rfl rfl rfl) σ)) (pe_callB (k_len (K := K) rfl) (by rfl) B.b_len (by decide +kernel) (pa_cons (pv 6) pa_nil)) (nomark _))
      (pss_one (ps_ret pe_bl))
      pss_nil)
      (pss_cons (ps_for (passes_of rfl) rfl (pi_range1 (by rfl) B.b_range (pa_cons (pe_callB (k_len (K := K) rfl) (by rfl) B.b_len (by decide +kernel) (pa_cons (pv 6) pa_nil)) pa_nil)) (pg_name (i := 12) sc_law.nd rfl (Or.inl rfl))
      (pss_one (ps_for (passes_of rfl) rfl (pi_range1 (by rfl) B.b_range (pa_cons (pe_callB (k_len (K := K) rfl) (by rfl) B.b_len (by decide +kernel) (pa_cons (pv 6) pa_nil)) pa_nil)) (pg_name (i := 13) sc_law.nd rfl (Or.inl rfl))
      (pss_cons (ps_set (i := 14) sc_law.nd rfl (Or.inl rfl) (pe_dm (pv 5) Kl_History D_History_way_of (hr.mono (by decide)) (fun σ => passAt (takes_of rfl rfl rfl rfl) σ) (pa_cons (pv 12) (pa_cons (pv 13) pa_nil))))
      (pss_cons (ps_if (PW.pt (pw_or (pt_not (k_tr (K := K) rfl (pe_callB (k_isi (K := K) rfl) (by rfl) B.b_isinstance (by decide +kernel) (pa_cons (pv 14) (pa_cons (pe_bltn (v := .ty "list") (by rfl) B.b_list (by decide +kernel) rfl) pa_nil))))) (pw_or1 (pt_cmpR (k_neW (K := K) rfl hu) (pe_df D_law_replay (hr.mono (by decide)) (fun σ => passAt (takes_of rfl rfl rfl rfl) σ) (pa_cons (pe_ix (k_ix (K := K) rfl hu) (pv 6) (pv 12) (fun _ _ => rfl)) (pa_cons (pv 14) pa_nil))) (pe_ix (k_ix (K := K) rfl hu) (pv 6) (pv 13) (fun _ _ => rfl)) (nomark _)))))
      (pss_one (ps_ret pe_bl))
      pss_nil)
      (pss_cons (ps_set (i := 15) sc_law.nd rfl (Or.inl rfl) (pe_lst pa_nil))
      (pss_cons (ps_for (passes_of rfl) rfl (pi_range2 (by rfl) B.b_range (pa_cons (pv 12) (pa_cons (pv 13) pa_nil))) (pg_name (i := 10) sc_law.nd rfl (Or.inl rfl))
      (pss_one (ps_set (i := 15) sc_law.nd rfl (Or.inl rfl) (pe_op (k_add (K := K) rfl) (pv 15) (pe_ix (k_ix (K := K) rfl hu) (pv 7) (pv 10) (fun _ _ => rfl))))))
      (pss_cons (ps_if (PW.pt (pw_and (pt_cmpR op_le (pv 12) (pv 13) (nomark _)) (pw_and1 (pt_cmpR (k_neW (K := K) rfl hu) (pv 14) (pv 15) (nomark _)))))
      (pss_one (ps_ret pe_bl))
      pss_nil)
      (pss_cons (ps_set (i := 16) sc_law.nd rfl (Or.inl rfl) (pe_dm (pv 5) Kl_History D_History_way_of (hr.mono (by decide)) (fun σ => passAt (takes_of rfl rfl rfl rfl) σ) (pa_cons (pv 13) (pa_cons (pv 12) pa_nil))))
      (pss_cons (ps_if (pt_cmpR (k_neW (K := K) rfl hu) (pe_df D_law_replay (hr.mono (by decide)) (fun σ => passAt (takes_of rfl rfl rfl rfl) σ) (pa_cons (pe_ix (k_ix (K := K) rfl hu) (pv 6) (pv 12) (fun _ _ => rfl)) (pa_cons (pe_op (k_add (K := K) rfl) (pv 14) (pv 16)) pa_nil))) (pe_ix (k_ix (K := K) rfl hu) (pv 6) (pv 12) (fun _ _ => rfl)) (nomark _))
      (pss_one (ps_ret pe_bl))
      pss_nil)
      (pss_one (ps_if (pt_not (k_tr (K := K) rfl (pe_df D_law_same (hr.mono (by decide)) (fun σ => passAt (takes_of rfl rfl rfl rfl) σ) (pa_cons (pe_df D_apply_edits (hr.mono (by decide)) (fun σ => passAt (takes_of rfl rfl rfl rfl) σ) (pa_cons (pe_dm (pv 5) Kl_History D_History_house_at (hr.mono (by decide)) (fun σ => passAt (takes_of rfl rfl rfl rfl) σ) (pa_cons (pv 12) pa_nil)) (pa_cons (pe_df D_difference (hr.mono (by decide)) (fun σ => passAt (takes_of rfl rfl rfl rfl) σ) (pa_cons (pe_ix (k_ix (K := K) rfl hu) (pv 6) (pv 12) (fun _ _ => rfl)) (pa_cons (pe_ix (k_ix (K := K) rfl hu) (pv 6) (pv 13) (fun _ _ => rfl)) pa_nil))) pa_nil))) (pa_cons (pe_ix (k_ix (K := K) rfl hu) (pv 6) (pv 13) (fun _ _ => rfl)) pa_nil)))))
      (pss_one (ps_ret pe_bl))
      pss_nil))))))))))))
      (pss_cons (ps_set (i := 17) sc_law.nd rfl (Or.inl rfl) (pe_df D_replayed (hr.mono (by decide)) (fun σ => passAt (takes_of rfl rfl rfl rfl) σ) (pa_cons (pv 3) (pa_cons (pe_lockU (pe_lc (own := [("edits", 11)]) (by rfl) sc_law.nd (k_walk (K := K) rfl (pv 7)) (blkOk_by (by kernel_rfl)) (fun _ _ _ _ _ => (pg_name (i := 11) sc_law.nd rfl (Or.inl rfl))) (fun _ _ _ _ _ => pts_nil) (fun _ _ _ _ _ => (pe_callTy (k_list (K := K) rfl rfl) (by rfl) B.b_list (by decide +kernel) (pa_cons (pv 11) pa_nil))))) pa_nil))))
      (pss_cons (ps_if (PW.pt (pw_or (pt_not (k_tr (K := K) rfl (pe_callB (k_isi (K := K) rfl) (by rfl) B.b_isinstance (by decide +kernel) (pa_cons (pv 17) (pa_cons (pe_bltn (v := .ty "list") (by rfl) B.b_list (by decide +kernel) rfl) pa_nil))))) (pw_or1 (pt_cmpR (k_neW (K := K) rfl hu) (pe_callB (k_len (K := K) rfl) (by rfl) B.b_len (by decide +kernel) (pa_cons (pv 17) pa_nil)) (pe_callB (k_len (K := K) rfl) (by rfl) B.b_len (by decide +kernel) (pa_cons (pv 6) pa_nil)) (nomark _)))))
      (pss_one (ps_ret pe_bl))
      pss_nil)
      (pss_cons (ps_for (passes_of rfl) rfl (pi_range1 (by rfl) B.b_range (pa_cons (pe_callB (k_len (K := K) rfl) (by rfl) B.b_len (by decide +kernel) (pa_cons (pv 6) pa_nil)) pa_nil)) (pg_name (i := 10) sc_law.nd rfl (Or.inl rfl))
      (pss_one (ps_if (PW.pt (pw_or (pt_not (k_tr (K := K) rfl (pe_df D_law_same (hr.mono (by decide)) (fun σ => passAt (takes_of rfl rfl rfl rfl) σ) (pa_cons (pe_ix (k_ix (K := K) rfl hu) (pv 17) (pv 10) (fun _ _ => rfl)) (pa_cons (pe_ix (k_ix (K := K) rfl hu) (pv 6) (pv 10) (fun _ _ => rfl)) pa_nil))))) (pw_or1 (pt_not (k_tr (K := K) rfl (pe_df D_law_same (hr.mono (by decide)) (fun σ => passAt (takes_of rfl rfl rfl rfl) σ) (pa_cons (pe_dm (pv 5) Kl_History D_History_house_at (hr.mono (by decide)) (fun σ => passAt (takes_of rfl rfl rfl rfl) σ) (pa_cons (pv 10) pa_nil)) (pa_cons (pe_ix (k_ix (K := K) rfl hu) (pv 6) (pv 10) (fun _ _ => rfl)) pa_nil))))))))
      (pss_one (ps_ret pe_bl))
      pss_nil)))
      (pss_cons (ps_if (PW.pt (pw_or (pt_cmpR (k_neW (K := K) rfl hu) (pe_df D_law_stale (hr.mono (by decide)) (fun σ => passAt (takes_of rfl rfl rfl rfl) σ) (pa_cons (pv 5) (pa_cons (pe_un un_neg pe_int) (pa_cons (pe_callB (k_len (K := K) rfl) (by rfl) B.b_len (by decide +kernel) (pa_cons (pv 6) pa_nil)) pa_nil)))) (pe_un un_neg pe_int) (nomark _)) (pw_or (pt_cmpR (k_neW (K := K) rfl hu) (pe_df D_law_stale (hr.mono (by decide)) (fun σ => passAt (takes_of rfl rfl rfl rfl) σ) (pa_cons (pv 5) (pa_cons pe_int (pa_cons (pe_callB (k_len (K := K) rfl) (by rfl) B.b_len (by decide +kernel) (pa_cons (pv 6) pa_nil)) pa_nil)))) (pe_callB (k_len (K := K) rfl) (by rfl) B.b_len (by decide +kernel) (pa_cons (pv 6) pa_nil)) (nomark _)) (pw_or1 (pt_cmpR (k_neW (K := K) rfl hu) (pe_df D_law_stale (hr.mono (by decide)) (fun σ => passAt (takes_of rfl rfl rfl rfl) σ) (pa_cons (pv 5) (pa_cons (pe_callB (k_len (K := K) rfl) (by rfl) B.b_len (by decide +kernel) (pa_cons (pv 6) pa_nil)) (pa_cons pe_int pa_nil)))) (pe_callB (k_len (K := K) rfl) (by rfl) B.b_len (by decide +kernel) (pa_cons (pv 6) pa_nil)) (nomark _))))))
      (pss_one (ps_ret pe_bl))
      pss_nil)
      (pss_one (ps_ret (pe_cmpR (k_eq (K := K) rfl hu) (pe_callB (k_repr (K := K) rfl hgd hu) (by rfl) B.b_repr (by decide +kernel) (pa_cons (pv 3) pa_nil)) (pv 4) (nomark _)))))))))))))))))))), ?_⟩
   obtain ⟨a0, ns, rfl, hns, hlen, hq⟩ := h
   walk_at "g"
   refine ⟨a0, ns, rfl, hns, hlen, fun j H1 ms s1 hj0 hj ml mb => ?_⟩
   walk_at "g"
   intro a ha
   have hja : j ≠ a := ne_of_none hj ha
   have s2 := same_new (o := .lst [.int 0]) ha
   have R0 : Rnd (upd H1 a (.lst [.int 0])) j a 0 := ⟨⟨ms, s2 _ _ hj, ml, mb⟩, upd_same, hja, Int.le_refl _⟩
   generalize upd H1 a (.lst [.int 0]) = H2 at R0
   clear s1 s2
   walk_at "g"
   refine ⟨j, a, 0, rfl, R0, by decide, fun r h H3 p3 k3 R3 p30 p31 hr0 o3 hG => ?_⟩
   have nb : ∀ z, H2 z = none → z ≠ a := fun z e => (R0.ja e).2
   have hl13 := hG.len
   obtain ⟨before, hbef⟩ : ∃ x, x = (py (.dic (hK h))).shown := ⟨_, rfl⟩
   have th3 : T K H3 (fun z => z ≠ a ∧ H3 z ≠ none) (.ref r) (.dic (hK h)) := ((o3.imp nb).T).livek (nol_house hG.wf)
   walk_at "g"
   refine q_reprN th3 hG.vw (by decide) (by decide) ?_
   rw [← hbef]
   walk_at "g"
   intro p dx hp hdx hne
   have s4 : Same H3 (upd (upd H3 dx (.own p)) p (.ins C_History dx [])) := (same_new hdx).trans (same_new (by rw [upd_ne (Ne.symm hne)]; exact hp))
   have f60 : Fits 60 h := fun q hq => Nat.le_trans (hG.fit q hq) (by decide)
   refine ⟨_, p, dx, r, h, rfl, upd_same, th3.mono s4, fun z n e => n.2 (by rw [e]; exact hp), hG.wf, f60, by omega, fun H5 k5 hi5 => ⟨rfl, ?_⟩⟩
   have s5 : Same H3 H5 := fun z u e => k5 _ _ (ne_of_none e hp) (s4 _ _ e)
   have hi6 := (hi5.live fun v m => by
     rw [List.mem_singleton.mp m]
     exact hG.wf.cp).imp (N' := fun z => z ≠ a ∧ z ≠ p ∧ H5 z ≠ none) fun z e => ⟨fun q => (ne_of_none R3.at_ (s4.free e.1)) q.symm, fun q => (ne_of_none (upd_same : upd (upd H3 dx (.own p)) p (.ins C_History dx []) p = _) e.1) q.symm, e.2⟩
   have th5 := (th3.mono s5).imp fun z e => (⟨e.1, fun q => e.2 (by rw [q]; exact hp), fun q => e.2 (s5.free q)⟩ : z ≠ a ∧ z ≠ p ∧ H5 z ≠ none)
   have R5 := R3.same s5
   obtain ⟨dx5, fs5, ep5⟩ : ∃ d fs, H5 p = some (.ins C_History d fs) := by
     obtain ⟨dx, lh, ll, le, xh, xe, e1, _⟩ := hi6.ex
     exact ⟨_, _, e1⟩
   clear th3 hi5 k5
   walk_at "g"
   refine ⟨_, r, h, rfl, th5, hG.wf, f60, by omega, fun q H6 s6 o6 => ?_⟩
   walk_at "g"
   intro m hm
   walk_at "g"
   intro l hl
   have s7 := same_new (o := .lst [.ref q]) hm
   have ml : m ≠ l := fun e => by
     rw [e, upd_same] at hl
     cases hl
   have hl6 : H6 l = none := s7.free hl
   have s8 := s7.trans (same_new (o := .lst []) hl)
   have s58 := s6.trans s8
   have hm5 : H5 m = none := s6.free hm
   have hl5 : H5 l = none := s6.free hl6
   have D : Dst j a p m l := ⟨ne_of_none (R3.ex.choose_spec.1) hp, ne_of_none (R5.ex.choose_spec.1) hm5, ne_of_none (R5.ex.choose_spec.1) hl5, ne_of_none R3.at_ hp, ne_of_none R5.at_ hm5, ne_of_none R5.at_ hl5, ne_of_none ep5 hm5, ne_of_none ep5 hl5, ml⟩
   have sb : ∀ z, z ≠ a ∧ z ≠ p ∧ H5 z ≠ none → Stb a p m l z := fun z n => ⟨n.1, n.2.1, fun e => n.2.2 (by rw [e]; exact hm5), fun e => n.2.2 (by rw [e]; exact hl5)⟩
   have G0 : Gv h [⟨cpH h, "", []⟩] := ⟨⟨⟨fun v m => by
       rw [List.mem_singleton.mp m]
       exact vok_of hl13.2 hG.gd (fun _ m => nomatch m) (by decide), fun i u v e1 e2 => by simp at e2⟩, fun v m => by
       rw [List.mem_singleton.mp m]
       exact hG.gd.cp⟩, fun v m => by
       rw [List.mem_singleton.mp m]
       exact hG.gd, fun v m => by
       rw [List.mem_singleton.mp m]
       exact (by decide : 0 ≤ 3), ⟨[], rfl⟩, fun v m => by
       rw [List.mem_singleton.mp m]
       exact fun _ z => nomatch z⟩
   have x8 : S79 C_History K h j a r p m l [⟨cpH h, "", []⟩] [⟨cpH h, "", []⟩] (upd (upd H6 m (.lst [.ref q])) l (.lst [])) p3 := by
     refine ⟨(R5.same s6).same s8, (th5.mono s58).imp sb, ⟨[.ref q], by rw [upd_ne ml]; exact upd_same, .cons ?_ .nil⟩, ⟨[], upd_same, .nil⟩, (hi6.mono s58).imp sb, rfl, Nat.zero_lt_one, G0⟩
     have t6 := o6.T.livek (nol_house hG.wf.cp)
     exact (t6.mono s8).imp fun z e => ⟨fun q => (ne_of_none R5.at_ e.1) q.symm, fun q => (ne_of_none ep5 e.1) q.symm, fun q => e.2 (by rw [q]; exact hm), fun q => e.2 (by rw [q]; exact hl6)⟩
   generalize upd (upd H6 m (.lst [.ref q])) l (.lst []) = H8 at x8
   clear s6 s7 s8 s58 hm5 hl5 hl6 hm hl o6 R5 R3 th5 hi6 s5 s4 hp hdx hne ep5
   have lst0 : ∀ {Hx : Hp} {px : Int}, Rnd Hx j a px → ∀ xs, ¬ Rd Hx a (.tup xs) := fun R => nt_lst R.at_
   walk_at "g"
   refine ⟨j, a, p3, 7, rfl, x8.R, Int.le_trans (show p3 ≤ 400 by omega) (by decide), by decide, fun v p4 v0 v1 p40 p41 => ?_⟩
   obtain ⟨many, rfl⟩ : ∃ n : Nat, v = n := ⟨v.toNat, by omega⟩
   have x9 := x8.kp D.am.symm D.al.symm D.ap.symm (Kp.upd (a := a) (o := .lst [.int p4])) (x8.R.set (p' := p4) (by omega))
   generalize upd H8 a (.lst [.int p4]) = H9 at x9
   walk_at "g"
   refine ⟨j, a, p4, 9, rfl, x9.R, Int.le_trans (show p4 ≤ 420 by omega) (by decide), by decide, fun turn p5 w0 w1 p50 p51 => ?_⟩
   have x10 := x9.kp D.am.symm D.al.symm D.ap.symm (Kp.upd (a := a) (o := .lst [.int p5])) (x9.R.set (p' := p5) (by omega))
   generalize upd H9 a (.lst [.int p5]) = H10 at x10
   clear x8 x9
   walk_at "g"
   refine ⟨.int many, rfl, many, rfl, ?_, ?_, ?_⟩
   · omega
   · omega
   refine for_rng (lo := 0) (n := many) (fun i σ Hi => ∃ (v10 v11 : Option V) (vs : List Ver) (pi : Int), σ = [some (.ref a0), some (.ref j), some (.ref a), some (.ref r), some (.str before), some (.ref p), some (.ref m), some (.ref l), some (.int many), some (.int turn), v10, v11, none, none, none, none, none, none] ∧ S79 C_History K h j a r p m l vs vs Hi pi ∧ vs.length ≤ i + 1 ∧ pi ≤ 500 + 110 * i) ?_ ?_ ?_
   · exact ⟨none, none, _, _, rfl, x10, Nat.le_refl 1, by omega⟩
   · rintro i σ Hi hi ⟨v10, v11, vs, pi, rfl, x, hvl, hpi⟩
     refine q_then (P := fun σ' Hj => ∃ (vs vf : List Ver), σ' = [some (.ref a0), some (.ref j), some (.ref a), some (.ref r), some (.str before), some (.ref p), some (.ref m), some (.ref l), some (.int many), some (.int turn), some (.int (0 + i)), v11, none, none, none, none, none, none] ∧ S79 C_History K h j a r p m l vs vf Hj pi ∧ vs.length ≤ i + 1) ?_ ?_
     · rintro σ' Hj ⟨vs, vf, rfl, x, hvl⟩
       walk_at "g"
       obtain ⟨xm, m1, m2⟩ := x.xm
       obtain ⟨ws, u, e⟩ := x.end_
       have len2 : vs.length = ws.length + 1 := by rw [e, List.length_append, List.length_singleton]
       have lm : xm.length = vs.length := by rw [m2.length]; exact List.length_map _
       have tu : ∀ {Hx : Hp} {ym : List V}, Ts K Hx (Stb a p m l) ym (vH vs) → ∃ ru, ym[ws.length]? = some (.ref ru) ∧ T K Hx (Stb a p m l) (.ref ru) (.dic (hK u.h)) := fun {Hx ym} t => by
         have eu : (vH vs)[ws.length]? = some (.dic (hK u.h)) := by
           rw [e]
           unfold vH
           rw [List.map_append, show ws.length = (ws.map fun v : Ver => Tr.dic (hK v.h)).length from (List.length_map _).symm]
           exact List.getElem?_concat_length
         obtain ⟨v, e1, t1⟩ := Ts.at_ t eu
         obtain ⟨ru, es, ev, _⟩ := t1.dicAt
         rw [ev] at e1 t1
         exact ⟨ru, e1, t1⟩
       obtain ⟨ru, eu, tru⟩ := tu m2
       refine q_lenL (.inl (.inl m1)) ?_
       walk_at "g"
       refine q_ixL (.inl (.inl m1)) ((by rw [show ((xm.length : Nat) : Int) - 1 = (ws.length : Nat) by omega]; exact atI_nat eu)) ?_
       walk_at "g"
       refine ⟨j, a, pi, 4, rfl, x.R, Int.le_trans (show pi ≤ 1200 by omega) (by decide), by decide, fun v6 p6 v0 v1 p60 p61 => ?_⟩
       obtain ⟨few, rfl⟩ : ∃ n : Nat, v6 = n := ⟨v6.toNat, by omega⟩
       have tru6 := tru.kp (Kp.upd (a := a) (o := .lst [.int p6])) x.R.at_ fun z n => ⟨n, n.1⟩
       have x6 := x.kp D.am.symm D.al.symm D.ap.symm (Kp.upd (a := a) (o := .lst [.int p6])) (x.R.set (p' := p6) (Int.le_trans x.R.p0 p60))
       have m16 := (Kp.upd (a := a) (o := .lst [.int p6])) _ _ D.am.symm m1
       generalize upd Hj a (.lst [.int p6]) = H6 at x6 tru6 m16
       have gu : Gd h u.h := x.g.gd u (by rw [e]; exact List.mem_append_right _ (List.mem_singleton.mpr rfl))
       walk_at "g"
       refine ⟨_, j, a, ru, p6, u.h, few, rfl, x6.R, Int.le_trans (show p6 + 100 ≤ 1400 by omega) (by decide), by omega, fun z n => n.1, tru6, gu.he hG, fun le H7 p7 xe es k7 R7 p70 p71 le0 le1 te7 les heg hok => ?_⟩
       obtain ⟨f, haf⟩ := hok
       have sle := x6.st le le0
       have x7 := x6.kp D.am.symm D.al.symm D.ap.symm k7 R7
       have tru7 := tru6.kp k7 x6.R.at_ fun z n => ⟨n, n.1⟩
       walk_at "g"
       obtain ⟨dx, lh, lb, lle, xh, xe7, e1, _⟩ := x7.hi.ex
       refine ⟨p, dx, _, rfl, e1, hfs_no (by decide +kernel), ?_⟩
       walk_at "g"
       refine q_listL (.inl (.inl le1)) fun lc hlc => ?_
       have s8 := same_new (o := .lst xe) hlc
       have x8 := x7.same s8
       have te8 := te7.mono s8
       have le8 := s8 _ _ le1
       have lc8 : (upd H7 lc (.lst xe)) lc = some (.lst xe) := upd_same
       have tru8 := tru7.mono s8
       have e8 := s8 _ _ e1
       generalize upd H7 lc (.lst xe) = H8 at x8 te8 le8 lc8 tru8 e8
       have sk := str_k ⟨i, by omega⟩
       walk_at "g"
       rw [Int.zero_add]
       refine ⟨i, rfl, sk.2, ?_⟩
       refine q_addS (Nat.le_trans sk.1 (by decide)) ?_
       walk_at "g"
       have ef : vf[ws.length]? = some u := by
         have tk := x.tk
         rw [len2, e] at tk
         have e2 : (vf.take (ws.length + 1))[ws.length]? = some u := by rw [tk]; exact List.getElem?_concat_length
         rw [List.getElem?_take_of_lt (Nat.lt_succ_self _)] at e2
         exact e2
       have hi8 := x8.hi
       rw [show vs.length - 1 = ws.length by omega] at hi8
       have vu : VOk u := x.g.x.ch.1 u (by rw [e]; exact List.mem_append_right _ (List.mem_singleton.mpr rfl))
       refine ⟨_, p, lc, _, vf, ws.length, u, xe, es, rfl, hi8, fun z n => n.2.1, ef, vu, lc8, te8, fun e m => (heg e m).imm, by omega, fun _ => ?_, fun z => absurd (by omega) z⟩
       rw [haf]
       intro H9 k9 hi9
       have KP := k5 (C := C_History) (K := K) D (.inr (.inl rfl)) (nt_ins e8) k9
       obtain ⟨xm8, m18, m28⟩ := x8.xm
       obtain ⟨xl8, l18, l28⟩ := x8.xl
       have R9 := KP.rn D.ap.symm x8.R
       have th9 := KP.t x8.th
       have tru9 := KP.t tru8
       have m19 := k9 _ _ D.pm.symm m18
       have m29 := KP.ts m28
       have l19 := k9 _ _ D.pl.symm l18
       have l29 := KP.el l28
       have te9 := KP.z te8
       have le9 := k9 _ _ sle.2.1 le8
       have hi9 := hi9.imp fun z q => q.elim id (x8.st z)
       have tkv : vf.take (ws.length + 1) = vs := by rw [← len2]; exact x.tk
       rw [tkv] at hi9
       have lm9 : xm8.length = vs.length := by rw [m29.length]; exact List.length_map _
       clear KP k9 hi8 x8 te8 le8 lc8 tru8 e8 x7 x6
       walk_at "g"
       refine q_lenL (.inl (.inl m19)) ?_
       refine .inl (q_neII (by omega) ?_)
       walk_at "g"
       refine tyL l19 ?_
       walk_at "g"
       have lx : xl8.length ≤ 10 := by rw [l29.len]; unfold vL; rw [List.length_map, List.length_tail]; omega
       refine q_append l19 (len_small (by omega)) ?_
       have KL := k5 (C := C_History) (K := K) D (.inr (.inr (.inr rfl))) (nt_lst l19) (Kp.upd (a := l) (o := .lst (xl8 ++ [.ref le])))
       have R10 := KL.rn D.al.symm R9
       have th10 := KL.t th9
       have tru10 := KL.t tru9
       have m110 := KL.k _ _ D.ml m19
       have m210 := KL.ts m29
       have l210 := KL.el l29
       have te10 := KL.z te9
       have le10 := KL.k _ _ sle.2.2.2 le9
       have hi10 := KL.hi D.pl.symm hi9
       have l110 : (upd H9 l (.lst (xl8 ++ [.ref le]))) l = some (.lst (xl8 ++ [.ref le])) := upd_same
       generalize upd H9 l (.lst (xl8 ++ [.ref le])) = H10 at R10 th10 tru10 m110 m210 l210 te10 le10 hi10 l110
       clear KL R9 th9 tru9 m19 m29 l19 l29 te9 le9 hi9
       walk_at "g"
       refine tyL m110 ?_
       walk_at "g"
       refine q_lenL (.inl (.inl m110)) ?_
       walk_at "g"
       obtain ⟨rv, ev, trv⟩ := tu m210
       refine q_ixL (.inl (.inl m110)) (by rw [show ((xm8.length : Nat) : Int) - 1 = (ws.length : Nat) by omega]; exact atI_nat ev) ?_
       walk_at "g"
       refine ⟨_, rv, le, u.h, f, xe, es, 5, rfl, trv, le10, te10, gu.wf, fun e m => (heg e m).imm, gu.fit, by omega, by rw [gu.len]; omega, haf, fun rf H11 s11 o11 => ?_⟩
       walk_at "g"
       refine q_append (s11 _ _ m110) (len_small (by omega)) ?_
       have gv : Gv h (vs ++ [⟨cpH f, ("k" : Str) ++ Str.ofString (toString (i : Int)), es⟩]) := by
         rw [e]
         refine Gv.grow hl13.2 (by rw [← e]; exact x.g) heg (by omega) haf
       have gf := gv.gd _ (List.mem_append_right _ (List.mem_singleton.mpr rfl))
       have tf := o11.T.livek (nol_house gf.wf)
       have lz : ∀ {z q : Addr} {o : HO}, H10 q = some o → H10 z = none → z ≠ q := fun e1 e2 => (ne_of_none e1 e2).symm
       obtain ⟨dx9, _, _, _, _, _, ep, _⟩ := hi10.ex
       have tf2 := tf.imp (P' := Stb a p m l) fun z n => ⟨lz R10.at_ n.1, lz ep n.1, lz m110 n.1, lz l110 n.1⟩
       have KM := k5 (C := C_History) (K := K) (H' := upd H11 m (.lst (xm8 ++ [.ref rf]))) D (.inr (.inr (.inl rfl))) (nt_lst (s11 _ _ m110)) Kp.upd
       refine ⟨_, _, _, p7, rfl, ⟨KM.rn D.am.symm (R10.same s11), KM.t (th10.mono s11), ⟨_, upd_same, ?_⟩, ⟨_, KM.k _ _ D.ml.symm (s11 _ _ l110), ?_⟩, ?_, List.take_length, by rw [List.length_append]; exact Nat.succ_pos _, gv⟩, by rw [List.length_append, List.length_singleton]; omega, by omega⟩
       · unfold vH
         rw [List.map_append]
         exact (KM.ts (m210.mono s11)).append (.cons (KM.t tf2) .nil)
       · rw [List.tail_append_of_ne_nil (by intro q; rw [q] at len2; cases len2)]
         unfold vL
         rw [List.map_append]
         exact (KM.el (l210.mono s11)).append (.cons sle (KM.k _ _ sle.2.2.1 (s11 _ _ le10)) (KM.z (te10.mono s11)) .nil)
       · rw [List.length_append, List.length_singleton, Nat.add_sub_cancel, len2]
         exact KM.hi D.pm.symm (hi10.mono s11)
     · intro rest
       have stay := rest _ _ ⟨vs, vs, rfl, x, hvl⟩
       obtain ⟨xm, m1, m2⟩ := x.xm
       obtain ⟨xl, l1, l2⟩ := x.xl
       walk_at "g"
       refine q_dec (fun c => ?_) (fun c => ?_)
       · walk_at "g"
         refine q_lenL (.inl (.inl l1)) ?_
         walk_at "g"
         refine q_dec (fun c2 => ?_) (fun c2 => ?_)
         · have ll : xl.length = vs.tail.length := by rw [l2.len]; exact List.length_map _
           obtain ⟨ws, u, e⟩ := x.end_
           walk_at "g"
           obtain ⟨dx, lh, lb, le, xh, xe, e1, _⟩ := x.hi.ex
           have len2 : vs.length = ws.length + 1 := by rw [e, List.length_append, List.length_singleton]
           have ws0 : 0 < ws.length := by
             have : 0 < vs.tail.length := by omega
             rw [List.length_tail] at this
             omega
           refine ⟨p, dx, _, rfl, e1, hfs_no (by decide +kernel), ?_⟩
           walk_at "g"
           have hi := x.hi
           rw [show vs.length - 1 = ws.length - 1 + 1 by omega] at hi
           refine ⟨_, p, vs, ws.length - 1, rfl, hi, fun z n => n.2.1, fun Hj kj hij => ?_⟩
           have KP := k5 (C := C_History) (K := K) D (.inr (.inl rfl)) (nt_ins e1) kj
           have m3 := KP.ts m2
           have l3 := KP.el l2
           rw [e] at m3
           unfold vH at m3
           rw [List.map_append] at m3
           obtain ⟨ym, y, rfl, m4, _⟩ := Ts.last2 m3
           obtain ⟨w0, ws1, e0⟩ : ∃ w0 ws1, ws = w0 :: ws1 := by
             cases ws with
             | nil => cases ws0
             | cons a b => exact ⟨a, b, rfl⟩
           have tl : vL vs.tail = vL ws.tail ++ [u.es] := by rw [e, e0]; exact List.map_append
           rw [tl] at l3
           obtain ⟨yl, z, rfl, l4⟩ := EL.last l3
           have mj := kj _ _ D.pm.symm m1
           have lj := kj _ _ D.pl.symm l1
           have Rj := KP.rn D.ap.symm x.R
           have thj := KP.t x.th
           walk_at "g"
           refine q_lenL (.inl (.inl lj)) ?_
           walk_at "g"
           refine .inl (q_neII (by rw [ll, List.length_tail]; omega) ?_)
           walk_at "g"
           refine tyL mj ?_
           refine q_pop mj ?_
           walk_at "g"
           refine tyL (by rw [upd_ne D.ml.symm]; exact lj) ?_
           refine q_pop (by rw [upd_ne D.ml.symm]; exact lj) ?_
           have KM := k5 (C := C_History) (K := K) D (.inr (.inr (.inl rfl))) (nt_lst mj) (Kp.upd (a := m) (o := .lst ym))
           have KL := k5 (C := C_History) (K := K) (H := upd Hj m (.lst ym)) D (.inr (.inr (.inr rfl))) (nt_lst (by rw [upd_ne D.ml.symm]; exact lj)) (Kp.upd (a := l) (o := .lst yl))
           have hi2 := KL.hi D.pl.symm (KM.hi D.pm.symm hij)
           exact rest _ _ ⟨ws, vs, rfl, ⟨KL.rn D.al.symm (KM.rn D.am.symm Rj), KL.t (KM.t thj), ⟨ym, by rw [upd_ne D.ml]; exact upd_same, KL.ts (KM.ts m4)⟩, ⟨yl, upd_same, KL.el (KM.el l4)⟩, hi2, by rw [e]; exact List.take_left, ws0, x.g.sub e ws0⟩, by omega⟩
         · exact stay
       · exact q_f stay
   · rintro σ Hi ⟨v10, v11, vs, pi, rfl, x, hvl, hpi⟩
     obtain ⟨xm, xl, Z⟩ := x.z hG.wf (by omega)
     have st := x.st
     clear x x10 lst0 G0
     have ndx := fun {Hx : Hp} (s : Same Hi Hx) => Z.insT s
     have nz := Z.n
     have lm := Z.lm
     have ll := Z.ll
     walk_at "g"
     obtain ⟨dx, ca, cb, cc, cd, e1⟩ := ndx Same.refl'
     refine ⟨p, dx, _, rfl, e1, hfs_no (by decide +kernel), ?_⟩
     walk_at "g"
     refine ⟨_, p, vs, vs.length - 1, rfl, Z.hi, ?_⟩
     walk_at "g"
     refine q_lenL (.inl (.inl Z.m1)) ?_
     refine .inl (q_neII (by omega) ?_)
     walk_at "g"
     refine q_rng1 ?_
     walk_at "g"
     refine q_lenL (.inl (.inl Z.m1)) ?_
     walk_at "g"
     refine ⟨_, rfl, by omega, by omega, ?_⟩
     rw [Int.toNat_natCast, lm]
     have Same0 : Same Hi Hi := Same.refl'
     refine for_rng (lo := 0) (n := vs.length) (fun i σ Hx => ∃ (v10 v12 v13 v14 v15 v16 : Option V), σ = [some (.ref a0), some (.ref j), some (.ref a), some (.ref r), some (.str before), some (.ref p), some (.ref m), some (.ref l), some (.int many), some (.int turn), v10, v11, v12, v13, v14, v15, v16, none] ∧ Same Hi Hx) ?_ ?_ ?_
     · exact ⟨_, none, none, none, none, none, rfl, Same0⟩
     · rintro one σ Hx hone ⟨v10, v12, v13, v14, v15, v16, rfl, sx⟩
       walk_at "g"
       refine q_rng1 ?_
       walk_at "g"
       refine q_lenL (.inl (.inl (sx _ _ Z.m1))) ?_
       walk_at "g"
       refine ⟨_, rfl, by omega, by omega, ?_⟩
       rw [Int.toNat_natCast, lm]
       refine for_rng (lo := 0) (n := vs.length) (fun i σ Hx => ∃ (v10 v13 v14 v15 v16 : Option V), σ = [some (.ref a0), some (.ref j), some (.ref a), some (.ref r), some (.str before), some (.ref p), some (.ref m), some (.ref l), some (.int many), some (.int turn), v10, v11, some (.int (0 + one)), v13, v14, v15, v16, none] ∧ Same Hi Hx) ?_ ?_ ?_
       · exact ⟨_, _, _, _, _, rfl, sx⟩
       · rintro two σ Hy htwo ⟨v10, v13, v14, v15, v16, rfl, sy⟩
         walk_at "g"
         obtain ⟨dx, ca, cb, cc, cd, e1⟩ := ndx sy
         refine ⟨p, dx, _, rfl, e1, hfs_no (by decide +kernel), ?_⟩
         walk_at "g"
         have hiy := Z.hi.mono sy
         refine ⟨_, p, _, _, vs, vs.length - 1, rfl, hiy, Z.g.x.ch, fun ka kb ea eb hka hkb lw H1 xw s1 lw0 lw1 tw1 => ?_, fun z => absurd (by omega) z, fun _ z => absurd (by omega) z⟩
         obtain rfl : ka = one := by omega
         obtain rfl : kb = two := by omega
         clear ea eb
         have g1 := Z.gd hka
         have g2 := Z.gd hkb
         have s1' := sy.trans s1
         obtain ⟨f1, ap1, cp1⟩ := wayE_ok Z.g.x hka hkb
         have len1 : (wayE vs ka kb).length ≤ 18 := by
           have := wayE_len Z.g.es hka hkb
           omega
         have im1 := wayE_imm Z.g.x hka hkb
         walk_at "g"
         refine q_isiL (.inl (.inl lw1)) ?_
         walk_at "g"
         obtain ⟨r1, x1, _⟩ := Z.at hka Same0
         obtain ⟨r2, x2, _⟩ := Z.at hkb Same0
         have t1 : ∀ {Hx : Hp}, Same Hi Hx → T K Hx (fun z => Hi z ≠ none) (.ref r1) (.dic (hK (vAt vs ka).h)) := fun s => by
           obtain ⟨q, y1, y2⟩ := Z.at hka s
           rw [x1] at y1
           cases y1
           exact y2
         have t2 : ∀ {Hx : Hp}, Same Hi Hx → T K Hx (fun z => Hi z ≠ none) (.ref r2) (.dic (hK (vAt vs kb).h)) := fun s => by
           obtain ⟨q, y1, y2⟩ := Z.at hkb s
           rw [x2] at y1
           cases y1
           exact y2
         have at1 : atI xm (0 + (ka : Int)) = some (.ref r1) := by rw [Int.zero_add]; exact atI_nat x1
         have at2 : atI xm (0 + (kb : Int)) = some (.ref r2) := by rw [Int.zero_add]; exact atI_nat x2
         refine q_ixL (.inl (.inl (s1' _ _ Z.m1))) at1 ?_
         walk_at "g"
         refine ⟨_, r1, lw, _, f1, xw, _, 5, rfl, t1 s1', lw1, tw1, g1.wf, im1, g1.fit, by omega, by rw [g1.len]; omega, ap1, fun rf H2 s2 o2 => ?_⟩
         have s2' := s1'.trans s2
         walk_at "g"
         refine q_ixL (.inl (.inl (s2' _ _ Z.m1))) at2 ?_
         walk_at "g"
         have wf1 : Wf (cpH f1) := (appAll_wf im1 g1.wf.cp ap1).1.cp
         refine .inr ⟨rf, r2, cpH f1, _, _, _, rfl, rfl, o2.T, t2 s2', fun z e1 e2 => e2 (s1'.free e1), wf1, by rw [cp1]; exact g2.sml, by rw [cp1], ?_⟩
         walk_at "g"
         intro la hla
         have s3' := s2'.trans (same_new (o := .lst []) hla)
         have s23 := s2.trans (same_new (o := .lst []) hla)
         have la1 : (upd H2 la (.lst [])) la = some (.lst []) := upd_same
         generalize upd H2 la (.lst []) = H3 at s3' s23 la1
         clear o2
         walk_at "g"
         refine ⟨_, _, rfl, ⟨by omega, by omega, by omega, by omega⟩, ?_⟩
         refine for_rng (n := (0 + (kb : Int) - (0 + (ka : Int))).toNat) (fun i σ Hk => ∃ (v10 : Option V) (la : Addr) (ax : List V), σ = [some (.ref a0), some (.ref j), some (.ref a), some (.ref r), some (.str before), some (.ref p), some (.ref m), some (.ref l), some (.int many), some (.int turn), v10, v11, some (.int (0 + ka)), some (.int (0 + kb)), some (.ref lw), some (.ref la), v16, none] ∧ Same H3 Hk ∧ Hk la = some (.lst ax) ∧ Ts K Hk ff ax ((wayF vs ka i).map Ed.tr)) ?_ ?_ ?_
         · exact ⟨_, la, [], rfl, Same.refl', la1, .nil⟩
         · rintro i σ Hk hik ⟨v10, la, ax, rfl, sk, la1, lax⟩
           have hki : ka + i + 1 < vs.length := by omega
           obtain ⟨b, zs, z1, z2, z3⟩ := Z.es hki (s3'.trans sk)
           have lax1 := lax.length
           rw [List.length_map] at lax1
           have lF : (wayF vs ka i).length ≤ 3 * i := flat_len _ 3 i fun k hk => Z.g.es _ (vAt_mem (by omega)).1
           have lz := z3.length
           rw [List.length_map] at lz
           have lE := Z.g.es _ (vAt_mem hki).1
           walk_at "g"
           refine q_ixL (.inl (.inl (sk _ _ (s3' _ _ Z.l1)))) (by rw [show (0 + (ka : Int) + (i : Int)) = ((ka + i : Nat) : Int) by omega]; exact atI_nat z1) ?_
           walk_at "g"
           refine q_addL la1 z2 (Nat.le_of_lt (len_small (by omega))) fun lb hlb => ?_
           have snb := same_new (o := .lst (ax ++ zs)) hlb
           refine ⟨_, lb, _, rfl, sk.trans snb, upd_same, ?_⟩
           have e9 : wayF vs ka (i + 1) = wayF vs ka i ++ (vAt vs (ka + i + 1)).es := by
             rw [show ka + i + 1 = ka + 1 + i by omega]
             exact flat_succ _ _
           rw [e9, List.map_append]
           exact (lax.append z3).mono snb
         · rintro σ Hk ⟨v10, la, ax, rfl, sk, la1, lax⟩
           have s4' := s3'.trans sk
           have s24 := s23.trans sk
           rw [show (0 + (kb : Int) - (0 + (ka : Int))).toNat = kb - ka by omega] at lax
           walk_at "g1"
           refine q_then (P := fun σ' Hq => σ' = [some (.ref a0), some (.ref j), some (.ref a), some (.ref r), some (.str before), some (.ref p), some (.ref m), some (.ref l), some (.int many), some (.int turn), v10, v11, some (.int (0 + ka)), some (.int (0 + kb)), some (.ref lw), some (.ref la), v16, none] ∧ Hq = Hk) ?_ ?_
           · rintro σ' Hq ⟨rfl, rfl⟩
             walk_at "g"
             obtain ⟨dx, ca, cb, cc, cd, e1⟩ := ndx s4'
             refine ⟨p, dx, _, rfl, e1, hfs_no (by decide +kernel), ?_⟩
             walk_at "g"
             refine ⟨_, p, _, _, vs, vs.length - 1, rfl, Z.hi.mono s4', Z.g.x.ch, fun a2 b2 ea eb ha2 hb2 lk H5 xk s5 lk0 lk1 tk1 => ?_, fun z => absurd (by omega) z, fun _ z => absurd (by omega) z⟩
             obtain rfl : a2 = kb := by omega
             obtain rfl : b2 = ka := by omega
             clear ea eb ha2 hb2
             have s5' := s4'.trans s5
             have s25 := s24.trans s5
             have len2 : (wayE vs a2 b2).length ≤ 18 := by
               have := wayE_len Z.g.es hkb hka
               omega
             have im2 := wayE_imm Z.g.x hkb hka
             obtain ⟨f2, ap2, cp2⟩ := wayBack_ok Z.g.x hka hkb
             walk_at "g"
             refine q_ixL (.inl (.inl (s5' _ _ Z.m1))) at1 ?_
             walk_at "g"
             have lxw := tw1.length
             have lxk := tk1.length
             rw [List.length_map] at lxw lxk
             refine q_addL (s25 _ _ lw1) lk1 (Nat.le_of_lt (len_small (by omega))) fun lz hlz => ?_
             have s6 := same_new (o := .lst (xw ++ xk)) hlz
             have lz1 : (upd H5 lz (.lst (xw ++ xk))) lz = some (.lst (xw ++ xk)) := upd_same
             have tz1 : Ts K (upd H5 lz (.lst (xw ++ xk))) ff (xw ++ xk) ((wayE vs b2 a2 ++ wayE vs a2 b2).map Ed.tr) := by
               rw [List.map_append]
               exact ((tw1.mono s25).append tk1).mono s6
             have s6' := s5'.trans s6
             generalize upd H5 lz (.lst (xw ++ xk)) = H6 at s6' lz1 tz1
             clear s6
             have im3 : ∀ e ∈ wayE vs b2 a2 ++ wayE vs a2 b2, e.Imm := fun e m => (List.mem_append.mp m).elim (im1 e) (im2 e)
             walk_at "g"
             refine ⟨_, r1, lz, _, f2, xw ++ xk, _, 5, rfl, t1 s6', lz1, tz1, g1.wf, im3, g1.fit, by rw [List.length_append]; omega, by rw [g1.len]; omega, ap2, fun rf H7 s7 o7 => ?_⟩
             have s7' := s6'.trans s7
             walk_at "g"
             refine q_ixL (.inl (.inl (s7' _ _ Z.m1))) at1 ?_
             walk_at "g"
             have wf2 : Wf (cpH f2) := (appAll_wf im3 g1.wf.cp ap2).1.cp
             refine .inr ⟨rf, r1, cpH f2, _, _, _, rfl, rfl, o7.T, t1 s7', fun z e1 e2 => e2 (s6'.free e1), wf2, by rw [cp2]; exact g1.sml, by rw [cp2], ?_⟩
             walk_at "g"
             -- difference
             obtain ⟨dx, ca, cb, cc, cd, e1⟩ := ndx s7'
             refine ⟨p, dx, _, rfl, e1, hfs_no (by decide +kernel), ?_⟩
             walk_at "g"
             refine ⟨_, p, _, vs, vs.length - 1, rfl, Z.hi.mono s7', Z.g.x.ch.1, fun i u ei hu rh H8 s8 o8 => ?_, fun z => absurd (by omega) z⟩
             obtain rfl : i = b2 := by omega
             rw [(vAt_mem hka).2] at hu
             cases hu
             have s8' := s7'.trans s8
             walk_at "g"
             refine q_ixL (.inl (.inl (s8' _ _ Z.m1))) at1 ?_
             walk_at "g"
             refine q_ixL (.inl (.inl (s8' _ _ Z.m1))) at2 ?_
             walk_at "g"
             refine ⟨_, r1, r2, _, _, rfl, t1 s8', t2 s8', g1.mok, g2.mok, by rw [g1.len]; omega, by rw [g2.len]; omega, fun _ ld H9 xd s9 ld0 ld1 td1 => ?_, fun z => absurd (by rw [g1.nm, g2.nm]) z⟩
             have s9' := s8'.trans s9
             obtain ⟨f3, ap3, cp3⟩ := dif_ok g1.wf g2.wf (g2.nm.trans g1.nm.symm) (fun k n d e e1 e2 q => eqE (g1.ent e1) (g2.ent e2) q)
             have im4 : ∀ e ∈ dif (vAt vs i).h (vAt vs a2).h, e.Imm := dif_imm g2.wf
             have len4 := dif_len g1.fit g2.fit
             rw [g1.len] at len4
             walk_at "g"
             refine ⟨_, rh, ld, _, xd, _, rfl, o8.T.mono s9, .inl (.inl ld1), td1, g1.wf.cp, im4, ⟨5, g1.fit.cp, by omega⟩, by rw [len_cp, g1.len]; omega, ?_⟩
             rw [cp_cp g1.wf, ap3]
             intro rg H10 s10 o10
             have s10' := s9'.trans s10
             rw [cp3, g2.cp] at o10
             walk_at "g"
             refine q_ixL (.inl (.inl (s10' _ _ Z.m1))) at2 ?_
             walk_at "g"
             refine ⟨_, _, rg, r2, _, rfl, o10.T, t2 s10', g2.wf, g2.sml, g2.asc, fun q hq => Nat.le_trans (g2.fit q hq) (by decide), by rw [g2.len]; omega, fun H11 s11 => ?_⟩
             walk_at "g"
             exact ⟨_, _, _, _, _, rfl, s10'.trans s11⟩
           · intro rest
             have stay := rest _ _ ⟨rfl, rfl⟩
             walk_at "g"
             refine q_dec (fun c => ?_) (fun c => ?_)
             · have eF : wayE vs ka kb = wayF vs ka (kb - ka) := by
                 unfold wayE
                 rw [show ka - kb = 0 by omega]
                 exact List.append_nil _
               have edF : ∀ e ∈ wayF vs ka (kb - ka), EdP Ent e := way_ed Z.g (by omega)
               have tw4 := tw1.mono s24
               rw [eF] at tw4
               rw [eF] at im1
               walk_at "g"
               refine .inl (q_neT (P := fun _ => True) (.lst trivial (.inl (.inl (s24 _ _ lw1))) (tw4.imp fun _ z => z.elim)) (.lst trivial (.inl (.inl la1)) (lax.imp fun _ z => z.elim)) (nod_eds _ im1) (nod_eds _ im1) (dep_eds edF) ?_)
               rw [eqb_refl (nod_eds _ im1)]
               exact ⟨false, rfl, q_f stay⟩
             · exact q_f stay
       · rintro σ Hy ⟨v10, v13, v14, v15, v16, rfl, sy⟩
         exact ⟨_, _, _, _, _, _, rfl, sy⟩
     · rintro σ Hx ⟨v10, v12, v13, v14, v15, v16, rfl, sx⟩
       obtain ⟨ws, evs⟩ := Z.g.hd
       have htl : vs.tail = ws := by rw [evs]; rfl
       have lws : ws.length = vs.length - 1 := by rw [evs]; rfl
       have vpos : 0 < vs.length := by rw [evs]; exact Nat.succ_pos _
       walk_at "g"
       refine .inl ?_
       refine q_lc ?_
       refine q_items ?_
       walk_at "g"
       refine q_itemsE (xs := xl) (.inl (.inl (sx _ _ Z.l1))) ?_
       intro dl hdl
       have snd := same_new (o := .lst []) hdl
       refine lc_any (walk_list (K := K) (a := l) (xs := xl)) (fun i Hy => Same Hx Hy ∧ ∃ acc, Hy dl = some (.lst acc) ∧ EL K (fun z => z ≠ dl) Hy acc ((vL ws).take i) ∧ acc.length = i) ?_ ?_ ?_ ?_
       · exact ⟨snd, [], upd_same, .nil, rfl⟩
       · rintro i Hy _ ⟨sy, _⟩
         exact .inl (.inl (sy _ _ (sx _ _ Z.l1)))
       · rintro i x Hy' Hy hi ⟨sy, acc, ea, pa, la⟩ ⟨rfl, hx⟩
         have hki : i + 1 < vs.length := by omega
         obtain ⟨b, zs, z1, z2, z3⟩ := Z.es hki (sx.trans sy)
         rw [hx] at z1
         cases z1
         walk_at "g"
         refine ⟨rfl, ?_⟩
         walk_at "g"
         refine q_listL (.inl (.inl z2)) fun lc hlc => ?_
         have snc := same_new (o := .lst zs) hlc
         have ec : lc ≠ dl := fun e => by
           rw [e, ea] at hlc
           cases hlc
         refine ⟨acc, snc _ _ ea, len_small (by omega), ?_, _, upd_same, ?_, by rw [List.length_append, la]; rfl⟩
         · intro z u e
           rw [upd_ne (ne_of_none e hdl)]
           exact snc _ _ (sy _ _ e)
         · have ei : (vL ws)[i]? = some (vAt vs (i + 1)).es := by
             unfold vL
             rw [← htl, List.getElem?_map, List.getElem?_tail, (vAt_mem hki).2]
             rfl
           rw [take_more ei]
           have el2 := (pa.mono snc).append (.cons (N := fun z => z ≠ dl) ec upd_same (z3.mono snc) .nil)
           exact el2.keep (keeps_upd (p := dl) (o := .lst (acc ++ [.ref lc]))) (nt_of (snc _ _ ea) (fun _ z => nomatch z) fun _ _ z => nomatch z) fun z n => ⟨n, n⟩
       · rintro Hy ⟨sy, acc, ea, pa, la⟩
         have lvw : (vL ws).length = ws.length := List.length_map _
         rw [List.take_of_length_le (by omega)] at pa
         have sy' := sx.trans sy
         walk_at "g"
         have row : Row (cpH h) (ws.map Ver.h) (vL ws) := by
           have z := row_of (h := h) (v := ⟨cpH h, "", []⟩) (vs := ws) (by rw [← evs]; exact Z.g.x.ch.1) (by rw [← evs]; exact Z.g.x.cp) (by rw [← evs]; exact Z.g.x.ch.2)
           exact z
         refine ⟨_, _, r, dl, h, acc, ws.map Ver.h, vL ws, rfl, Z.th.mono sy', hG.wf, fun q hq => Nat.le_trans (hG.fit q hq) (by decide), by omega, ea, pa, row, by omega, fun lt H1 ys s1 lt0 lt1 tt1 => ?_⟩
         have evH : ((cpH h :: ws.map Ver.h).map fun g => Tr.dic (hK g)) = vH vs := by
           rw [evs]
           unfold vH
           rw [List.map_cons, List.map_cons, List.map_map]
           rfl
         rw [evH] at tt1
         have s1' := sy'.trans s1
         have lys : ys.length = vs.length := by rw [tt1.length]; exact List.length_map _
         walk_at "g"
         refine q_isiL (.inl (.inl lt1)) ?_
         walk_at "g"
         refine q_lenL (.inl (.inl lt1)) ?_
         walk_at "g"
         refine q_lenL (.inl (.inl (s1' _ _ Z.m1))) ?_
         refine .inl (q_neII (by omega) ?_)
         walk_at "g"
         refine q_rng1 ?_
         walk_at "g"
         refine q_lenL (.inl (.inl (s1' _ _ Z.m1))) ?_
         walk_at "g"
         refine ⟨_, rfl, by omega, by omega, ?_⟩
         rw [Int.toNat_natCast, lm]
         refine for_rng (lo := 0) (n := vs.length) (fun i σ Hx => ∃ (v10 : Option V), σ = [some (.ref a0), some (.ref j), some (.ref a), some (.ref r), some (.str before), some (.ref p), some (.ref m), some (.ref l), some (.int many), some (.int turn), v10, v11, v12, v13, v14, v15, v16, some (.ref lt)] ∧ Same H1 Hx) ?_ ?_ ?_
         · exact ⟨_, rfl, Same.refl'⟩
         · rintro i σ H2 hi ⟨v10, rfl, s2⟩
           have s2' := s1'.trans s2
           have g1 := Z.gd hi
           have ei : (vH vs)[i]? = some (.dic (hK (vAt vs i).h)) := by
             unfold vH
             rw [List.getElem?_map, (vAt_mem hi).2]
             rfl
           obtain ⟨v, y1, y2⟩ := Ts.at_ tt1 ei
           obtain ⟨rt, es, ev, _⟩ := y2.dicAt
           rw [ev] at y1 y2
           obtain ⟨r1, x1, t1⟩ := Z.at hi s2'
           have at1 : atI xm (0 + (i : Int)) = some (.ref r1) := by rw [Int.zero_add]; exact atI_nat x1
           have at2 : atI ys (0 + (i : Int)) = some (.ref rt) := by rw [Int.zero_add]; exact atI_nat y1
           have ft : Fits 60 (vAt vs i).h := fun q hq => Nat.le_trans (g1.fit q hq) (by decide)
           walk_at "g"
           refine q_ixL (.inl (.inl (s2 _ _ lt1))) at2 ?_
           walk_at "g"
           refine q_ixL (.inl (.inl (s2' _ _ Z.m1))) at1 ?_
           walk_at "g"
           refine ⟨_, _, rt, r1, _, rfl, y2.mono s2, t1, g1.wf, g1.sml, g1.asc, ft, by rw [g1.len]; omega, fun H3 s3 => ?_⟩
           have s3' := s2'.trans s3
           walk_at "g"
           obtain ⟨dx, ca, cb, cc, cd, e1⟩ := ndx s3'
           refine ⟨p, dx, _, rfl, e1, hfs_no (by decide +kernel), ?_⟩
           walk_at "g"
           refine ⟨_, p, _, vs, vs.length - 1, rfl, Z.hi.mono s3', Z.g.x.ch.1, fun i2 u ei hu rh H8 s8 o8 => ?_, fun z => absurd (by omega) z⟩
           obtain rfl : i2 = i := by omega
           rw [(vAt_mem hi).2] at hu
           cases hu
           rw [g1.cp] at o8
           walk_at "g"
           refine q_ixL (.inl (.inl (s8 _ _ (s3' _ _ Z.m1)))) at1 ?_
           walk_at "g"
           refine ⟨_, _, rh, r1, _, rfl, o8.T, t1.mono (s3.trans s8), g1.wf, g1.sml, g1.asc, ft, by rw [g1.len]; omega, fun H9 s9 => ?_⟩
           walk_at "g"
           exact ⟨_, rfl, ((s2.trans s3).trans s8).trans s9⟩
         · rintro σ H2 ⟨v10, rfl, s2⟩
           have s2' := s1'.trans s2
           walk_at "g"
           refine q_lenL (.inl (.inl (s2' _ _ Z.m1))) ?_
           walk_at "g"
           refine ⟨_, p, _, _, -1, vs, _, rfl, Z.hi.mono s2', Z.g.x.ch, .inl ⟨by omega, rfl⟩, fun H3 s3 => ?_⟩
           have s3' := s2'.trans s3
           walk_at "g"
           refine .inl (q_neII rfl ?_)
           walk_at "g"
           refine q_lenL (.inl (.inl (s3' _ _ Z.m1))) ?_
           walk_at "g"
           refine ⟨_, p, _, _, _, vs, _, rfl, Z.hi.mono s3', Z.g.x.ch, .inr ⟨by omega, by omega, rfl⟩, fun H4 s4 => ?_⟩
           have s4' := s3'.trans s4
           walk_at "g"
           refine q_lenL (.inl (.inl (s4' _ _ Z.m1))) ?_
           refine .inl (q_neII rfl ?_)
           walk_at "g"
           refine q_lenL (.inl (.inl (s4' _ _ Z.m1))) ?_
           walk_at "g"
           refine ⟨_, p, _, _, _, vs, _, rfl, Z.hi.mono s4', Z.g.x.ch, .inl ⟨by omega, rfl⟩, fun H5 s5 => ?_⟩
           have s5' := s4'.trans s5
           walk_at "g"
           refine q_lenL (.inl (.inl (s5' _ _ Z.m1))) ?_
           refine .inl (q_neII rfl ?_)
           walk_at "g"
           refine q_reprN (Z.th.mono s5') hG.vw (by decide) (by decide) ?_
           rw [← hbef]
           walk_at "g"
           rw [decide_eq_true rfl]
           exact hq _

end
end K79
open PySem PySem.W PyProof.Rows
set_option maxRecDepth 100000 in
set_option maxHeartbeats 0 in
theorem PySem.Challenge.cw_trundleyard_k79_whole_history_replayed_holds : PySem.Challenge.rw_trundleyard_k79_whole_history_replayed.Holds := by
  w_on; o_law; k_head; (case hw => w_witness2)
  k_fill
  refine TU.top_walk (l := PySem.Challenge.rw_trundleyard_k79_whole_history_replayed) rfl rfl (fun w h Y => PySem.W.kIn_of Y) ?F
  case F =>
    intro w mg fa h KX G hmg base KB GB
    have z_len : mg "len" = none := PySem.W.mg_none_of KX G (by k_is)
    have z_abs : mg "abs" = none := PySem.W.mg_none_of KX G (by k_is)
    have z_repr : mg "repr" = none := PySem.W.mg_none_of KX G (by k_is)
    have z_isinstance : mg "isinstance" = none := PySem.W.mg_none_of KX G (by k_is)
    have z_sorted : mg "sorted" = none := PySem.W.mg_none_of KX G (by k_is)
    have z_all : mg "all" = none := PySem.W.mg_none_of KX G (by k_is)
    have z_any : mg "any" = none := PySem.W.mg_none_of KX G (by k_is)
    have z_sum : mg "sum" = none := PySem.W.mg_none_of KX G (by k_is)
    have z_max : mg "max" = none := PySem.W.mg_none_of KX G (by k_is)
    have z_min : mg "min" = none := PySem.W.mg_none_of KX G (by k_is)
    have z_range : mg "range" = none := PySem.W.mg_none_of KX G (by k_is)
    have z_enumerate : mg "enumerate" = none := PySem.W.mg_none_of KX G (by k_is)
    have z_zip : mg "zip" = none := PySem.W.mg_none_of KX G (by k_is)
    have z_reversed : mg "reversed" = none := PySem.W.mg_none_of KX G (by k_is)
    have z_int : mg "int" = none := PySem.W.mg_none_of KX G (by k_is)
    have z_bool : mg "bool" = none := PySem.W.mg_none_of KX G (by k_is)
    have z_str : mg "str" = none := PySem.W.mg_none_of KX G (by k_is)
    have z_list : mg "list" = none := PySem.W.mg_none_of KX G (by k_is)
    have z_dict : mg "dict" = none := PySem.W.mg_none_of KX G (by k_is)
    have z_tuple : mg "tuple" = none := PySem.W.mg_none_of KX G (by k_is)
    have z_set : mg "set" = none := PySem.W.mg_none_of KX G (by k_is)
    have B : TU.Bt mg := ⟨z_len, z_abs, z_repr, z_isinstance, z_sorted, z_all, z_any, z_sum, z_max, z_min, z_range, z_enumerate, z_zip, z_reversed, z_int, z_bool, z_str, z_list, z_dict, z_tuple, z_set⟩
    have G_MOST_VERSIONS : ∃ t, mg "MOST_VERSIONS" = some (.int 401 t) := by
      refine' TU.glob_int KX G ?zgMOST_VERSIONSa
      (case zgMOST_VERSIONSa => k_is)
    obtain ⟨C_History, Kl_History, F_History___init, F_History_check_version, F_History_count, F_History_house_at, F_History_undo, F_History_commit, F_History_way_of⟩ : ∃ C, TU.Kl (L2.KOf KX) mg "History" C ["houses", "labels", "lists", "now"] ∧ TU.TopM (L2.KOf KX) C "__init__" "History.__init__" K79.s_History___init ["self", "house"] ∧ TU.TopM (L2.KOf KX) C "check_version" "History.check_version" K79.s_History_check_version ["self", "version"] ∧ TU.TopM (L2.KOf KX) C "count" "History.count" K79.s_History_count ["self"] ∧ TU.TopM (L2.KOf KX) C "house_at" "History.house_at" K79.s_History_house_at ["self", "version"] ∧ TU.TopM (L2.KOf KX) C "undo" "History.undo" K79.s_History_undo ["self"] ∧ TU.TopM (L2.KOf KX) C "commit" "History.commit" K79.s_History_commit ["self", "edits", "label"] ∧ TU.TopM (L2.KOf KX) C "way_of" "History.way_of" K79.s_History_way_of ["self", "first", "last"] := by
      unfold L2.KOf
      refine' ⟨_, ⟨⟨?zkHistorypg, ?zkHistoryhd, ?zkHistorypo, ?zkHistorysa⟩, PySem.W.mg_of KX G ?zkHistoryca, (TU.no_cons ?zkHistoryn0 (TU.no_cons ?zkHistoryn1 (TU.no_cons ?zkHistoryn2 (TU.no_cons ?zkHistoryn3 TU.no_nil)))), ?zkHistorymk, ?zkHistorykp⟩, TU.top_mkM ?zqHistory___inita ?zqHistory___initi ?zqHistory___initl ?zqHistory___initc ?zqHistory___initk (fun _ _ _ _ _ _ us hl => match us, hl with | [_, _], _ => rfl), TU.top_mkM ?zqHistory_check_versiona ?zqHistory_check_versioni ?zqHistory_check_versionl ?zqHistory_check_versionc ?zqHistory_check_versionk (fun _ _ _ _ _ _ us hl => match us, hl with | [_, _], _ => rfl), TU.top_mkM ?zqHistory_counta ?zqHistory_counti ?zqHistory_countl ?zqHistory_countc ?zqHistory_countk (fun _ _ _ _ _ _ us hl => match us, hl with | [_], _ => rfl), TU.top_mkM ?zqHistory_house_ata ?zqHistory_house_ati ?zqHistory_house_atl ?zqHistory_house_atc ?zqHistory_house_atk (fun _ _ _ _ _ _ us hl => match us, hl with | [_, _], _ => rfl), TU.top_mkM ?zqHistory_undoa ?zqHistory_undoi ?zqHistory_undol ?zqHistory_undoc ?zqHistory_undok (fun _ _ _ _ _ _ us hl => match us, hl with | [_], _ => rfl), TU.top_mkM ?zqHistory_commita ?zqHistory_commiti ?zqHistory_commitl ?zqHistory_commitc ?zqHistory_commitk (fun _ _ _ _ _ _ us hl => match us, hl with | [_, _, _], _ => rfl), TU.top_mkM ?zqHistory_way_ofa ?zqHistory_way_ofi ?zqHistory_way_ofl ?zqHistory_way_ofc ?zqHistory_way_ofk (fun _ _ _ _ _ _ us hl => match us, hl with | [_, _, _], _ => rfl)⟩
      (case zkHistoryca => k_is)
      (case zkHistorypg => k_is)
      (case zkHistoryhd => k_is)
      (case zkHistorypo => k_is)
      (case zkHistorysa => k_is)
      (case zkHistoryn0 => k_is)
      (case zkHistoryn1 => k_is)
      (case zkHistoryn2 => k_is)
      (case zkHistoryn3 => k_is)
      (case zkHistorymk => k_is)
      (case zkHistorykp => k_is)
      (case zqHistory___inita => k_is)
      (case zqHistory___initi => k_is)
      (case zqHistory___initl => k_is)
      (case zqHistory___initc => k_is)
      (case zqHistory___initk => k_is)
      (case zqHistory_check_versiona => k_is)
      (case zqHistory_check_versioni => k_is)
      (case zqHistory_check_versionl => k_is)
      (case zqHistory_check_versionc => k_is)
      (case zqHistory_check_versionk => k_is)
      (case zqHistory_counta => k_is)
      (case zqHistory_counti => k_is)
      (case zqHistory_countl => k_is)
      (case zqHistory_countc => k_is)
      (case zqHistory_countk => k_is)
      (case zqHistory_house_ata => k_is)
      (case zqHistory_house_ati => k_is)
      (case zqHistory_house_atl => k_is)
      (case zqHistory_house_atc => k_is)
      (case zqHistory_house_atk => k_is)
      (case zqHistory_undoa => k_is)
      (case zqHistory_undoi => k_is)
      (case zqHistory_undol => k_is)
      (case zqHistory_undoc => k_is)
      (case zqHistory_undok => k_is)
      (case zqHistory_commita => k_is)
      (case zqHistory_commiti => k_is)
      (case zqHistory_commitl => k_is)
      (case zqHistory_commitc => k_is)
      (case zqHistory_commitk => k_is)
      (case zqHistory_way_ofa => k_is)
      (case zqHistory_way_ofi => k_is)
      (case zqHistory_way_ofl => k_is)
      (case zqHistory_way_ofc => k_is)
      (case zqHistory_way_ofk => k_is)
    obtain ⟨C_Unknown, X_Unknown⟩ : ∃ C, TU.Xc PySem.Challenge.rw_trundleyard_k79_whole_history_replayed.prog w (L2.KOf KX) mg base "Unknown" ["what", "name"] C := by
      unfold L2.KOf
      refine' ⟨_, TU.xc_mk2 (qual := "Unknown.__init__") (st := K79.s_Unknown___init) KX G ?zxUnknownaC ?zxUnknownxL ?zxUnknownxb ?zxUnknownsa ?zxUnknownga ?zxUnknowngg ?zxUnknownn1 ?zxUnknownn2 ?zxUnknowna1 ?zxUnknownt1 ?zxUnknownl1 ?zxUnknownc1 ?zxUnknownk1 ?zxUnknownkC ?zxUnknowneC ?zxUnknowntC ?zxUnknownhC ?zxUnknowniC ?zxUnknownsC ⟨rfl, rfl, rfl, by decide +kernel, rfl, by decide +kernel, by decide +kernel⟩ rfl (by decide +kernel) (by decide +kernel) (by decide +kernel) (by decide +kernel) (.inl rfl) (.inl rfl) (.inl rfl) (fun _ _ _ _ _ _ us hl => match us, hl with | [_, _, _], _ => rfl)⟩
      (case zxUnknownaC => first | k_is | rfl | decide +kernel)
      (case zxUnknownxL => first | k_is | rfl | decide +kernel)
      (case zxUnknownxb => first | k_is | rfl | decide +kernel)
      (case zxUnknownsa => first | k_is | rfl | decide +kernel)
      (case zxUnknownga => first | k_is | rfl | decide +kernel)
      (case zxUnknowngg => first | k_is | rfl | decide +kernel)
      (case zxUnknownn1 => first | k_is | rfl | decide +kernel)
      (case zxUnknownn2 => first | k_is | rfl | decide +kernel)
      (case zxUnknowna1 => first | k_is | rfl | decide +kernel)
      (case zxUnknownt1 => first | k_is | rfl | decide +kernel)
      (case zxUnknownl1 => first | k_is | rfl | decide +kernel)
      (case zxUnknownc1 => first | k_is | rfl | decide +kernel)
      (case zxUnknownk1 => first | k_is | rfl | decide +kernel)
      (case zxUnknownkC => first | k_is | rfl | decide +kernel)
      (case zxUnknowneC => first | k_is | rfl | decide +kernel)
      (case zxUnknowntC => first | k_is | rfl | decide +kernel)
      (case zxUnknownhC => first | k_is | rfl | decide +kernel)
      (case zxUnknowniC => first | k_is | rfl | decide +kernel)
      (case zxUnknownsC => first | k_is | rfl | decide +kernel)
    obtain ⟨C_Misfit, X_Misfit⟩ : ∃ C, TU.Xc PySem.Challenge.rw_trundleyard_k79_whole_history_replayed.prog w (L2.KOf KX) mg base "Misfit" ["what", "name"] C := by
      unfold L2.KOf
      refine' ⟨_, TU.xc_mk2 (qual := "Misfit.__init__") (st := K79.s_Misfit___init) KX G ?zxMisfitaC ?zxMisfitxL ?zxMisfitxb ?zxMisfitsa ?zxMisfitga ?zxMisfitgg ?zxMisfitn1 ?zxMisfitn2 ?zxMisfita1 ?zxMisfitt1 ?zxMisfitl1 ?zxMisfitc1 ?zxMisfitk1 ?zxMisfitkC ?zxMisfiteC ?zxMisfittC ?zxMisfithC ?zxMisfitiC ?zxMisfitsC ⟨rfl, rfl, rfl, by decide +kernel, rfl, by decide +kernel, by decide +kernel⟩ rfl (by decide +kernel) (by decide +kernel) (by decide +kernel) (by decide +kernel) (.inl rfl) (.inl rfl) (.inl rfl) (fun _ _ _ _ _ _ us hl => match us, hl with | [_, _, _], _ => rfl)⟩
      (case zxMisfitaC => first | k_is | rfl | decide +kernel)
      (case zxMisfitxL => first | k_is | rfl | decide +kernel)
      (case zxMisfitxb => first | k_is | rfl | decide +kernel)
      (case zxMisfitsa => first | k_is | rfl | decide +kernel)
      (case zxMisfitga => first | k_is | rfl | decide +kernel)
      (case zxMisfitgg => first | k_is | rfl | decide +kernel)
      (case zxMisfitn1 => first | k_is | rfl | decide +kernel)
      (case zxMisfitn2 => first | k_is | rfl | decide +kernel)
      (case zxMisfita1 => first | k_is | rfl | decide +kernel)
      (case zxMisfitt1 => first | k_is | rfl | decide +kernel)
      (case zxMisfitl1 => first | k_is | rfl | decide +kernel)
      (case zxMisfitc1 => first | k_is | rfl | decide +kernel)
      (case zxMisfitk1 => first | k_is | rfl | decide +kernel)
      (case zxMisfitkC => first | k_is | rfl | decide +kernel)
      (case zxMisfiteC => first | k_is | rfl | decide +kernel)
      (case zxMisfittC => first | k_is | rfl | decide +kernel)
      (case zxMisfithC => first | k_is | rfl | decide +kernel)
      (case zxMisfitiC => first | k_is | rfl | decide +kernel)
      (case zxMisfitsC => first | k_is | rfl | decide +kernel)
    obtain ⟨C_Stale, X_Stale⟩ : ∃ C, TU.Xc PySem.Challenge.rw_trundleyard_k79_whole_history_replayed.prog w (L2.KOf KX) mg base "Stale" ["version"] C := by
      unfold L2.KOf
      refine' ⟨_, TU.xc_mk1 (qual := "Stale.__init__") (st := K79.s_Stale___init) KX G ?zxStaleaC ?zxStalexL ?zxStalexb ?zxStalesa ?zxStalega ?zxStalegg ?zxStalen1 ?zxStalea1 ?zxStalet1 ?zxStalel1 ?zxStalec1 ?zxStalek1 ?zxStalekC ?zxStaleeC ?zxStaletC ?zxStalehC ?zxStaleiC ?zxStalesC ⟨rfl, rfl, rfl, by decide +kernel, rfl, by decide +kernel, by decide +kernel⟩ rfl (by decide +kernel) (by decide +kernel) (.inl rfl) (.inl rfl) (fun _ _ _ _ _ _ us hl => match us, hl with | [_, _], _ => rfl)⟩
      (case zxStaleaC => first | k_is | rfl | decide +kernel)
      (case zxStalexL => first | k_is | rfl | decide +kernel)
      (case zxStalexb => first | k_is | rfl | decide +kernel)
      (case zxStalesa => first | k_is | rfl | decide +kernel)
      (case zxStalega => first | k_is | rfl | decide +kernel)
      (case zxStalegg => first | k_is | rfl | decide +kernel)
      (case zxStalen1 => first | k_is | rfl | decide +kernel)
      (case zxStalea1 => first | k_is | rfl | decide +kernel)
      (case zxStalet1 => first | k_is | rfl | decide +kernel)
      (case zxStalel1 => first | k_is | rfl | decide +kernel)
      (case zxStalec1 => first | k_is | rfl | decide +kernel)
      (case zxStalek1 => first | k_is | rfl | decide +kernel)
      (case zxStalekC => first | k_is | rfl | decide +kernel)
      (case zxStaleeC => first | k_is | rfl | decide +kernel)
      (case zxStaletC => first | k_is | rfl | decide +kernel)
      (case zxStalehC => first | k_is | rfl | decide +kernel)
      (case zxStaleiC => first | k_is | rfl | decide +kernel)
      (case zxStalesC => first | k_is | rfl | decide +kernel)
    obtain ⟨C_TooMany, X_TooMany⟩ : ∃ C, TU.Xc PySem.Challenge.rw_trundleyard_k79_whole_history_replayed.prog w (L2.KOf KX) mg base "TooMany" ["what", "limit"] C := by
      unfold L2.KOf
      refine' ⟨_, TU.xc_mk2 (qual := "TooMany.__init__") (st := K79.s_TooMany___init) KX G ?zxTooManyaC ?zxTooManyxL ?zxTooManyxb ?zxTooManysa ?zxTooManyga ?zxTooManygg ?zxTooManyn1 ?zxTooManyn2 ?zxTooManya1 ?zxTooManyt1 ?zxTooManyl1 ?zxTooManyc1 ?zxTooManyk1 ?zxTooManykC ?zxTooManyeC ?zxTooManytC ?zxTooManyhC ?zxTooManyiC ?zxTooManysC ⟨rfl, rfl, rfl, by decide +kernel, rfl, by decide +kernel, by decide +kernel⟩ rfl (by decide +kernel) (by decide +kernel) (by decide +kernel) (by decide +kernel) (.inl rfl) (.inl rfl) (.inl rfl) (fun _ _ _ _ _ _ us hl => match us, hl with | [_, _, _], _ => rfl)⟩
      (case zxTooManyaC => first | k_is | rfl | decide +kernel)
      (case zxTooManyxL => first | k_is | rfl | decide +kernel)
      (case zxTooManyxb => first | k_is | rfl | decide +kernel)
      (case zxTooManysa => first | k_is | rfl | decide +kernel)
      (case zxTooManyga => first | k_is | rfl | decide +kernel)
      (case zxTooManygg => first | k_is | rfl | decide +kernel)
      (case zxTooManyn1 => first | k_is | rfl | decide +kernel)
      (case zxTooManyn2 => first | k_is | rfl | decide +kernel)
      (case zxTooManya1 => first | k_is | rfl | decide +kernel)
      (case zxTooManyt1 => first | k_is | rfl | decide +kernel)
      (case zxTooManyl1 => first | k_is | rfl | decide +kernel)
      (case zxTooManyc1 => first | k_is | rfl | decide +kernel)
      (case zxTooManyk1 => first | k_is | rfl | decide +kernel)
      (case zxTooManykC => first | k_is | rfl | decide +kernel)
      (case zxTooManyeC => first | k_is | rfl | decide +kernel)
      (case zxTooManytC => first | k_is | rfl | decide +kernel)
      (case zxTooManyhC => first | k_is | rfl | decide +kernel)
      (case zxTooManyiC => first | k_is | rfl | decide +kernel)
      (case zxTooManysC => first | k_is | rfl | decide +kernel)
    have F_check_key : TU.TopF (L2.KOf KX) mg "check_key" K79.s_check_key ["house", "key"] := by
      unfold L2.KOf
      refine' TU.top_mk KX G ?zqcheck_keya ?zqcheck_keyl ?zqcheck_keyc ?zqcheck_keyk (fun _ _ _ _ _ _ us hl => match us, hl with | [_, _], _ => rfl)
      (case zqcheck_keya => k_is); (case zqcheck_keyl => k_is); (case zqcheck_keyc => k_is); (case zqcheck_keyk => k_is)
    have F_check_edit : TU.TopF (L2.KOf KX) mg "check_edit" K79.s_check_edit ["house", "edit"] := by
      unfold L2.KOf
      refine' TU.top_mk KX G ?zqcheck_edita ?zqcheck_editl ?zqcheck_editc ?zqcheck_editk (fun _ _ _ _ _ _ us hl => match us, hl with | [_, _], _ => rfl)
      (case zqcheck_edita => k_is); (case zqcheck_editl => k_is); (case zqcheck_editc => k_is); (case zqcheck_editk => k_is)
    have F_copy_house : TU.TopF (L2.KOf KX) mg "copy_house" K79.s_copy_house ["house"] := by
      unfold L2.KOf
      refine' TU.top_mk KX G ?zqcopy_housea ?zqcopy_housel ?zqcopy_housec ?zqcopy_housek (fun _ _ _ _ _ _ us hl => match us, hl with | [_], _ => rfl)
      (case zqcopy_housea => k_is); (case zqcopy_housel => k_is); (case zqcopy_housec => k_is); (case zqcopy_housek => k_is)
    have F_change_tables : TU.TopF (L2.KOf KX) mg "change_tables" K79.s_change_tables ["tables", "edit"] := by
      unfold L2.KOf
      refine' TU.top_mk KX G ?zqchange_tablesa ?zqchange_tablesl ?zqchange_tablesc ?zqchange_tablesk (fun _ _ _ _ _ _ us hl => match us, hl with | [_, _], _ => rfl)
      (case zqchange_tablesa => k_is); (case zqchange_tablesl => k_is); (case zqchange_tablesc => k_is); (case zqchange_tablesk => k_is)
    have F_apply_edits : TU.TopF (L2.KOf KX) mg "apply_edits" K79.s_apply_edits ["house", "edits"] := by
      unfold L2.KOf
      refine' TU.top_mk KX G ?zqapply_editsa ?zqapply_editsl ?zqapply_editsc ?zqapply_editsk (fun _ _ _ _ _ _ us hl => match us, hl with | [_, _], _ => rfl)
      (case zqapply_editsa => k_is); (case zqapply_editsl => k_is); (case zqapply_editsc => k_is); (case zqapply_editsk => k_is)
    have F_inverse : TU.TopF (L2.KOf KX) mg "inverse" K79.s_inverse ["house", "edit"] := by
      unfold L2.KOf
      refine' TU.top_mk KX G ?zqinversea ?zqinversel ?zqinversec ?zqinversek (fun _ _ _ _ _ _ us hl => match us, hl with | [_, _], _ => rfl)
      (case zqinversea => k_is); (case zqinversel => k_is); (case zqinversec => k_is); (case zqinversek => k_is)
    have F_inverse_of : TU.TopF (L2.KOf KX) mg "inverse_of" K79.s_inverse_of ["house", "edits"] := by
      unfold L2.KOf
      refine' TU.top_mk KX G ?zqinverse_ofa ?zqinverse_ofl ?zqinverse_ofc ?zqinverse_ofk (fun _ _ _ _ _ _ us hl => match us, hl with | [_, _], _ => rfl)
      (case zqinverse_ofa => k_is); (case zqinverse_ofl => k_is); (case zqinverse_ofc => k_is); (case zqinverse_ofk => k_is)
    have F_same_keys : TU.TopF (L2.KOf KX) mg "same_keys" K79.s_same_keys ["house", "other"] := by
      unfold L2.KOf
      refine' TU.top_mk KX G ?zqsame_keysa ?zqsame_keysl ?zqsame_keysc ?zqsame_keysk (fun _ _ _ _ _ _ us hl => match us, hl with | [_, _], _ => rfl)
      (case zqsame_keysa => k_is); (case zqsame_keysl => k_is); (case zqsame_keysc => k_is); (case zqsame_keysk => k_is)
    have F_difference : TU.TopF (L2.KOf KX) mg "difference" K79.s_difference ["house", "other"] := by
      unfold L2.KOf
      refine' TU.top_mk KX G ?zqdifferencea ?zqdifferencel ?zqdifferencec ?zqdifferencek (fun _ _ _ _ _ _ us hl => match us, hl with | [_, _], _ => rfl)
      (case zqdifferencea => k_is); (case zqdifferencel => k_is); (case zqdifferencec => k_is); (case zqdifferencek => k_is)
    have F_replayed : TU.TopF (L2.KOf KX) mg "replayed" K79.s_replayed ["house", "lists"] := by
      unfold L2.KOf
      refine' TU.top_mk KX G ?zqreplayeda ?zqreplayedl ?zqreplayedc ?zqreplayedk (fun _ _ _ _ _ _ us hl => match us, hl with | [_, _], _ => rfl)
      (case zqreplayeda => k_is); (case zqreplayedl => k_is); (case zqreplayedc => k_is); (case zqreplayedk => k_is)
    have F_law_jar : TU.TopF (L2.KOf KX) mg "_law_jar" K79.s_law_jar ["script"] := by
      unfold L2.KOf
      refine' TU.top_mk KX G ?zqlaw_jara ?zqlaw_jarl ?zqlaw_jarc ?zqlaw_jark (fun _ _ _ _ _ _ us hl => match us, hl with | [_], _ => rfl)
      (case zqlaw_jara => k_is); (case zqlaw_jarl => k_is); (case zqlaw_jarc => k_is); (case zqlaw_jark => k_is)
    have F_law_draw : TU.TopF (L2.KOf KX) mg "_law_draw" K79.s_law_draw ["jar", "at", "many"] := by
      unfold L2.KOf
      refine' TU.top_mk KX G ?zqlaw_drawa ?zqlaw_drawl ?zqlaw_drawc ?zqlaw_drawk (fun _ _ _ _ _ _ us hl => match us, hl with | [_, _, _], _ => rfl)
      (case zqlaw_drawa => k_is); (case zqlaw_drawl => k_is); (case zqlaw_drawc => k_is); (case zqlaw_drawk => k_is)
    have F_law_entry : TU.TopF (L2.KOf KX) mg "_law_entry" K79.s_law_entry ["jar", "at"] := by
      unfold L2.KOf
      refine' TU.top_mk KX G ?zqlaw_entrya ?zqlaw_entryl ?zqlaw_entryc ?zqlaw_entryk (fun _ _ _ _ _ _ us hl => match us, hl with | [_, _], _ => rfl)
      (case zqlaw_entrya => k_is); (case zqlaw_entryl => k_is); (case zqlaw_entryc => k_is); (case zqlaw_entryk => k_is)
    have F_law_copy : TU.TopF (L2.KOf KX) mg "_law_copy" K79.s_law_copy ["house"] := by
      unfold L2.KOf
      refine' TU.top_mk KX G ?zqlaw_copya ?zqlaw_copyl ?zqlaw_copyc ?zqlaw_copyk (fun _ _ _ _ _ _ us hl => match us, hl with | [_], _ => rfl)
      (case zqlaw_copya => k_is); (case zqlaw_copyl => k_is); (case zqlaw_copyc => k_is); (case zqlaw_copyk => k_is)
    have F_law_after : TU.TopF (L2.KOf KX) mg "_law_after" K79.s_law_after ["house", "edit"] := by
      unfold L2.KOf
      refine' TU.top_mk KX G ?zqlaw_aftera ?zqlaw_afterl ?zqlaw_afterc ?zqlaw_afterk (fun _ _ _ _ _ _ us hl => match us, hl with | [_, _], _ => rfl)
      (case zqlaw_aftera => k_is); (case zqlaw_afterl => k_is); (case zqlaw_afterc => k_is); (case zqlaw_afterk => k_is)
    have F_law_same : TU.TopF (L2.KOf KX) mg "_law_same" K79.s_law_same ["told", "house"] := by
      unfold L2.KOf
      refine' TU.top_mk KX G ?zqlaw_samea ?zqlaw_samel ?zqlaw_samec ?zqlaw_samek (fun _ _ _ _ _ _ us hl => match us, hl with | [_, _], _ => rfl)
      (case zqlaw_samea => k_is); (case zqlaw_samel => k_is); (case zqlaw_samec => k_is); (case zqlaw_samek => k_is)
    have F_law_house : TU.TopF (L2.KOf KX) mg "_law_house" K79.s_law_house ["jar", "at"] := by
      unfold L2.KOf
      refine' TU.top_mk KX G ?zqlaw_housea ?zqlaw_housel ?zqlaw_housec ?zqlaw_housek (fun _ _ _ _ _ _ us hl => match us, hl with | [_, _], _ => rfl)
      (case zqlaw_housea => k_is); (case zqlaw_housel => k_is); (case zqlaw_housec => k_is); (case zqlaw_housek => k_is)
    have F_law_edits : TU.TopF (L2.KOf KX) mg "_law_edits" K79.s_law_edits ["jar", "at", "house", "many"] := by
      unfold L2.KOf
      refine' TU.top_mk KX G ?zqlaw_editsa ?zqlaw_editsl ?zqlaw_editsc ?zqlaw_editsk (fun _ _ _ _ _ _ us hl => match us, hl with | [_, _, _, _], _ => rfl)
      (case zqlaw_editsa => k_is); (case zqlaw_editsl => k_is); (case zqlaw_editsc => k_is); (case zqlaw_editsk => k_is)
    have F_law_replay : TU.TopF (L2.KOf KX) mg "_law_replay" K79.s_law_replay ["house", "edits"] := by
      unfold L2.KOf
      refine' TU.top_mk KX G ?zqlaw_replaya ?zqlaw_replayl ?zqlaw_replayc ?zqlaw_replayk (fun _ _ _ _ _ _ us hl => match us, hl with | [_, _], _ => rfl)
      (case zqlaw_replaya => k_is); (case zqlaw_replayl => k_is); (case zqlaw_replayc => k_is); (case zqlaw_replayk => k_is)
    have F_law_stale : TU.TopF (L2.KOf KX) mg "_law_stale" K79.s_law_stale ["past", "one", "two"] := by
      unfold L2.KOf
      refine' TU.top_mk KX G ?zqlaw_stalea ?zqlaw_stalel ?zqlaw_stalec ?zqlaw_stalek (fun _ _ _ _ _ _ us hl => match us, hl with | [_, _, _], _ => rfl)
      (case zqlaw_stalea => k_is); (case zqlaw_stalel => k_is); (case zqlaw_stalec => k_is); (case zqlaw_stalek => k_is)
    have F_law : TU.TopF (L2.KOf KX) mg "law" K79.s_law ["script"] := by
      unfold L2.KOf
      refine' TU.top_mk KX G ?zqlawa ?zqlawl ?zqlawc ?zqlawk (fun _ _ _ _ _ _ us hl => match us, hl with | [_], _ => rfl)
      (case zqlawa => k_is); (case zqlawl => k_is); (case zqlawc => k_is); (case zqlawk => k_is)
    have D_check_key := K79.d_check_key (P := PySem.Challenge.rw_trundleyard_k79_whole_history_replayed.prog) (w := w) (base := base) B F_check_key X_Unknown
    have D_check_edit := K79.d_check_edit (P := PySem.Challenge.rw_trundleyard_k79_whole_history_replayed.prog) (w := w) (base := base) B F_check_edit X_Unknown D_check_key
    have D_copy_house := K79.d_copy_house (P := PySem.Challenge.rw_trundleyard_k79_whole_history_replayed.prog) (w := w) (base := base) B F_copy_house 
    have D_change_tables := K79.d_change_tables (P := PySem.Challenge.rw_trundleyard_k79_whole_history_replayed.prog) (w := w) (base := base) B F_change_tables D_check_edit
    have D_apply_edits := K79.d_apply_edits (P := PySem.Challenge.rw_trundleyard_k79_whole_history_replayed.prog) (w := w) (base := base) B F_apply_edits D_copy_house D_change_tables
    have D_inverse := K79.d_inverse (P := PySem.Challenge.rw_trundleyard_k79_whole_history_replayed.prog) (w := w) (base := base) B F_inverse D_check_edit
    have D_inverse_of := K79.d_inverse_of (P := PySem.Challenge.rw_trundleyard_k79_whole_history_replayed.prog) (w := w) (base := base) B F_inverse_of D_change_tables D_inverse D_copy_house
    have D_same_keys := K79.d_same_keys (P := PySem.Challenge.rw_trundleyard_k79_whole_history_replayed.prog) (w := w) (base := base) B F_same_keys 
    have D_difference := K79.d_difference (P := PySem.Challenge.rw_trundleyard_k79_whole_history_replayed.prog) (w := w) (base := base) B F_difference X_Misfit D_same_keys
    have D_History___init := K79.d_History___init (P := PySem.Challenge.rw_trundleyard_k79_whole_history_replayed.prog) (w := w) (base := base) B F_History___init Kl_History D_copy_house
    have D_History_check_version := K79.d_History_check_version (P := PySem.Challenge.rw_trundleyard_k79_whole_history_replayed.prog) (w := w) (base := base) B F_History_check_version Kl_History X_Stale
    have D_History_count := K79.d_History_count (P := PySem.Challenge.rw_trundleyard_k79_whole_history_replayed.prog) (w := w) (base := base) B F_History_count Kl_History
    have D_History_house_at := K79.d_History_house_at (P := PySem.Challenge.rw_trundleyard_k79_whole_history_replayed.prog) (w := w) (base := base) B F_History_house_at Kl_History D_copy_house D_History_check_version
    have D_History_undo := K79.d_History_undo (P := PySem.Challenge.rw_trundleyard_k79_whole_history_replayed.prog) (w := w) (base := base) B F_History_undo Kl_History
    have D_History_commit := K79.d_History_commit (P := PySem.Challenge.rw_trundleyard_k79_whole_history_replayed.prog) (w := w) (base := base) B F_History_commit G_MOST_VERSIONS Kl_History X_TooMany D_apply_edits
    have D_History_way_of := K79.d_History_way_of (P := PySem.Challenge.rw_trundleyard_k79_whole_history_replayed.prog) (w := w) (base := base) B F_History_way_of Kl_History D_inverse_of D_History_check_version
    have D_replayed := K79.d_replayed (P := PySem.Challenge.rw_trundleyard_k79_whole_history_replayed.prog) (w := w) (base := base) B F_replayed D_apply_edits D_copy_house
    have D_law_jar := K79.d_law_jar (P := PySem.Challenge.rw_trundleyard_k79_whole_history_replayed.prog) (w := w) (base := base) B F_law_jar 
    have D_law_draw := K79.d_law_draw (P := PySem.Challenge.rw_trundleyard_k79_whole_history_replayed.prog) (w := w) (base := base) B F_law_draw 
    have D_law_entry := K79.d_law_entry (P := PySem.Challenge.rw_trundleyard_k79_whole_history_replayed.prog) (w := w) (base := base) B F_law_entry D_law_draw
    have D_law_copy := K79.d_law_copy (P := PySem.Challenge.rw_trundleyard_k79_whole_history_replayed.prog) (w := w) (base := base) B F_law_copy 
    have D_law_after := K79.d_law_after (P := PySem.Challenge.rw_trundleyard_k79_whole_history_replayed.prog) (w := w) (base := base) B F_law_after D_law_copy
    have D_law_same := K79.d_law_same (P := PySem.Challenge.rw_trundleyard_k79_whole_history_replayed.prog) (w := w) (base := base) B F_law_same 
    have D_law_house := K79.d_law_house (P := PySem.Challenge.rw_trundleyard_k79_whole_history_replayed.prog) (w := w) (base := base) B F_law_house D_law_draw D_law_entry
    have D_law_edits := K79.d_law_edits (P := PySem.Challenge.rw_trundleyard_k79_whole_history_replayed.prog) (w := w) (base := base) B F_law_edits D_law_after D_law_draw D_law_entry D_law_copy
    have D_law_replay := K79.d_law_replay (P := PySem.Challenge.rw_trundleyard_k79_whole_history_replayed.prog) (w := w) (base := base) B F_law_replay D_law_after D_law_copy
    have D_law_stale := K79.d_law_stale (P := PySem.Challenge.rw_trundleyard_k79_whole_history_replayed.prog) (w := w) (base := base) B F_law_stale Kl_History X_Stale D_History_way_of
    obtain ⟨fb, hb, ok⟩ := K79.d_law (P := PySem.Challenge.rw_trundleyard_k79_whole_history_replayed.prog) (w := w) (base := base) B F_law Kl_History D_law_stale D_law_same D_History_house_at D_replayed D_apply_edits D_difference D_law_replay D_History_way_of D_History_count D_History_commit D_law_edits D_law_draw D_History_undo D_law_copy D_History___init D_law_house D_law_jar
    have e := hmg.symm.trans hb
    cases e
    exact ok
#print axioms PySem.Challenge.cw_trundleyard_k79_whole_history_replayed_holds

