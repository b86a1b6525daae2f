import PyProof.Rows.All
import Wide.All
import OpenK.AllK
import Wide.FinOn
import HandS.ForMost
import HandS.ForExc
import HandS.DeepEq
import HandS.DictComp
import HandS.Small
import HandS.IsInst
import HandS.ExcInit
import HandS.RaiseMore
import HandS.Flow
import HandS.Style
import PyProof.ReprRoads
import KE.DataEq
import HandS.RaiseOp
import HandS.Walk
import HandS.SortInts
import HandS.ExcField
import HandS.ExcIs
import PyProof.ReprBulk
import PySem.Challenge.RW_trundleyard_k76_edits_and_inverses
set_option Elab.async false
set_option linter.all false
set_option maxRecDepth 100000
namespace TU
open PySem PySem.Spec PyProof.Rows L2

/-- data as trees -/
inductive Tr where
  | non | bl (b : Bool) | int (i : Int) | str (x : Str)
  | lst (xs : List Tr) | tup (xs : List Tr) | dic (kvs : List (Key × Tr))

-- v reads as the tree d in H; the addresses of its lists and dicts satisfy P
mutual
inductive T (K : PySem.W.Frag) (H : Hp) (P : Addr → Prop) : V → Tr → Prop
  | non : T K H P .non .non
  | bl (b : Bool) : T K H P (.bl b) (.bl b)
  | int (i : Int) : T K H P (.int i) (.int i)
  | str (x : Str) : T K H P (.str x) (.str x)
  | lst {a : Addr} {xs : List V} {ds : List Tr} : P a → SqL K H a xs → Ts K H P xs ds → T K H P (.ref a) (.lst ds)
  | tup {a : Addr} {xs : List V} {ds : List Tr} : SqT K H a xs → Ts K H P xs ds → T K H P (.ref a) (.tup ds)
  | dic {a : Addr} {kvs : List (Key × V)} {es : List (Key × Tr)} : P a → Rd H a (.dK kvs) → Tk K H P kvs es → T K H P (.ref a) (.dic es)
inductive Ts (K : PySem.W.Frag) (H : Hp) (P : Addr → Prop) : List V → List Tr → Prop
  | nil : Ts K H P [] []
  | cons {v : V} {vs : List V} {d : Tr} {ds : List Tr} : T K H P v d → Ts K H P vs ds → Ts K H P (v :: vs) (d :: ds)
inductive Tk (K : PySem.W.Frag) (H : Hp) (P : Addr → Prop) : List (Key × V) → List (Key × Tr) → Prop
  | nil : Tk K H P [] []
  | cons {k : Key} {v : V} {vs : List (Key × V)} {d : Tr} {ds : List (Key × Tr)} : T K H P v d → Tk K H P vs ds → Tk K H P ((k, v) :: vs) ((k, d) :: ds)
end

/-- what W does not hold is kept -/
def Keeps (W : Addr → Prop) (H H' : Hp) : Prop := ∀ a o, ¬ W a → H a = some o → H' a = some o
theorem Keeps.of_same {W : Addr → Prop} {H H' : Hp} (s : Same H H') : Keeps W H H' := fun a o _ e => s a o e
theorem Keeps.same {H H' : Hp} (s : Keeps (fun _ => False) H H') : Same H H' := fun a o e => s a o (fun z => z) e

section
variable {K : PySem.W.Frag} {H H' : Hp} {P P' W : Addr → Prop}
theorem sqT_keep (k : Keeps W H H') (nt : ∀ a xs, W a → ¬ Rd H a (.tup xs)) {a : Addr} {xs : List V} (h : SqT K H a xs) : SqT K H' a xs := by
  rcases h with h | h
  · have nw : ¬ W a := fun z => nt a xs z h
    rcases h with h | ⟨o, h⟩
    · exact .inl (.inl (k a _ nw h))
    · exact .inl (.inr ⟨o, k a _ nw h⟩)
  · exact .inr h
theorem sqL_keep (k : Keeps W H H') {a : Addr} {xs : List V} (nw : ¬ W a) (h : SqL K H a xs) : SqL K H' a xs := by
  rcases h with h | h
  · rcases h with h | ⟨o, h⟩
    · exact .inl (.inl (k a _ nw h))
    · exact .inl (.inr ⟨o, k a _ nw h⟩)
  · exact .inr h
theorem rd_keep (k : Keeps W H H') {a : Addr} {u : HO} (nw : ¬ W a) (h : Rd H a u) : Rd H' a u := by
  rcases h with h | ⟨o, h⟩
  · exact .inl (k a _ nw h)
  · exact .inr ⟨o, k a _ nw h⟩
mutual
theorem T.keep (k : Keeps W H H') (nt : ∀ a xs, W a → ¬ Rd H a (.tup xs)) (hp : ∀ a, P a → P' a ∧ ¬ W a) : ∀ {v : V} {d : Tr}, T K H P v d → T K H' P' v d
  | _, _, .non => .non
  | _, _, .bl b => .bl b
  | _, _, .int i => .int i
  | _, _, .str x => .str x
  | _, _, .lst p h t => .lst (hp _ p).1 (sqL_keep k (hp _ p).2 h) (Ts.keep k nt hp t)
  | _, _, .tup h t => .tup (sqT_keep k nt h) (Ts.keep k nt hp t)
  | _, _, .dic p h t => .dic (hp _ p).1 (rd_keep k (hp _ p).2 h) (Tk.keep k nt hp t)
theorem Ts.keep (k : Keeps W H H') (nt : ∀ a xs, W a → ¬ Rd H a (.tup xs)) (hp : ∀ a, P a → P' a ∧ ¬ W a) : ∀ {v : List V} {d : List Tr}, Ts K H P v d → Ts K H' P' v d
  | _, _, .nil => .nil
  | _, _, .cons h t => .cons (T.keep k nt hp h) (Ts.keep k nt hp t)
theorem Tk.keep (k : Keeps W H H') (nt : ∀ a xs, W a → ¬ Rd H a (.tup xs)) (hp : ∀ a, P a → P' a ∧ ¬ W a) : ∀ {v : List (Key × V)} {d : List (Key × Tr)}, Tk K H P v d → Tk K H' P' v d
  | _, _, .nil => .nil
  | _, _, .cons h t => .cons (T.keep k nt hp h) (Tk.keep k nt hp t)
end
theorem T.mono (s : Same H H') {v : V} {d : Tr} (h : T K H P v d) : T K H' P v d := h.keep (W := fun _ => False) (.of_same s) (fun _ _ z => z.elim) fun _ p => ⟨p, fun z => z⟩
theorem Ts.mono (s : Same H H') {v : List V} {d : List Tr} (h : Ts K H P v d) : Ts K H' P v d := h.keep (W := fun _ => False) (.of_same s) (fun _ _ z => z.elim) fun _ p => ⟨p, fun z => z⟩
theorem Tk.mono (s : Same H H') {v : List (Key × V)} {d : List (Key × Tr)} (h : Tk K H P v d) : Tk K H' P v d := h.keep (W := fun _ => False) (.of_same s) (fun _ _ z => z.elim) fun _ p => ⟨p, fun z => z⟩
theorem T.imp (hp : ∀ a, P a → P' a) {v : V} {d : Tr} (h : T K H P v d) : T K H P' v d := h.keep (W := fun _ => False) (.of_same (Same.refl H)) (fun _ _ z => z.elim) fun a p => ⟨hp a p, fun z => z⟩
theorem Ts.imp (hp : ∀ a, P a → P' a) {v : List V} {d : List Tr} (h : Ts K H P v d) : Ts K H P' v d := h.keep (W := fun _ => False) (.of_same (Same.refl H)) (fun _ _ z => z.elim) fun a p => ⟨hp a p, fun z => z⟩
theorem Tk.imp (hp : ∀ a, P a → P' a) {v : List (Key × V)} {d : List (Key × Tr)} (h : Tk K H P v d) : Tk K H P' v d := h.keep (W := fun _ => False) (.of_same (Same.refl H)) (fun _ _ z => z.elim) fun a p => ⟨hp a p, fun z => z⟩
/-- an object that is no tuple is changed -/
theorem nt_of {p : Addr} {o : HO} (h : H p = some o) (n : ∀ xs, o ≠ .tup xs) (n2 : ∀ u v, o ≠ .frz u v) : ∀ a xs, a = p → ¬ Rd H a (.tup xs) := by
  rintro a xs rfl (e | ⟨u, e⟩)
  · rw [h] at e
    exact n xs (Option.some.inj e)
  · rw [h] at e
    exact n2 _ _ (Option.some.inj e)
theorem keeps_upd {p : Addr} {o : HO} : Keeps (fun a => a = p) H (upd H p o) := fun a u n e => by
  rw [upd_ne n]
  exact e
theorem T.upd {p : Addr} {o o' : HO} (e : H p = some o) (n : ∀ xs, o ≠ .tup xs) (n2 : ∀ u v, o ≠ .frz u v) (hp : ∀ a, P a → a ≠ p) {v : V} {d : Tr} (h : T K H P v d) : T K (upd H p o') P v d :=
  h.keep keeps_upd (nt_of e n n2) fun a q => ⟨q, hp a q⟩
theorem Ts.upd {p : Addr} {o o' : HO} (e : H p = some o) (n : ∀ xs, o ≠ .tup xs) (n2 : ∀ u v, o ≠ .frz u v) (hp : ∀ a, P a → a ≠ p) {v : List V} {d : List Tr} (h : Ts K H P v d) : Ts K (upd H p o') P v d :=
  h.keep keeps_upd (nt_of e n n2) fun a q => ⟨q, hp a q⟩
theorem Tk.upd {p : Addr} {o o' : HO} (e : H p = some o) (n : ∀ xs, o ≠ .tup xs) (n2 : ∀ u v, o ≠ .frz u v) (hp : ∀ a, P a → a ≠ p) {v : List (Key × V)} {d : List (Key × Tr)} (h : Tk K H P v d) : Tk K (upd H p o') P v d :=
  h.keep keeps_upd (nt_of e n n2) fun a q => ⟨q, hp a q⟩
theorem same_new {p : Addr} {o : HO} (h : H p = none) : Same H (upd H p o) := fun b u e => by
  rw [upd_ne (ne_of_none e h)]
  exact e
theorem Ts.length : ∀ {v : List V} {d : List Tr}, Ts K H P v d → v.length = d.length
  | _, _, .nil => rfl
  | _, _, .cons _ t => congrArg Nat.succ (Ts.length t)
theorem Tk.length : ∀ {v : List (Key × V)} {d : List (Key × Tr)}, Tk K H P v d → v.length = d.length
  | _, _, .nil => rfl
  | _, _, .cons _ t => congrArg Nat.succ (Tk.length t)
theorem Tk.keys : ∀ {v : List (Key × V)} {d : List (Key × Tr)}, Tk K H P v d → v.map (·.1) = d.map (·.1)
  | _, _, .nil => rfl
  | _, _, .cons _ t => by
    rw [List.map_cons, List.map_cons, Tk.keys t]
theorem Ts.get : ∀ {vs : List V} {ds : List Tr} {i : Nat} {v : V}, Ts K H P vs ds → vs[i]? = some v → ∃ d, ds[i]? = some d ∧ T K H P v d
  | _, _, _, _, .nil, e => by simp at e
  | _, _, 0, _, .cons h _, e => by
    simp at e
    subst e
    exact ⟨_, rfl, h⟩
  | _, _, i + 1, v, .cons _ t, e => by
    obtain ⟨d, h1, h2⟩ := Ts.get (i := i) (v := v) t (by simpa using e)
    exact ⟨d, by simpa using h1, h2⟩
theorem Ts.get' : ∀ {vs : List V} {ds : List Tr} {i : Nat} {d : Tr}, Ts K H P vs ds → ds[i]? = some d → ∃ v, vs[i]? = some v ∧ T K H P v d
  | _, _, _, _, .nil, e => by simp at e
  | _, _, 0, _, .cons h _, e => by
    simp at e
    subst e
    exact ⟨_, rfl, h⟩
  | _, _, i + 1, d, .cons _ t, e => by
    obtain ⟨v, h1, h2⟩ := Ts.get' (i := i) (d := d) t (by simpa using e)
    exact ⟨v, by simpa using h1, h2⟩
theorem Ts.append : ∀ {v u : List V} {d e : List Tr}, Ts K H P v d → Ts K H P u e → Ts K H P (v ++ u) (d ++ e)
  | _, _, _, _, .nil, h => h
  | _, _, _, _, .cons h t, h' => .cons h (Ts.append t h')
theorem Ts.one {v : V} {d : Tr} (h : T K H P v d) : Ts K H P [v] [d] := .cons h .nil
theorem Tk.append : ∀ {v u : List (Key × V)} {d e : List (Key × Tr)}, Tk K H P v d → Tk K H P u e → Tk K H P (v ++ u) (d ++ e)
  | _, _, _, _, .nil, h => h
  | _, _, _, _, .cons h t, h' => .cons h (Tk.append t h')

/-! ### dicts as lists of pairs -/
def getD (kvs : List (Key × Tr)) (k : Key) : Option Tr := (kvs.find? fun kv => decide (kv.1 = k)).map (·.2)
def putD (kvs : List (Key × Tr)) (k : Key) (v : Tr) : List (Key × Tr) :=
  if (kvs.any fun kv => decide (kv.1 = k)) = true then kvs.map (fun kv => if kv.1 = k then (kv.1, v) else kv) else kvs ++ [(k, v)]
def delD (kvs : List (Key × Tr)) (k : Key) : List (Key × Tr) := kvs.filter fun kv => decide (kv.1 ≠ k)
theorem getD_cons (p : Key × Tr) (r : List (Key × Tr)) (k : Key) : getD (p :: r) k = if p.1 = k then some p.2 else getD r k := by
  by_cases e : p.1 = k
  · simp [getD, List.find?_cons, e]
  · simp [getD, List.find?_cons, e]
theorem Tk.get : ∀ {kvs : List (Key × V)} {es : List (Key × Tr)} (k : Key), Tk K H P kvs es → (valV kvs k = none ∧ getD es k = none) ∨ ∃ v d, valV kvs k = some v ∧ getD es k = some d ∧ T K H P v d
  | _, _, k, .nil => .inl ⟨rfl, rfl⟩
  | _, _, k, .cons (k := k0) h t => by
    by_cases e : k0 = k
    · refine .inr ⟨_, _, valV_pos e, ?_, h⟩
      rw [getD_cons, if_pos e]
    · rw [valV_neg (p := (k0, _)) e, getD_cons, if_neg e]
      exact Tk.get k t
theorem Tk.gets {kvs : List (Key × V)} {es : List (Key × Tr)} {k : Key} {d : Tr} (h : Tk K H P kvs es) (e : getD es k = some d) : ∃ v, valV kvs k = some v ∧ T K H P v d := by
  rcases h.get k with ⟨_, z⟩ | ⟨v, d', h1, h2, h3⟩
  · rw [z] at e
    cases e
  · rw [h2] at e
    cases e
    exact ⟨v, h1, h3⟩
theorem Tk.getn {kvs : List (Key × V)} {es : List (Key × Tr)} {k : Key} (h : Tk K H P kvs es) (e : getD es k = none) : valV kvs k = none := by
  rcases h.get k with ⟨z, _⟩ | ⟨v, d', h1, h2, h3⟩
  · exact z
  · rw [h2] at e
    cases e
theorem Tk.isSome {kvs : List (Key × V)} {es : List (Key × Tr)} {k : Key} (h : Tk K H P kvs es) : (valV kvs k).isSome = (getD es k).isSome := by
  rcases h.get k with ⟨z, z'⟩ | ⟨v, d', h1, h2, h3⟩
  · rw [z, z'] <;> rfl
  · rw [h1, h2] <;> rfl
theorem Tk.anyk : ∀ {kvs : List (Key × V)} {es : List (Key × Tr)} (k : Key), Tk K H P kvs es → (kvs.any fun kv => decide (kv.1 = k)) = (es.any fun kv => decide (kv.1 = k))
  | _, _, _, .nil => rfl
  | _, _, k, .cons _ t => by
    rw [List.any_cons, List.any_cons, Tk.anyk k t]
theorem Tk.mapput {k : Key} {v : V} {d : Tr} (hv : T K H P v d) : ∀ {kvs : List (Key × V)} {es : List (Key × Tr)}, Tk K H P kvs es → Tk K H P (kvs.map (fun kv => if kv.1 = k then (kv.1, v) else kv)) (es.map (fun kv => if kv.1 = k then (kv.1, d) else kv))
  | _, _, .nil => .nil
  | _, _, .cons (k := k0) h t => by
    rw [List.map_cons, List.map_cons]
    by_cases e : k0 = k
    · simp only [if_pos e]
      exact .cons hv (Tk.mapput hv t)
    · simp only [if_neg e]
      exact .cons h (Tk.mapput hv t)
theorem Tk.put {k : Key} {v : V} {d : Tr} {kvs : List (Key × V)} {es : List (Key × Tr)} (h : Tk K H P kvs es) (hv : T K H P v d) : Tk K H P (putK kvs k v) (putD es k d) := by
  unfold putK putD
  rw [h.anyk k]
  by_cases e : (es.any fun kv => decide (kv.1 = k)) = true
  · rw [if_pos e, if_pos e]
    exact h.mapput hv
  · rw [if_neg e, if_neg e]
    exact h.append (.cons hv .nil)
theorem Tk.del (k : Key) : ∀ {kvs : List (Key × V)} {es : List (Key × Tr)}, Tk K H P kvs es → Tk K H P (dropK kvs k) (delD es k)
  | _, _, .nil => .nil
  | _, _, .cons (k := k0) h t => by
    unfold dropK delD
    rw [List.filter_cons, List.filter_cons]
    by_cases e : k0 ≠ k
    · rw [if_pos (by simpa using e), if_pos (by simpa using e)]
      exact .cons h (Tk.del k t)
    · rw [if_neg (by simpa using e), if_neg (by simpa using e)]
      exact Tk.del k t
end
end TU

set_option Elab.async false
set_option linter.all false
set_option maxRecDepth 100000
namespace TU
open PySem PySem.Spec PyProof.Rows L2

/-! ### to the library's data -/
mutual
def py : Tr → PyData
  | .non => .none
  | .bl b => .bool b
  | .int i => .int i
  | .str x => .str x
  | .lst xs => .list (pys xs)
  | .tup xs => .tuple (pys xs)
  | .dic kvs => .dict (pyk kvs)
def pys : List Tr → List PyData
  | [] => []
  | x :: xs => py x :: pys xs
def pyk : List (Key × Tr) → List (PyData × PyData)
  | [] => []
  | p :: xs => ((match p.1 with | .inl i => .int i | .inr s => .str s), py p.2) :: pyk xs
end
mutual
/-- no dict within -/
def nod : Tr → Bool
  | .lst xs => nods xs
  | .tup xs => nods xs
  | .dic _ => false
  | _ => true
def nods : List Tr → Bool
  | [] => true
  | x :: xs => nod x && nods xs
end
mutual
/-- no list within -/
def nol : Tr → Bool
  | .lst _ => false
  | .tup xs => nols xs
  | .dic kvs => nolk kvs
  | _ => true
def nols : List Tr → Bool
  | [] => true
  | x :: xs => nol x && nols xs
def nolk : List (Key × Tr) → Bool
  | [] => true
  | p :: xs => nol p.2 && nolk xs
end
mutual
def dep : Tr → Nat
  | .lst xs => deps xs + 1
  | .tup xs => deps xs + 1
  | .dic kvs => depk kvs + 1
  | _ => 0
def deps : List Tr → Nat
  | [] => 0
  | x :: xs => max (dep x) (deps xs)
def depk : List (Key × Tr) → Nat
  | [] => 0
  | p :: xs => max (dep p.2) (depk xs)
end
mutual
theorem plain_py : ∀ d : Tr, nod d = true → (py d).plain = true
  | .non, _ => rfl
  | .bl _, _ => rfl
  | .int _, _ => rfl
  | .str _, _ => rfl
  | .lst xs, h => by
    have h' : nods xs = true := by simpa [nod] using h
    simp only [py, PyData.plain]
    exact plain_pys xs h'
  | .tup xs, h => by
    have h' : nods xs = true := by simpa [nod] using h
    simp only [py, PyData.plain]
    exact plain_pys xs h'
  | .dic _, h => by simp [nod] at h
theorem plain_pys : ∀ ds : List Tr, nods ds = true → PyData.plainAll (pys ds) = true
  | [], _ => rfl
  | x :: xs, h => by
    have h' : nod x = true ∧ nods xs = true := by simpa [nods] using h
    simp only [pys, PyData.plainAll, plain_py x h'.1, plain_pys xs h'.2, Bool.and_self]
end
mutual
theorem depth_py : ∀ d : Tr, (py d).depth = dep d
  | .non => rfl
  | .bl _ => rfl
  | .int _ => rfl
  | .str _ => rfl
  | .lst xs => by simp only [py, PyData.depth, dep, depth_pys xs]
  | .tup xs => by simp only [py, PyData.depth, dep, depth_pys xs]
  | .dic kvs => by simp only [py, PyData.depth, dep, depth_pyk kvs]
theorem depth_pys : ∀ ds : List Tr, PyData.depthAll (pys ds) = deps ds
  | [] => rfl
  | x :: xs => by simp only [pys, PyData.depthAll, deps, depth_py x, depth_pys xs]
theorem depth_pyk : ∀ ds : List (Key × Tr), PyData.depthKv (pyk ds) = depk ds
  | [] => rfl
  | (k, x) :: xs => by
    cases k <;> simp [pyk, PyData.depthKv, depk, depth_py x, depth_pyk xs, PyData.depth]
end

section
variable {X : Cx} {pins : List (Addr × Obj)} {σ : L2.St} {H : Hp} {s : Shared} {P : Addr → Prop}
theorem reads_keys {prog : Program} {w : World} {h : Heap} {es : List DictEntry} {kvs : List (Key × Value)} (r : Pairs (mixKind prog w) es kvs) : ∀ {ds : List (Key × Tr)}, kvs.map (·.1) = ds.map (·.1) →
    ReadsAll h (es.map (·.key)) ((pyk ds).map (·.1)) [] := by
  induction r with
  | nil =>
    intro ds hk
    cases ds with
    | nil => exact .nil
    | cons q ds => exact nomatch hk
  | @cons e p es kvs h1 h2 t ih =>
    intro ds hk
    cases ds with
    | nil => exact nomatch hk
    | cons q ds =>
      obtain ⟨k, d⟩ := q
      have hk' : p.1 = k ∧ kvs.map (·.1) = ds.map (·.1) := by simpa using hk
      have r1 : keyIs k e.key = true := by rw [← hk'.1]; exact h1
      have ih' := ih hk'.2
      simp only [List.map_cons, pyk]
      rcases keyIs_shape r1 with ⟨i, t, rfl, e2⟩ | ⟨x, t, rfl, e2⟩
      · rw [e2]
        exact ReadsAll.cons (as := []) (bs := []) (Reads.int i t) ih'
      · rw [e2]
        exact ReadsAll.cons (as := []) (bs := []) (Reads.str x t) ih'
theorem vals_of_pairs {prog : Program} {w : World} {es : List DictEntry} {kvs : List (Key × Value)} (r : Pairs (mixKind prog w) es kvs) : es.map (·.val) = kvs.map (·.2) := by
  induction r with
  | nil => rfl
  | cons h1 h2 t ih => rw [List.map_cons, List.map_cons, h2, ih]
theorem pyk_snd : ∀ ds : List (Key × Tr), (pyk ds).map (·.2) = pys (ds.map (·.2))
  | [] => rfl
  | p :: ds => by simp only [pyk, List.map_cons, pys, pyk_snd ds]
mutual
/-- a tree is read as the library's data; where no list lies within, sys.modules is none of its objects -/
theorem T.reads (I : Inv X pins σ H s) : ∀ (d : Tr) (v : V) (u : Value), T X.K H P v d → RelV v u → ∃ as, Reads s.heap u (py d) as ∧ (nol d = true → sysModules ∉ as)
  | .non, _, _, h, r => by
    cases h
    cases r
    exact ⟨_, Reads.none, fun _ h => nomatch h⟩
  | .bl b, _, _, h, r => by
    cases h
    cases r
    exact ⟨_, Reads.bool b, fun _ h => nomatch h⟩
  | .int i, _, _, h, r => by
    cases h
    obtain ⟨t, rfl⟩ := r
    exact ⟨_, Reads.int i t, fun _ h => nomatch h⟩
  | .str x, _, _, h, r => by
    cases h
    obtain ⟨t, rfl⟩ := r
    exact ⟨_, Reads.str x t, fun _ h => nomatch h⟩
  | .lst ds, _, _, h, r => by
    cases h with
    | lst p hs ha =>
      cases r
      obtain ⟨its, rv, ⟨o, n, ho, hc, _, hd⟩, _⟩ := I.list hs
      obtain ⟨as, hr, _⟩ := Ts.reads I ds _ its ha rv
      exact ⟨_, Reads.list ho hc hd hr, fun q => by simp [nol] at q⟩
  | .tup ds, _, _, h, r => by
    cases h with
    | tup hs ha =>
      cases r
      obtain ⟨its, rv, ⟨o, ho, hc, n, hd⟩, _⟩ := I.tuple hs
      obtain ⟨as, hr, hn⟩ := Ts.reads I ds _ its ha rv
      exact ⟨_, Reads.tuple ho hc hd hr, fun q => hn (by simpa [nol] using q)⟩
  | .dic ds, _, _, h, r => by
    cases h with
    | @dic a kvs _ p hs ha =>
      cases r
      obtain ⟨z, hd, vs, rel, o, es, ep, ho, hx, hdat, hk, hp, nd⟩ := dk_rd I.hok hs
      have hkeys : vs.map (·.1) = ds.map (·.1) := rel.keys.symm.trans ha.keys
      obtain ⟨bs, hr, hn⟩ := Tk.reads I ds kvs vs ha rel
      have e2 : es.toList.map (·.val) = vs.map (·.2) := vals_of_pairs hp
      rw [← e2, ← pyk_snd] at hr
      refine ⟨_, Reads.dict ho hx.1 hdat (reads_keys hp hkeys) hr, fun q => ?_⟩
      have q' : nolk ds = true := by simpa [nol] using q
      have hd' : a ≠ sysModules := by simpa using hd
      simp only [List.cons_append, List.nil_append, List.mem_cons, not_or]
      exact ⟨fun z => hd' z.symm, hn q'⟩
theorem Ts.reads (I : Inv X pins σ H s) : ∀ (ds : List Tr) (vs : List V) (us : List Value), Ts X.K H P vs ds → Vals vs us → ∃ as, ReadsAll s.heap us (pys ds) as ∧ (nols ds = true → sysModules ∉ as)
  | [], _, _, h, r => by
    cases h
    cases r
    exact ⟨_, ReadsAll.nil, fun _ h => nomatch h⟩
  | d :: ds, _, _, h, r => by
    cases h with
    | cons h1 h2 =>
      cases r with
      | cons r1 r2 =>
        obtain ⟨as, q1, n1⟩ := T.reads I d _ _ h1 r1
        obtain ⟨bs, q2, n2⟩ := Ts.reads I ds _ _ h2 r2
        refine ⟨_, ReadsAll.cons q1 q2, fun q => ?_⟩
        have q' : nol d = true ∧ nols ds = true := by simpa [nols] using q
        rw [List.mem_append, not_or]
        exact ⟨n1 q'.1, n2 q'.2⟩
theorem Tk.reads (I : Inv X pins σ H s) : ∀ (ds : List (Key × Tr)) (kvs : List (Key × V)) (vs : List (Key × Value)), Tk X.K H P kvs ds → KV kvs vs → ∃ as, ReadsAll s.heap (vs.map (·.2)) (pys (ds.map (·.2))) as ∧ (nolk ds = true → sysModules ∉ as)
  | [], _, _, h, r => by
    cases h
    cases r
    exact ⟨_, ReadsAll.nil, fun _ h => nomatch h⟩
  | d :: ds, _, _, h, r => by
    cases h with
    | cons h1 h2 =>
      cases r with
      | cons r1 r2 =>
        obtain ⟨as, q1, n1⟩ := T.reads I _ _ _ h1 r1.2
        obtain ⟨bs, q2, n2⟩ := Tk.reads I ds _ _ h2 r2
        refine ⟨_, ReadsAll.cons q1 q2, fun q => ?_⟩
        simp only [nolk, Bool.and_eq_true] at q
        rw [List.mem_append, not_or]
        exact ⟨n1 q.1, n2 q.2⟩
end
end

/-! ### operators of any kind -/
section
variable {X : Cx}
/-- a + b -/
def rAddU (K : PySem.W.Frag) : R2 := fun x y H Q => (∃ i j, x = .int i ∧ y = .int j ∧ Q (.int (i + j)) H) ∨ (∃ i j, x = .str i ∧ y = .str j ∧ i.length + j.length ≤ sizeLine ∧ Q (.str (i ++ j)) H) ∨ rCat x y H Q ∨ rCatT K x y H Q
theorem op_addU : OpR X (binaryOp .Add) (rAddU X.K) := op_add.or (op_add_str.or (op_cat.or op_catT))
theorem q_addI {K : PySem.W.Frag} {i j : Int} {H : Hp} {Q : VK} (q : Q (.int (i + j)) H) : rAddU K (.int i) (.int j) H Q := .inl ⟨i, j, rfl, rfl, q⟩
theorem q_addS {K : PySem.W.Frag} {i j : Str} {H : Hp} {Q : VK} (z : i.length + j.length ≤ sizeLine) (q : Q (.str (i ++ j)) H) : rAddU K (.str i) (.str j) H Q := .inr (.inl ⟨i, j, rfl, rfl, z, q⟩)
theorem q_addL {K : PySem.W.Frag} {a b : Addr} {xs ys : List V} {H : Hp} {Q : VK} (ha : H a = some (.lst xs)) (hb : H b = some (.lst ys)) (z : xs.length + ys.length ≤ sizeLine) (q : ∀ p, H p = none → Q (.ref p) (upd H p (.lst (xs ++ ys)))) :
    rAddU K (.ref a) (.ref b) H Q := .inr (.inr (.inl ⟨a, b, xs, ys, rfl, rfl, ha, hb, z, q⟩))
theorem q_addT {K : PySem.W.Frag} {a b : Addr} {xs ys : List V} {H : Hp} {Q : VK} (ha : SqT K H a xs) (hb : SqT K H b ys) (n1 : xs ≠ []) (n2 : ys ≠ []) (z : xs.length + ys.length ≤ sizeLine) (q : ∀ p, H p = none → Q (.ref p) (upd H p (.tup (xs ++ ys)))) :
    rAddU K (.ref a) (.ref b) H Q := .inr (.inr (.inr ⟨a, b, xs, ys, rfl, rfl, ha, hb, n1, z, fun e => absurd e n2, fun _ => q⟩))

/-- what == tells of two trees without dicts -/
def eqb (d e : Tr) : Bool := PyData.eqv (py d) (py e)
theorem eqb_refl {d : Tr} (h : nod d = true) : eqb d d = true := SeqAt.eqv_refl_plain _ (plain_py d h)
/-- a dict == another one: the values without dicts -/
def eqk (ks ls : List (Key × Tr)) : Bool := ks.length == ls.length && ks.all fun p => match getD ls p.1 with | some u => eqb p.2 u | none => false

/-- a == b: trees without dicts -/
def rEqT (K : PySem.W.Frag) (n : Nat) : R2 := fun x y H Q => ∃ P d e, T K H P x d ∧ T K H P y e ∧ nod d = true ∧ nod e = true ∧ dep d ≤ n ∧ Q (.bl (eqb d e)) H
def rNeT (K : PySem.W.Frag) (n : Nat) : R2 := fun x y H Q => ∃ P d e, T K H P x d ∧ T K H P y e ∧ nod d = true ∧ nod e = true ∧ dep d ≤ n ∧ Q (.bl (!eqb d e)) H
theorem op_eqT {n : Nat} (hu : X.A.units + n < cLine) : OpR X (compareOp .Eq) (rEqT X.K n) := by
  intro pins s σ H x y v u Q I rx ry h
  obtain ⟨P, d, e, hd, he, nd, ne, hn, q⟩ := h
  obtain ⟨as, r1, _⟩ := T.reads I d x v hd rx
  obtain ⟨bs, r2, _⟩ := T.reads I e y u he ry
  refine SeqAt.eq_plain r1 r2 (plain_py d nd) (plain_py e ne) ?_ ⟨.bl _, H, I, rfl, q⟩
  rw [depth_py, depth_py]
  have := Nat.min_le_left (dep d) (dep e)
  omega
theorem op_neT {n : Nat} (hu : X.A.units + n < cLine) : OpR X (compareOp .NotEq) (rNeT X.K n) := by
  intro pins s σ H x y v u Q I rx ry h
  obtain ⟨P, d, e, hd, he, nd, ne, hn, q⟩ := h
  obtain ⟨as, r1, _⟩ := T.reads I d x v hd rx
  obtain ⟨bs, r2, _⟩ := T.reads I e y u he ry
  refine SeqAt.ne_plain r1 r2 (plain_py d nd) (plain_py e ne) ?_ ⟨.bl _, H, I, rfl, q⟩
  rw [depth_py, depth_py]
  have := Nat.min_le_left (dep d) (dep e)
  omega

/-- the values that are met when two dicts are compared -/
theorem hits_of {pins : List (Addr × Obj)} {σ : L2.St} {H : Hp} {s : Shared} {P P' : Addr → Prop} {A : Around} {n : Nat} (I : Inv X pins σ H s) (hu : A.units + n < cLine) {ls : List (Key × Tr)} {vl : List (Key × V)} {vb : List (Key × Value)} (hl : Tk X.K H P' vl ls) (rb : KV vl vb) (nl : ∀ p ∈ ls, nod p.2 = true) :
    ∀ {ks : List (Key × Tr)} {vk : List (Key × V)} {va : List (Key × Value)}, Tk X.K H P vk ks → KV vk va → (∀ p ∈ ks, nod p.2 = true ∧ dep p.2 ≤ n) →
      ∃ b, PySem.W.KeqHits A s vb va b ∧ (b = ks.all fun p => match getD ls p.1 with | some u => eqb p.2 u | none => false)
  | [], _, _, h, r, _ => by
    cases h
    cases r
    exact ⟨true, .nil, rfl⟩
  | (k, d) :: ks, _, _, h, r, hn => by
    cases h with
    | @cons _ v vk _ _ h1 h2 =>
      cases r with
      | @cons _ q _ _ r1 r2 =>
        obtain ⟨e1, e2⟩ := r1
        obtain ⟨key, w'⟩ := q
        have e1' : k = key := e1
        subst e1'
        obtain ⟨b, hb, eb⟩ := hits_of I hu hl rb nl h2 r2 fun p hp => hn p (List.mem_cons_of_mem _ hp)
        have rr := rb.val k
        rcases hl.get k with ⟨z1, z2⟩ | ⟨u, e, z1, z2, z3⟩
        · rw [z1] at rr
          have e3 : valueAt vb k = none := by
            cases q : valueAt vb k with
            | none => rfl
            | some y =>
              rw [q] at rr
              exact (show False from rr).elim
          refine ⟨false, .miss e3, ?_⟩
          rw [List.all_cons]
          simp only [z2, Bool.false_and]
        · rw [z1] at rr
          obtain ⟨y, hy, ry⟩ := rr.some_of
          obtain ⟨as, q1, _⟩ := T.reads I d v w' h1 e2
          obtain ⟨bs, q2, _⟩ := T.reads I e u y z3 ry
          have ne : nod e = true := by
            have hm : ∃ p ∈ ls, p.1 = k ∧ p.2 = e := by
              unfold getD at z2
              cases q : ls.find? fun kv => decide (kv.1 = k) with
              | none =>
                rw [q] at z2
                cases z2
              | some p =>
                rw [q] at z2
                exact ⟨p, List.mem_of_find?_eq_some q, by simpa using List.find?_some q, Option.some.inj z2⟩
            obtain ⟨p, hp, _, hp2⟩ := hm
            rw [← hp2]
            exact nl p hp
          have hd := hn (k, d) List.mem_cons_self
          have EA : SeqAt.EqAt A s w' y (eqb d e) := SeqAt.eqAt_plain _ _ A s w' y _ _ q1 q2 (plain_py d hd.1) (plain_py e ne) (by
            rw [depth_py, depth_py]
            have h3 : dep d ≤ n := hd.2
            have := Nat.min_le_left (dep d) (dep e)
            omega)
          refine ⟨eqb d e && b, .hit hy EA hb, ?_⟩
          rw [List.all_cons]
          simp only [z2, eb]
def rEqK (neg : Bool) (K : PySem.W.Frag) (n : Nat) : R2 := fun x y H Q => ∃ P a b vk vl ks ls, x = .ref a ∧ y = .ref b ∧ Rd H a (.dK vk) ∧ Rd H b (.dK vl) ∧ Tk K H P vk ks ∧ Tk K H P vl ls ∧ (∀ p ∈ ks, nod p.2 = true ∧ dep p.2 ≤ n) ∧ (∀ p ∈ ls, nod p.2 = true) ∧ Q (.bl (if neg then !eqk ks ls else eqk ks ls)) H
theorem op_eqK {n : Nat} (hu : X.A.units + 1 + n < cLine) : OpR X (compareOp .Eq) (rEqK false X.K n) := by
  intro pins s σ H x y v u Q I rx ry h
  obtain ⟨P, a, b, vk, vl, ks, ls, rfl, rfl, ha, hb, ta, tb, na, nb, q⟩ := h
  cases (show v = Value.ref a from rx)
  cases (show u = Value.ref b from ry)
  obtain ⟨_, ya, va, ra, da⟩ := dk_rd I.hok ha
  obtain ⟨_, yb, vb, rb, db⟩ := dk_rd I.hok hb
  obtain ⟨r, hits, er⟩ := hits_of I (A := X.A.in1) hu tb rb nb ta ra na
  refine PySem.W.keq_eq (knd := mixKind X.prog X.w) ya yb da db (by omega) (fun _ => hits) ⟨.bl _, H, I, rfl, ?_⟩
  have e1 : va.length = ks.length := by rw [← ra.length, ta.length]
  have e2 : vb.length = ls.length := by rw [← rb.length, tb.length]
  rw [e1, e2, er]
  exact q
theorem op_neK {n : Nat} (hu : X.A.units + 1 + n < cLine) : OpR X (compareOp .NotEq) (rEqK true X.K n) := by
  intro pins s σ H x y v u Q I rx ry h
  obtain ⟨P, a, b, vk, vl, ks, ls, rfl, rfl, ha, hb, ta, tb, na, nb, q⟩ := h
  cases (show v = Value.ref a from rx)
  cases (show u = Value.ref b from ry)
  obtain ⟨_, ya, va, ra, da⟩ := dk_rd I.hok ha
  obtain ⟨_, yb, vb, rb, db⟩ := dk_rd I.hok hb
  obtain ⟨r, hits, er⟩ := hits_of I (A := X.A.in1) hu tb rb nb ta ra na
  refine PySem.W.keq_ne (knd := mixKind X.prog X.w) ya yb da db (by omega) (fun _ => hits) ⟨.bl _, H, I, rfl, ?_⟩
  have e1 : va.length = ks.length := by rw [← ra.length, ta.length]
  have e2 : vb.length = ls.length := by rw [← rb.length, tb.length]
  rw [e1, e2, er]
  exact q
/-- a == b, a != b of anything that is known here -/
def rEqU (K : PySem.W.Frag) : R2 := fun x y H Q => rEq x y H Q ∨ rEqT K 60 x y H Q ∨ rEqK false K 60 x y H Q
def rNeU (K : PySem.W.Frag) : R2 := fun x y H Q => rNe x y H Q ∨ rNeT K 60 x y H Q ∨ rEqK true K 60 x y H Q
theorem op_eqU (hu : X.A.units + 64 < cLine) : OpR X (compareOp .Eq) (rEqU X.K) := op_eq.or ((op_eqT (by omega)).or (op_eqK (by omega)))
theorem op_neU (hu : X.A.units + 64 < cLine) : OpR X (compareOp .NotEq) (rNeU X.K) := op_ne.or ((op_neT (by omega)).or (op_neK (by omega)))

/-- x in c, x not in c -/
def rInU (neg : Bool) (K : PySem.W.Frag) : R2 := fun x y H Q => (∃ a o, y = .ref a ∧ DGet H a x o ∧ Q (.bl (if neg then !o.isSome else o.isSome)) H) ∨
  (∃ P d ds, T K H P x d ∧ (T K H P y (.lst ds) ∨ T K H P y (.tup ds)) ∧ nod d = true ∧ nods ds = true ∧ dep d ≤ 60 ∧ Q (.bl (if neg then !ds.any fun z => eqb z d else ds.any fun z => eqb z d)) H) ∨
  (∃ i j, x = .str i ∧ y = .str j ∧ Q (.bl (if neg then (Builtin.Str.occurrences j i 0 j.length 1).isEmpty else !(Builtin.Str.occurrences j i 0 j.length 1).isEmpty)) H)
theorem any_pys (d : Tr) : ∀ ds : List Tr, ((pys ds).any fun z => PyData.eqv z (py d)) = ds.any fun z => eqb z d
  | [] => rfl
  | x :: xs => by rw [pys, List.any_cons, List.any_cons, any_pys d xs] <;> rfl
theorem op_inU (hu : X.A.units + 64 < cLine) : OpR X (compareOp .In) (rInU false X.K) := by
  intro pins s σ H x y v u Q I rx ry h
  rcases h with ⟨a, o, rfl, g, q⟩ | ⟨P, d, ds, hd, he, nd, ns, hn, q⟩ | ⟨i, j, rfl, rfl, q⟩
  · cases (show u = Value.ref a from ry)
    exact d_in (by omega) I g rx fun s3 I3 => ⟨.bl o.isSome, H, I3, rfl, q⟩
  · obtain ⟨as, r1, _⟩ := T.reads I d x v hd rx
    have hm : X.A.units + 1 + min (PyData.depthAll (pys ds)) (py d).depth < cLine := by
      rw [depth_py, depth_pys]
      have := Nat.min_le_right (deps ds) (dep d)
      omega
    rcases he with he | he
    · obtain ⟨bs, r2, _⟩ := T.reads I _ y u he ry
      exact SeqAt.in_list_data r2 r1 (plain_pys ds ns) (plain_py d nd) hm ⟨.bl _, H, I, rfl, by rw [any_pys]; exact q⟩
    · obtain ⟨bs, r2, _⟩ := T.reads I _ y u he ry
      exact SeqAt.in_tuple_data r2 r1 (plain_pys ds ns) (plain_py d nd) hm ⟨.bl _, H, I, rfl, by rw [any_pys]; exact q⟩
  · exact op_in_str pins s σ H _ _ v u Q I rx ry ⟨i, j, rfl, rfl, q⟩
theorem op_notInU (hu : X.A.units + 64 < cLine) : OpR X (compareOp .NotIn) (rInU true X.K) := by
  intro pins s σ H x y v u Q I rx ry h
  rcases h with ⟨a, o, rfl, g, q⟩ | ⟨P, d, ds, hd, he, nd, ns, hn, q⟩ | ⟨i, j, rfl, rfl, q⟩
  · cases (show u = Value.ref a from ry)
    exact d_notIn (by omega) I g rx fun s3 I3 => ⟨.bl (!o.isSome), H, I3, rfl, q⟩
  · obtain ⟨as, r1, _⟩ := T.reads I d x v hd rx
    have hm : X.A.units + 1 + min (PyData.depthAll (pys ds)) (py d).depth < cLine := by
      rw [depth_py, depth_pys]
      have := Nat.min_le_right (deps ds) (dep d)
      omega
    rcases he with he | he
    · obtain ⟨bs, r2, _⟩ := T.reads I _ y u he ry
      exact SeqAt.notIn_list_data r2 r1 (plain_pys ds ns) (plain_py d nd) hm ⟨.bl _, H, I, rfl, by rw [any_pys]; exact q⟩
    · obtain ⟨bs, r2, _⟩ := T.reads I _ y u he ry
      exact SeqAt.notIn_tuple_data r2 r1 (plain_pys ds ns) (plain_py d nd) hm ⟨.bl _, H, I, rfl, by rw [any_pys]; exact q⟩
  · exact op_notIn_str pins s σ H _ _ v u Q I rx ry ⟨i, j, rfl, rfl, by
      rw [Bool.not_not]
      exact q⟩

/-- c[k] -/
def rDIx : R2 := fun x y H Q => ∃ a v, x = .ref a ∧ DGet H a y (some v) ∧ Q v H
theorem ix_dict (hu : X.A.units + 1 < cLine) : IxR X rDIx := by
  intro value slice pins s σ H x y v u Q I rx ry h hs
  obtain ⟨a, w, rfl, g, q⟩ := h
  cases (show v = Value.ref a from rx)
  exact PyProof.Rows.tail_any (dict_typeIs I g) PySem.F.slot_dict_getitem.lookup (d_getItem hu I g ry fun w' s3 I3 rw' => ⟨w, H, I3, rw', q⟩) hs
def rIxU (K : PySem.W.Frag) : R2 := fun x y H Q => rIxL K x y H Q ∨ rIxT K x y H Q ∨ rIxS x y H Q ∨ rDIx x y H Q
theorem ix_any (hu : X.A.units + 64 < cLine) : IxR X (rIxU X.K) := ix_list.or (ix_tup.or (ix_str.or (ix_dict (by omega))))
/-- c[k] = v -/
def rSetU : TSet := fun o i v H Q => rSetL o i v H Q ∨ rSetD o i v H Q
theorem set_any (hu : X.A.units + 64 < cLine) : PSet X rSetU := by
  intro pins s σ H o i v ov iv u Q I ro ri rv h
  rcases h with h | h
  · exact set_list pins s σ H o i v ov iv u Q I ro ri rv h
  · exact set_dict (by omega) pins s σ H o i v ov iv u Q I ro ri rv h
/-- c[lo:hi] -/
def rSlU (K : PySem.W.Frag) : V → Option Int → Option Int → Hp → VK → Prop := fun x lo hi H Q => rSlL K x lo hi H Q ∨ rSlT K x lo hi H Q ∨ rSlS x lo hi H Q
theorem sl_any : SlR X (rSlU X.K) := sl_list.or (sl_tup.or sl_str)
/-- len(c) -/
def rLenU (K : PySem.W.Frag) : List V → Hp → VK → Prop := fun xs H Q => (∃ p ys, xs = [.ref p] ∧ (SqL K H p ys ∨ SqT K H p ys) ∧ Q (.int ys.length) H) ∨ (∃ z, xs = [.str z] ∧ z.length ≤ sizeLine ∧ Q (.int z.length) H) ∨ ∃ a kvs, xs = [.ref a] ∧ Rd H a (.dK kvs) ∧ Q (.int kvs.length) H
theorem call_lenR : CallR X (.builtin "len") (fun xs H Q => ∃ a kvs, xs = [V.ref a] ∧ Rd H a (.dK kvs) ∧ Q (.int kvs.length) H) := by
  intro pins s σ H xs us Q I r h
  obtain ⟨a, kvs, rfl, hd, q⟩ := h
  obtain ⟨u, rfl, rx⟩ := vals1 r
  cases rx
  exact d_len I hd fun t s' I' => ⟨.int _, H, I', ⟨t, rfl⟩, q⟩
theorem call_lenU : CallR X (.builtin "len") (rLenU X.K) := call_len_seq.or (call_len_str.or call_lenR)
/-- list(c) -/
def rListU (K : PySem.W.Frag) : List V → Hp → VK → Prop := fun xs H Q => (∃ p ys, xs = [.ref p] ∧ (SqL K H p ys ∨ SqT K H p ys) ∧ ∀ l, H l = none → Q (.ref l) (upd H l (.lst ys))) ∨
  (∃ (a : Addr) (kvs : List (Key × V)), xs = [.ref a] ∧ Rd H a (.dK kvs) ∧ ∀ p, H p = none → Q (.ref p) (upd H p (.lst (kvs.map fun kv => kV kv.1))))
theorem call_listU (hc : X.calm = true) : CallR X (.type "list") (rListU X.K) := call_list_of.or (call_listD hc)
/-- repr(c) of a tree -/
def rReprT (K : PySem.W.Frag) : List V → Hp → VK → Prop := fun xs H Q => ∃ P a d, xs = [.ref a] ∧ T K H P (.ref a) d ∧ (py d).showable = true ∧ ((py d).hasDict = true → nol d = true) ∧ dep d ≤ 60 ∧ (py d).shown.length ≤ sizeLine ∧ Q (.str (py d).shown) H
theorem call_reprT (hg : X.A.guards = some []) (hu : X.A.units + 64 < cLine) : CallR X (.builtin "repr") (rReprT X.K) := by
  intro pins s σ H xs us Q I r h
  obtain ⟨P, a, d, rfl, ht, hs, hn, hd, hz, q⟩ := h
  obtain ⟨u, rfl, rx⟩ := vals1 r
  cases (show u = Value.ref a from rx)
  obtain ⟨as, r1, na⟩ := T.reads I d _ _ ht rfl
  exact repr_of_reads' r1 hs (fun z => na (hn z)) hg (by rw [depth_py]; omega) (fun _ _ e => e) (fun h' u tk k => ⟨.str _, H, I.kept (t' := tk) k, ⟨u, rfl⟩, q⟩) hz
end
end TU

set_option Elab.async false
set_option linter.all false
set_option maxRecDepth 100000
namespace TU
open PySem PySem.Spec PyProof.Rows L2

/-! ### one of two rules -/
section
variable {X : Cx}
theorem PEor {e : Expr} {t t' : TE} (h : PE X e t) (h' : PE X e t') : PE X e (fun σ H Q => t σ H Q ∨ t' σ H Q) := ⟨fun pins s σ H Q I q => q.elim (h.run pins s σ H Q I) (h'.run pins s σ H Q I)⟩
theorem PSor {e : Stmt} {t t' : TS} (h : PS X e t) (h' : PS X e t') : PS X e (fun D σ H => t D σ H ∨ t' D σ H) := ⟨fun pins s σ H Q I q => q.elim (h.run pins s σ H Q I) (h'.run pins s σ H Q I)⟩
theorem PIor {tg e : Expr} {t t' : TI} (h : PI X tg e t) (h' : PI X tg e t') : PI X tg e (fun σ H R => t σ H R ∨ t' σ H R) := ⟨fun pins s σ H Q I q => q.elim (h.run pins s σ H Q I) (h'.run pins s σ H Q I)⟩
/-- what a for walks: a list, a tuple, a dict that is locked -/
def iAny (K : PySem.W.Frag) (te : TE) : TI := fun σ H R => iList K te σ H R ∨ iTup K te σ H R ∨ iKeys te σ H R
theorem pi_any {tg e : Expr} {te : TE} (h : PE X e te) : PI X tg e (iAny X.K te) := PIor (pi_list h) (PIor (pi_tup h) (pi_keys h))
/-- .. the dict locked here -/
def tLockU (t : TS) : TS := fun D σ H => t D σ H ∨ tLock t D σ H
theorem ps_lockU {e : Stmt} {t : TS} (h : PS X e t) : PS X e (tLockU t) := PSor h (ps_lock h)
def tLockEU (t : TE) : TE := fun σ H Q => t σ H Q ∨ tLockE t σ H Q
theorem pe_lockU {e : Expr} {t : TE} (h : PE X e t) : PE X e (tLockEU t) := PEor h (pe_lock h)
end

/-! ### a def of the text, called -/
structure Df (P : Program) (w : World) (K : PySem.W.Frag) (mg : Str → Option Value) (base : Heap) (x : Str) (ps : List Str) (k : Nat) (sp : Sp) : Prop where
  ex : ∃ f fd, FnOk P w K mg base (L2.CX P w) k f fd ps sp ∧ mg x = some (.ref f) ∧ PySem.W.keepIn K (.ref f) = true ∧ Binds K fd ps []
structure TopF (K : PySem.W.Frag) (mg : Str → Option Value) (x : Str) (st : Stmt) (ps : List Str) : Prop where
  ex : ∃ f fd, Fun K x x st f fd ∧ mg x = some (.ref f) ∧ Binds K fd ps []
section
variable {P : Program} {w : World} {K : PySem.W.Frag} {mg : Str → Option Value} {base : Heap}
theorem TopF.df {x : Str} {st : Stmt} {N ps : List Str} {k : Nat} {sp : Sp} (F : TopF K mg x st ps) (S : FnScope N ps (defScope st)) (len : ∀ vs H Q E, sp vs H Q E → vs.length = ps.length)
    (hbody : ∀ (f : Addr) (cdv : Value) (A : Around) (outer : List Env) (s : Shared) (H : Hp) (vs : List V) (Q : VK) (E : XK), Room k (A.deeper (envOfC x (defScope st) s.heap.objs.size f cdv)) → sp vs H Q E →
      ∃ t, PSs (cxOf (L2.CX P w) P w K mg base N x (defScope st) f cdv A outer s H E) (defBody st) t ∧ t { nx := fun _ H' => Q .non H', rt := Q } (start N vs) H) : Df P w K mg base x ps (k + 1) sp := by
  obtain ⟨f, fd, F0, hm, hb⟩ := F.ex
  exact ⟨f, fd, F0.okX S len fun cdv A outer s H vs Q E hr h => hbody f cdv A outer s H vs Q E hr h, hm, F0.kp, hb⟩
theorem Df.imp {x : Str} {ps : List Str} {k : Nat} {sp sp' : Sp} (F : Df P w K mg base x ps k sp) (h : ∀ vs H Q E, sp' vs H Q E → sp vs H Q E) : Df P w K mg base x ps k sp' := by
  obtain ⟨f, fd, F0, r⟩ := F.ex
  exact ⟨f, fd, F0.imp h, r⟩
end
section
variable {X : Cx} {k : Nat} {ps : List Str} {sp : Sp} {x : Str} {p pos : Pos} {e : Expr} {es : List Expr} {t : TA} 
/-- its call, where exceptions go on as E says -/
theorem pe_df {E : L2.St → XK} (F : Df X.prog X.w X.K X.mg X.base x ps k sp) (hr : Room k X.A) (hx : ∀ σ, PassesAt (L2.CX X.prog X.w) X σ (E σ)) (ha : PA X (e :: es) t) (hg : Gl X x := by rfl)
    (hdb : (x == ("__debug__" : Str)) = false := by decide) (he : starEach (e :: es) X.env = (false, eval e X.env) :: starEach es X.env := by rfl) (hpl : (backTo pos (starEach es X.env)).any (·.1) = false := by rfl) :
    PE X (.Call (.Name x p) (e :: es) [] pos) (tCallS sp E t) := by
  obtain ⟨f, fd, F0, hm, hk, hb⟩ := F.ex
  exact pe_callS F0 hr hg hm hk hb hx ha hdb he hpl
/-- its call, where nothing is raised -/
theorem pe_df0 (F : Df X.prog X.w X.K X.mg X.base x ps k sp) (hr : Room k X.A) (ha : PA X (e :: es) t) (hg : Gl X x := by rfl)
    (hdb : (x == ("__debug__" : Str)) = false := by decide) (he : starEach (e :: es) X.env = (false, eval e X.env) :: starEach es X.env := by rfl) (hpl : (backTo pos (starEach es X.env)).any (·.1) = false := by rfl) :
    PE X (.Call (.Name x p) (e :: es) [] pos) (tCallS sp (fun _ => E0) t) := by
  obtain ⟨f, fd, F0, hm, hk, hb⟩ := F.ex
  exact pe_callS F0 hr hg hm hk hb (fun _ _ s s' e' H' I h => passL _ _ _ _ _ _ I h) ha hdb he hpl
end

/-! ### readings, step by step -/
section
variable {K : PySem.W.Frag} {σ : L2.St} {H : Hp} {D : Ends} {Q : VK} {te ta tb tk : TE} {t u : TS} {g : TG} {i : Nat} {v : V} {c : TT} {tr : TA}
theorem q_seq (h : t { D with nx := u D } σ H) : tSeq t u D σ H := h
theorem q_asg (h : te σ H fun x H1 => g x σ H1 D.nx) : tAsg te g D σ H := h
theorem q_drop (h : te σ H fun _ H1 => D.nx σ H1) : tDrop te D σ H := h
theorem q_ret (h : te σ H D.rt) : tRet te D σ H := h
theorem q_retN (h : D.rt .non H) : tRetN D σ H := h
theorem q_next (h : D.nx σ H) : tNext D σ H := h
theorem q_if (h : c σ H fun b H1 => if b = true then t D σ H1 else u D σ H1) : tIfS c t u D σ H := h
theorem q_gname {R : L2.St → Hp → Prop} (h : R (σ.set i (some v)) H) : gName i v σ H R := h
theorem q_gsub {to ti : TE} {ts : TSet} {R : L2.St → Hp → Prop} (h : to σ H fun o H1 => ti σ H1 fun i H2 => ts o i v H2 fun H3 => R σ H3) : gSub to ti ts v σ H R := h
theorem q_var (h : σ[i]? = some (some v)) (q : Q v H) : tVar i σ H Q := ⟨v, h, q⟩
theorem q_c (q : Q v H) : tC v σ H Q := q
theorem q_op {r : R2} (h : ta σ H fun x H1 => tb σ H1 fun y H2 => r x y H2 Q) : tOp r ta tb σ H Q := h
theorem q_un {r : V → Hp → VK → Prop} (h : ta σ H fun x H1 => r x H1 Q) : tUn r ta σ H Q := h
theorem q_U {f : Int → V} {a : Int} (q : Q (f a) H) : rU f (.int a) H Q := ⟨a, rfl, q⟩
theorem q_I0 {f : Int → Int → V} {a b : Int} (q : Q (f a b) H) : rI0 f (.int a) (.int b) H Q := ⟨a, b, rfl, rfl, q⟩
theorem q_I {C : Int → Int → Prop} {f : Int → Int → V} {a b : Int} (hc : C a b) (q : Q (f a b) H) : rI C f (.int a) (.int b) H Q := ⟨a, b, rfl, rfl, hc, q⟩
theorem q_test {R : Bool → Hp → Prop} (h : te σ H fun x H' => ∃ k, x = .bl k ∧ R k H') : tTest te σ H R := h
theorem q_tB {R : Bool → Hp → Prop} (h : te σ H fun x H' => ∃ k, x = .bl k ∧ R k H') : tB te σ H R := h
theorem q_bl {b : Bool} {R : Bool → Prop} (h : R b) : ∃ k, V.bl b = V.bl k ∧ R k := ⟨b, rfl, h⟩
theorem q_not {R : Bool → Hp → Prop} (h : c σ H fun b H1 => R (!b) H1) : tNot c σ H R := h
theorem q_and {c' : TT} {R : Bool → Hp → Prop} (h : c σ H fun b H1 => if b = true then c' σ H1 R else R false H1) : tAnd c c' σ H R := h
theorem q_or {c' : TT} {R : Bool → Hp → Prop} (h : c σ H fun b H1 => if b = true then R true H1 else c' σ H1 R) : tOr c c' σ H R := h
theorem q_nil {R : List V → Hp → Prop} (h : R [] H) : tNil σ H R := h
theorem q_cons {R : List V → Hp → Prop} (h : ta σ H fun x H1 => tr σ H1 fun xs H2 => R (x :: xs) H2) : tCons ta tr σ H R := h
theorem q_callS {sp : Sp} {E : L2.St → XK} (h : tr σ H fun vs H1 => sp vs H1 Q (E σ)) : tCallS sp E tr σ H Q := h
theorem q_cb {r : List V → Hp → VK → Prop} (h : tr σ H fun vs H1 => r vs H1 Q) : tCB r tr σ H Q := h
theorem q_tup (h : tr σ H fun xs H1 => xs.length ≤ sizeLine ∧ ∀ p, H1 p = none → Q (.ref p) (upd H1 p (.tup xs))) : tTup tr σ H Q := h
theorem q_lst (h : tr σ H fun xs H1 => xs.length ≤ sizeLine ∧ ∀ p, H1 p = none → Q (.ref p) (upd H1 p (.lst xs))) : tLst tr σ H Q := h
theorem q_ifE (h : c σ H fun b H1 => if b = true then ta σ H1 Q else tb σ H1 Q) : tIf c ta tb σ H Q := h
theorem q_notV (h : ta σ H fun x H1 => ∃ c, x = .bl c ∧ Q (.bl (!c)) H1) : tNotV ta σ H Q := h
theorem q_andV (h : ta σ H fun x H1 => ∃ c, x = .bl c ∧ if c = true then tb σ H1 Q else Q (.bl false) H1) : tAndV ta tb σ H Q := h
theorem q_orV (h : ta σ H fun x H1 => ∃ c, x = .bl c ∧ if c = true then Q (.bl true) H1 else tb σ H1 Q) : tOrV ta tb σ H Q := h
theorem q_dnew (h : ∀ p, H p = none → Q (.ref p) (upd H p (.dK []))) : tDNewK σ H Q := h
theorem q_bm {T : String} {r : V → List V → Hp → VK → Prop} (h : ta σ H fun x H1 => tyV K T x H1 ∧ tr σ H1 fun xs H2 => r x xs H2 Q) : tBM K T r ta tr σ H Q := h
theorem q_size {n : Nat} {R : Prop} (h : n ≤ 1000) (r : R) : n ≤ sizeLine ∧ R := ⟨Nat.le_trans h (by decide), r⟩
/-- tests whose answer is known, or not -/
theorem q_t {A B : Prop} (h : A) : if true = true then A else B := by
  rw [if_pos rfl]
  exact h
theorem q_f {A B : Prop} (h : B) : if false = true then A else B := by
  rw [if_neg Bool.false_ne_true]
  exact h
theorem q_ite {b : Bool} {A B : Prop} (h1 : b = true → A) (h2 : b = false → B) : if b = true then A else B := by
  cases b with
  | true => exact q_t (h1 rfl)
  | false => exact q_f (h2 rfl)
theorem q_dec {p : Prop} [Decidable p] {A B : Prop} (h1 : p → A) (h2 : ¬ p → B) : if decide p = true then A else B := by
  by_cases h : p
  · rw [decide_eq_true h]
    exact q_t (h1 h)
  · rw [decide_eq_false h]
    exact q_f (h2 h)
theorem q_ndec {p : Prop} [Decidable p] {A B : Prop} (h1 : ¬ p → A) (h2 : p → B) : if (!decide p) = true then A else B := by
  by_cases h : p
  · rw [decide_eq_true h]
    exact q_f (h2 h)
  · rw [decide_eq_false h]
    exact q_t (h1 h)
/-! the operators -/
theorem q_eqI {a b : Int} (q : Q (.bl (decide (a = b))) H) : rEqU K (.int a) (.int b) H Q := .inl ⟨rfl, by
  have e : decide (V.int a = V.int b) = decide (a = b) := by simp
  rw [e]
  exact q⟩
theorem q_eqS {a b : Str} (q : Q (.bl (decide (a = b))) H) : rEqU K (.str a) (.str b) H Q := .inl ⟨rfl, by
  have e : decide (V.str a = V.str b) = decide (a = b) := by simp
  rw [e]
  exact q⟩
theorem q_eqB {a b : Bool} (q : Q (.bl (decide (a = b))) H) : rEqU K (.bl a) (.bl b) H Q := .inl ⟨rfl, by
  have e : decide (V.bl a = V.bl b) = decide (a = b) := by simp
  rw [e]
  exact q⟩
theorem q_neI {a b : Int} (q : Q (.bl (!decide (a = b))) H) : rNeU K (.int a) (.int b) H Q := .inl ⟨rfl, by
  have e : decide (V.int a = V.int b) = decide (a = b) := by simp
  rw [e]
  exact q⟩
theorem q_neS {a b : Str} (q : Q (.bl (!decide (a = b))) H) : rNeU K (.str a) (.str b) H Q := .inl ⟨rfl, by
  have e : decide (V.str a = V.str b) = decide (a = b) := by simp
  rw [e]
  exact q⟩
theorem q_eqT {P : Addr → Prop} {x y : V} {d e : Tr} (hd : T K H P x d) (he : T K H P y e) (nd : nod d = true) (ne : nod e = true) (hn : dep d ≤ 60) (q : Q (.bl (eqb d e)) H) : rEqU K x y H Q := .inr (.inl ⟨P, d, e, hd, he, nd, ne, hn, q⟩)
theorem q_neT {P : Addr → Prop} {x y : V} {d e : Tr} (hd : T K H P x d) (he : T K H P y e) (nd : nod d = true) (ne : nod e = true) (hn : dep d ≤ 60) (q : Q (.bl (!eqb d e)) H) : rNeU K x y H Q := .inr (.inl ⟨P, d, e, hd, he, nd, ne, hn, q⟩)
theorem q_eqK {P : Addr → Prop} {a b : Addr} {vk vl : List (Key × V)} {ks ls : List (Key × Tr)} (ha : Rd H a (.dK vk)) (hb : Rd H b (.dK vl)) (ta : Tk K H P vk ks) (tb : Tk K H P vl ls) (na : ∀ p ∈ ks, nod p.2 = true ∧ dep p.2 ≤ 60) (nb : ∀ p ∈ ls, nod p.2 = true)
    (q : Q (.bl (eqk ks ls)) H) : rEqU K (.ref a) (.ref b) H Q := .inr (.inr ⟨P, a, b, vk, vl, ks, ls, rfl, rfl, ha, hb, ta, tb, na, nb, q⟩)
theorem q_neK {P : Addr → Prop} {a b : Addr} {vk vl : List (Key × V)} {ks ls : List (Key × Tr)} (ha : Rd H a (.dK vk)) (hb : Rd H b (.dK vl)) (ta : Tk K H P vk ks) (tb : Tk K H P vl ls) (na : ∀ p ∈ ks, nod p.2 = true ∧ dep p.2 ≤ 60) (nb : ∀ p ∈ ls, nod p.2 = true)
    (q : Q (.bl (!eqk ks ls)) H) : rNeU K (.ref a) (.ref b) H Q := .inr (.inr ⟨P, a, b, vk, vl, ks, ls, rfl, rfl, ha, hb, ta, tb, na, nb, q⟩)
theorem dget_rd {a : Addr} {kvs : List (Key × V)} {k : Key} (e : Rd H a (.dK kvs)) : DGet H a (kV k) (valV kvs k) := .inl ⟨kvs, k, e, rfl, rfl⟩
theorem q_inD {a : Addr} {kvs : List (Key × V)} (k : Key) (e : Rd H a (.dK kvs)) (q : Q (.bl (valV kvs k).isSome) H) : rInU false K (kV k) (.ref a) H Q := .inl ⟨a, _, rfl, dget_rd e, q⟩
theorem q_ninD {a : Addr} {kvs : List (Key × V)} (k : Key) (e : Rd H a (.dK kvs)) (q : Q (.bl (!(valV kvs k).isSome)) H) : rInU true K (kV k) (.ref a) H Q := .inl ⟨a, _, rfl, dget_rd e, q⟩
theorem q_ixL {p : Addr} {xs : List V} {i : Int} (h : SqL K H p xs) (hi : atI xs i = some v) (q : Q v H) : rIxU K (.ref p) (.int i) H Q := .inl ⟨p, xs, i, v, rfl, rfl, h, hi, q⟩
theorem q_ixT {p : Addr} {xs : List V} {i : Int} (h : SqT K H p xs) (hi : atI xs i = some v) (q : Q v H) : rIxU K (.ref p) (.int i) H Q := .inr (.inl ⟨p, xs, i, v, rfl, rfl, h, hi, q⟩)
theorem q_ixK {a : Addr} {kvs : List (Key × V)} (k : Key) (e : Rd H a (.dK kvs)) (hv : valV kvs k = some v) (q : Q v H) : rIxU K (.ref a) (kV k) H Q := .inr (.inr (.inr ⟨a, v, rfl, by
  have g := dget_rd (k := k) e
  rw [hv] at g
  exact g, q⟩))
theorem q_setL {p : Addr} {xs : List V} {i : Int} {j : Nat} {R : Hp → Prop} (h : H p = some (.lst xs)) (hi : ixN xs.length i = some j) (q : R (upd H p (.lst (xs.set j v)))) : rSetU (.ref p) (.int i) v H R := .inl ⟨p, xs, i, j, rfl, rfl, h, hi, q⟩
theorem q_setD {a : Addr} {kvs : List (Key × V)} {R : Hp → Prop} (k : Key) (e : H a = some (.dK kvs)) (hl : kvs.length < sizeLine) (q : R (upd H a (.dK (putK kvs k v)))) : rSetU (.ref a) (kV k) v H R := .inr ⟨a, _, rfl, DPut.k e hl, q⟩
theorem q_lenL {p : Addr} {ys : List V} (h : SqL K H p ys) (q : Q (.int ys.length) H) : rLenU K [.ref p] H Q := .inl ⟨p, ys, rfl, .inl h, q⟩
theorem q_lenT {p : Addr} {ys : List V} (h : SqT K H p ys) (q : Q (.int ys.length) H) : rLenU K [.ref p] H Q := .inl ⟨p, ys, rfl, .inr h, q⟩
theorem q_lenK {p : Addr} {kvs : List (Key × V)} (h : Rd H p (.dK kvs)) (q : Q (.int kvs.length) H) : rLenU K [.ref p] H Q := .inr (.inr ⟨p, kvs, rfl, h, q⟩)
theorem q_listL {p : Addr} {ys : List V} (h : SqL K H p ys) (q : ∀ l, H l = none → Q (.ref l) (upd H l (.lst ys))) : rListU K [.ref p] H Q := .inl ⟨p, ys, rfl, .inl h, q⟩
theorem q_listT {p : Addr} {ys : List V} (h : SqT K H p ys) (q : ∀ l, H l = none → Q (.ref l) (upd H l (.lst ys))) : rListU K [.ref p] H Q := .inl ⟨p, ys, rfl, .inr h, q⟩
theorem q_listK {p : Addr} {kvs : List (Key × V)} (h : Rd H p (.dK kvs)) (q : ∀ l, H l = none → Q (.ref l) (upd H l (.lst (kvs.map fun kv => kV kv.1)))) : rListU K [.ref p] H Q := .inr ⟨p, kvs, rfl, h, q⟩
theorem q_append {l : Addr} {xs : List V} {y : V} (h : H l = some (.lst xs)) (hl : xs.length < sizeLine) (q : Q .non (upd H l (.lst (xs ++ [y])))) : rAppend (.ref l) [y] H Q := ⟨l, xs, y, rfl, rfl, h, hl, q⟩
theorem tyL {p : Addr} {xs : List V} {R : Prop} (h : H p = some (.lst xs)) (r : R) : tyV K "list" (.ref p) H ∧ R := ⟨.inl ⟨rfl, xs, .inl (.inl h)⟩, r⟩
theorem q_sl {r : V → Option Int → Option Int → Hp → VK → Prop} {tl th : TO} (h : te σ H fun x H1 => tl σ H1 fun l H2 => th σ H2 fun u H3 => r x l u H3 Q) : tSl r te tl th σ H Q := h
theorem q_part {R : Option Int → Hp → Prop} (h : te σ H fun x H1 => ∃ i, x = .int i ∧ R (some i) H1) : tPart te σ H R := h
theorem q_nopart {R : Option Int → Hp → Prop} (h : R none H) : tNoPart σ H R := h
theorem q_int {a : Int} {R : Int → Prop} (h : R a) : ∃ i, V.int a = V.int i ∧ R i := ⟨a, rfl, h⟩
theorem q_slL {p : Addr} {xs : List V} {lo hi : Option Int} (h : SqL K H p xs) (q : ∀ l, H l = none → Q (.ref l) (upd H l (.lst (cutV xs lo hi)))) : rSlU K (.ref p) lo hi H Q := .inl ⟨p, xs, rfl, h, q⟩
/-! loops -/
def forB (J : It) (g : TG) (tb : TS) (D : Ends) (σ : L2.St) (H : Hp) : Prop := ∃ W : Nat → Nat → L2.St → Hp → Prop, (∃ m, W 0 m σ H) ∧ ∀ i m σ H, W i m σ H →
      (J.stop i H ∧ D.nx σ H) ∨ (J.go i H ∧ ∃ N : L2.St → Hp → Prop, (∀ σ' H', N σ' H' → ∃ m', m' < m ∧ W (i + 1) m' σ' H') ∧ ∀ x H', J.yld i H x H' → g x σ H' fun σ2 H2 => tb { D with nx := N, ct := N, bk := D.nx } σ2 H2)
theorem q_for {wi : TI} {tb : TS} (h : wi σ H fun J H1 => forB J g tb D σ H1) : tFor wi g tb D σ H := h
theorem q_anyL {R : It → Hp → Prop} {a : Addr} {xs : List V} (h : te σ H fun x H1 => x = .ref a ∧ SqL K H1 a xs ∧ R (Itl K a) H1) (hm : ∀ Q Q' : VK, (∀ x H1, Q x H1 → Q' x H1) → te σ H Q → te σ H Q') : iAny K te σ H R :=
  .inl (hm _ _ (fun x H1 ⟨e, s, r⟩ => ⟨a, e, ⟨xs, s⟩, r⟩) h)
theorem q_iL {R : It → Hp → Prop} (h : te σ H fun x H1 => ∃ a, x = .ref a ∧ (∃ xs, SqL K H1 a xs) ∧ R (Itl K a) H1) : iAny K te σ H R := .inl h
theorem q_iT {R : It → Hp → Prop} (h : te σ H fun x H1 => ∃ a, x = .ref a ∧ (∃ xs, SqT K H1 a xs) ∧ R (Itt K a) H1) : iAny K te σ H R := .inr (.inl h)
theorem q_iK {R : It → Hp → Prop} (h : te σ H fun x H1 => ∃ d o kvs, x = .ref d ∧ H1 d = some (.frz o (.dK kvs)) ∧ R (Itk d o kvs) H1) (hm : ∀ Q Q' : VK, (∀ x H1, Q x H1 → Q' x H1) → te σ H Q → te σ H Q') : iAny K te σ H R :=
  .inr (.inr (hm _ _ (fun x H1 ⟨d, o, kvs, e, s, r⟩ => ⟨d, o, e, .inl ⟨kvs, s, r⟩⟩) h))
theorem for_any {J : It} {n : Nat} {G : Hp → Prop} {Y : Nat → Hp → V → Hp → Prop} {tb : TS} (w : Walk J n G Y) (Pv : Nat → L2.St → Hp → Prop) (h0 : Pv 0 σ H) (hG : ∀ i σ H, i ≤ n → Pv i σ H → G H)
    (hs : ∀ i x σ H H', i < n → Pv i σ H → Y i H x H' → g x σ H' fun σ2 H2 => tb { D with nx := Pv (i + 1), ct := Pv (i + 1), bk := D.nx } σ2 H2) (hd : ∀ σ H, Pv n σ H → D.nx σ H) : forB J g tb D σ H := for_it w Pv h0 hG hs hd
/-- over a list's items, the target in slot j -/
theorem for_lst {a : Addr} {xs : List V} {tb : TS} {j : Nat} (Pv : Nat → L2.St → Hp → Prop) (hx : ∀ i σ H, i ≤ xs.length → Pv i σ H → SqL K H a xs) (h0 : Pv 0 σ H)
    (hs : ∀ i x σ H, xs[i]? = some x → Pv i σ H → tb { D with nx := Pv (i + 1), ct := Pv (i + 1), bk := D.nx } (σ.set j (some x)) H) (hd : ∀ σ H, Pv xs.length σ H → D.nx σ H) (hs0 : SqL K H a xs) :
    ∃ b, V.ref a = V.ref b ∧ (∃ xs, SqL K H b xs) ∧ forB (Itl K b) (gName j) tb D σ H :=
  ⟨a, rfl, ⟨xs, hs0⟩, for_any walk_list Pv h0 hx (fun i x σ H H' _ p y => by
    obtain ⟨e, y⟩ := y
    subst e
    exact hs i x σ _ y p) hd⟩
/-- over a range's ints -/
theorem for_rng {lo : Int} {n : Nat} {tb : TS} {j : Nat} (Pv : Nat → L2.St → Hp → Prop) (h0 : Pv 0 σ H)
    (hs : ∀ (i : Nat) σ H, i < n → Pv i σ H → tb { D with nx := Pv (i + 1), ct := Pv (i + 1), bk := D.nx } (σ.set j (some (.int (lo + i)))) H) (hd : ∀ σ H, Pv n σ H → D.nx σ H) : forB (Itr lo n) (gName j) tb D σ H :=
  for_any walk_range Pv h0 (fun _ _ _ _ _ => trivial) (fun i x σ H H' hi p y => by
    obtain ⟨e, y⟩ := y
    subst e
    rw [y]
    exact hs i σ _ hi p) hd
/-- over a locked dict's keys -/
theorem for_keys {d : Addr} {o : Obj} {kvs : List (Key × V)} {tb : TS} {j : Nat} (Pv : Nat → L2.St → Hp → Prop) (hx : ∀ i σ H, i ≤ kvs.length → Pv i σ H → H d = some (.frz o (.dK kvs))) (h0 : Pv 0 σ H)
    (hs : ∀ i k v σ H, kvs[i]? = some (k, v) → Pv i σ H → tb { D with nx := Pv (i + 1), ct := Pv (i + 1), bk := D.nx } (σ.set j (some (kV k))) H) (hd : ∀ σ H, Pv kvs.length σ H → D.nx σ H) : forB (Itk d o kvs) (gName j) tb D σ H :=
  for_any walk_keys Pv h0 hx (fun i x σ H H' _ p y => by
    obtain ⟨e, k, v, y, z⟩ := y
    subst e
    rw [z]
    exact hs i k v σ _ y p) hd
end
end TU

set_option Elab.async false
set_option linter.all false
set_option maxRecDepth 100000
namespace TU
open PySem PySem.Spec PyProof.Rows L2

/-! ### own errors with fields -/
/-- __init__ of an error's class: the fields are the arguments -/
def spXI (C : Addr) (fs : List Str) : Sp := fun vs H Q _ => ∃ (a : Addr) (us : List V), vs = .ref a :: us ∧ us.length = fs.length ∧ H a = some (exo a C none) ∧
  ∀ (dx : Addr) (H' : Hp), H dx = none → dx ≠ a → (∀ b o, b ≠ a → H b = some o → H' b = some o) → H' a = some (exo a C (some dx)) → H' dx = some (exd dx (fs.zip us).reverse) → Q .non H'
/-- what is known of an error's class -/
structure Xc (P : Program) (w : World) (K : PySem.W.Frag) (mg : Str → Option Value) (base : Heap) (x : Str) (fs : List Str) (C : Addr) : Prop where
  T : OexC K C
  xf : XfC K C
  g : mg x = some (.ref C)
  no : ∀ f ∈ fs, PySem.W.findIn K (.ref C) f = some none
  te : PySem.W.exmOne K (.ref C) (.ref C) = some true
  ini : ∃ fI fd, PySem.W.findIn K (.ref C) "__init__" = some (some (.ref fI)) ∧ PySem.W.typeIn K (.ref fI) = some (.type "function") ∧ FnOk P w K mg base (L2.CX P w) 1 fI fd ("self" :: fs) (spXI C fs) ∧ Binds K fd ("self" :: fs) []
section
variable {P : Program} {w : World} {K : PySem.W.Frag} {mg : Str → Option Value} {base : Heap}
theorem ok_init1 {qual f1 : Str} {st : Stmt} {f C : Addr} {fd : FuncData} {p1 p2 p3 p4 : Pos} (F : Fun K "__init__" qual st f fd) (S : FnScope ["self", f1] ["self", f1] (defScope st)) (hb : defBody st = [.Assign [.Attribute (.Name "self" p1) f1 p2] (.Name f1 p3) p4])
    (T : OexC K C) (n1 : PySem.W.findIn K (.ref C) f1 = some none) (d1 : (f1 == ("__debug__" : Str)) = false) (d2 : (f1 == ("__classdict__" : Str)) = false) (v0 : Vis (defScope st) "self") (v1 : Vis (defScope st) f1) : FnOk P w K mg base (L2.CX P w) 1 f fd ["self", f1] (spXI C [f1]) := by
  refine F.okX S (fun vs H Q E h => ?_) (fun cdv A outer s H vs Q E hr h => ?_)
  · obtain ⟨a, us, rfl, hl, _⟩ := h
    simpa using hl
  · obtain ⟨a, us, rfl, hl, ha, k⟩ := h
    obtain ⟨y, rfl⟩ : ∃ y, us = [y] := List.length_eq_one_iff.mp hl
    rw [hb]
    refine ⟨_, pss_one (ps_ost (pv 0 (hv := v0)) (pv 1 (hv := v1) (hd := d1) (hcd := d2))), ?_⟩
    refine ⟨y, rfl, .ref a, rfl, a, C, rfl, T, n1, .inl ⟨ha, fun dx hn hne => ?_⟩⟩
    exact k dx _ hn hne (fun b o hb e => by rw [upd_ne hb, upd_ne (ne_of_none e hn)]; exact e) upd_same (by rw [upd_ne hne, upd_same]; rfl)
theorem ok_init2 {qual f1 f2 : Str} {st : Stmt} {f C : Addr} {fd : FuncData} {p1 p2 p3 p4 q1 q2 q3 q4 : Pos} (F : Fun K "__init__" qual st f fd) (S : FnScope ["self", f1, f2] ["self", f1, f2] (defScope st))
    (hb : defBody st = [.Assign [.Attribute (.Name "self" p1) f1 p2] (.Name f1 p3) p4, .Assign [.Attribute (.Name "self" q1) f2 q2] (.Name f2 q3) q4])
    (T : OexC K C) (n1 : PySem.W.findIn K (.ref C) f1 = some none) (n2 : PySem.W.findIn K (.ref C) f2 = some none) (d1 : (f1 == ("__debug__" : Str)) = false) (d2 : (f1 == ("__classdict__" : Str)) = false) (e1 : (f2 == ("__debug__" : Str)) = false) (e2 : (f2 == ("__classdict__" : Str)) = false)
    (v0 : Vis (defScope st) "self") (v1 : Vis (defScope st) f1) (v2 : Vis (defScope st) f2) : FnOk P w K mg base (L2.CX P w) 1 f fd ["self", f1, f2] (spXI C [f1, f2]) := by
  refine F.okX S (fun vs H Q E h => ?_) (fun cdv A outer s H vs Q E hr h => ?_)
  · obtain ⟨a, us, rfl, hl, _⟩ := h
    simpa using hl
  · obtain ⟨a, us, rfl, hl, ha, k⟩ := h
    obtain ⟨y, z, rfl⟩ : ∃ y z, us = [y, z] := by
      match us, hl with
      | [y, z], _ => exact ⟨y, z, rfl⟩
    rw [hb]
    refine ⟨_, pss_cons (ps_ost (pv 0 (hv := v0)) (pv 1 (hv := v1) (hd := d1) (hcd := d2))) (pss_one (ps_ost (pv 0 (hv := v0)) (pv 2 (hv := v2) (hd := e1) (hcd := e2)))), ?_⟩
    refine ⟨y, rfl, .ref a, rfl, a, C, rfl, T, n1, .inl ⟨ha, fun dx hn hne => ?_⟩⟩
    refine ⟨z, rfl, .ref a, rfl, a, C, rfl, T, n2, .inr ⟨dx, [(f1, y)], upd_same, by rw [upd_ne hne, upd_same], (by show 1 ≤ 900; decide), ?_⟩⟩
    exact k dx _ hn hne (fun b o hb e => by rw [upd_ne (ne_of_none e hn), upd_ne hb, upd_ne (ne_of_none e hn)]; exact e) (by rw [upd_ne (Ne.symm hne), upd_same]) (by rw [upd_same]; rfl)
end
section
variable {X : Cx} {C : Addr} {x : Str} {fs : List Str} {p pos : Pos} {e : Expr} {es : List Expr} {ta : TA}
/-- x(e, ..) is made, to be raised -/
theorem pmk_xc (T : Xc X.prog X.w X.K X.mg X.base x fs C) (hr : Room 2 X.A) (ha : PA X (e :: es) ta) (hg : Gl X x := by rfl)
    (hdb : (x == ("__debug__" : Str)) = false := by decide) (he : starEach (e :: es) X.env = (false, eval e X.env) :: starEach es X.env := by rfl) (hpl : (backTo pos (starEach es X.env)).any (·.1) = false := by rfl) :
    PMk X (.Call (.Name x p) (e :: es) [] pos) (tMkO C (spXI C fs) [] ta) := by
  obtain ⟨fI, fd, iC, tI, F1, hb⟩ := T.ini
  exact pmk_oex T.T iC tI F1 hr hb .nil (fun _ _ _ _ _ _ I h => passL _ _ _ _ _ _ I h) hg T.g ha hdb he hpl
/-- raise x(e, ..) -/
def tRz (C : Addr) (fs : List Str) (W : WX) (ta : TA) : TS := fun _ σ H => tMkO C (spXI C fs) [] ta σ H fun cls d H' => W cls d σ H'
theorem ps_rz {W : WX} {pos2 : Pos} (hc : X.calm = true) (T : Xc X.prog X.w X.K X.mg X.base x fs C) (hr : Room 2 X.A) (tk : Takes X W) (ha : PA X (e :: es) ta) (hg : Gl X x := by rfl)
    (hdb : (x == ("__debug__" : Str)) = false := by decide) (he : starEach (e :: es) X.env = (false, eval e X.env) :: starEach es X.env := by rfl) (hpl : (backTo pos (starEach es X.env)).any (·.1) = false := by rfl) :
    PS X (.Raise (some (.Call (.Name x p) (e :: es) [] pos)) none pos2) (tRz C fs W ta) := ps_raise hc tk (pmk_xc T hr ha hg hdb he hpl)
def mkB (C : Addr) (fs : List Str) (us : List V) (H1 : Hp) (Q : XK) : Prop := us.length ≤ 1000 ∧ ∀ a, H1 a = none → spXI C fs (.ref a :: (us ++ [])) (upd H1 a (exo a C none)) (fun v H2 => v = .non ∧ ∃ (d : Addr) (fs : List (Str × V)), H2 a = some (exo a C (some d)) ∧ H2 d = some (exd d fs) ∧ H1 d = none ∧ Q (.ref C) (some d) (upd (del H2 a) d (.xd fs))) (fun _ _ _ => False)
theorem q_rz {W : WX} {D : Ends} {σ : L2.St} {H : Hp} (h : ta σ H fun us H1 => mkB C fs us H1 fun cls d H' => W cls d σ H') : tRz C fs W ta D σ H := h
theorem q_mk {us : List V} {H1 : Hp} {Q : XK} (h1 : us.length = fs.length) (k : ∀ d H', Same H1 H' → H1 d = none → H' d = some (.xd (fs.zip us).reverse) → Q (.ref C) (some d) H') (h2 : fs.length ≤ 1000 := by decide) : mkB C fs us H1 Q := by
  refine ⟨by rw [h1]; exact h2, fun a na => ?_⟩
  refine ⟨a, us, by rw [List.append_nil], h1, upd_same, fun dx H' hn hne hk ha hd => ?_⟩
  rw [upd_ne hne] at hn
  refine ⟨rfl, dx, _, ha, hd, hn, ?_⟩
  refine k dx _ (fun b o e => ?_) hn upd_same
  have hba : b ≠ a := ne_of_none e na
  rw [upd_ne (ne_of_none e hn), del_ne hba]
  exact hk b o hba (by rw [upd_ne hba]; exact e)
end
end TU

set_option Elab.async false
set_option linter.all false
set_option maxRecDepth 100000
namespace TU
open PySem PySem.Spec PyProof.Rows L2

section
variable {K : PySem.W.Frag} {σ : L2.St} {H H1 : Hp} {Q : VK} {te tk tv : TE} {g : TG} {tt : TT} {sl : List Nat} {wi : TI} {J : It} {n : Nat} {G : Hp → Prop} {Y : Nat → Hp → V → Hp → Prop} {d : Addr}
/-- the turns of a dict comprehension -/
def dcB (J : It) (g : TG) (tt : TT) (tk tv : TE) (sl : List Nat) (σ : L2.St) (H1 : Hp) (d : Addr) (Q : VK) : Prop := ∃ W : Nat → Nat → Hp → Prop, (∃ m, W 0 m (upd H1 d (.dK []))) ∧ ∀ i m H, W i m H →
  (J.stop i H ∧ Q (.ref d) H) ∨ (J.go i H ∧ ∃ Nx : Hp → Prop, (∀ H', Nx H' → ∃ m', m' < m ∧ W (i + 1) m' H') ∧ ∀ x H', J.yld i H x H' → g x (wipe σ sl) H' fun σ2 H2 => wipe σ2 sl = wipe σ sl ∧ tt σ2 H2 fun b H3 =>
    if b = true then tk σ2 H3 fun y H4 => tv σ2 H4 fun z H5 => ∃ kvs k, y = kV k ∧ H5 d = some (.dK kvs) ∧ kvs.length < sizeLine ∧ Nx (upd H5 d (.dK (putK kvs k z))) else Nx H3)
theorem q_dc (h : wi σ H fun J H1 => ∀ d, H1 d = none → dcB J g tt tk tv sl σ H1 d Q) : tDc wi g tt tk tv sl σ H Q := h
theorem dc_any (w : Walk J n G Y) (Pv : Nat → Hp → Prop) (h0 : Pv 0 (upd H1 d (.dK []))) (hG : ∀ i H, i ≤ n → Pv i H → G H)
    (hs : ∀ i x H H', i < n → Pv i H → Y i H x H' → g x (wipe σ sl) H' fun σ2 H2 => wipe σ2 sl = wipe σ sl ∧ tt σ2 H2 fun b H3 =>
      if b = true then tk σ2 H3 fun y H4 => tv σ2 H4 fun z H5 => ∃ kvs k, y = kV k ∧ H5 d = some (.dK kvs) ∧ kvs.length < sizeLine ∧ Pv (i + 1) (upd H5 d (.dK (putK kvs k z))) else Pv (i + 1) H3) (hd : ∀ H, Pv n H → Q (.ref d) H) : dcB J g tt tk tv sl σ H1 d Q := by
  refine ⟨fun i m H => m + i = n ∧ Pv i H, ⟨n, Nat.add_zero n, h0⟩, fun i m H p => ?_⟩
  obtain ⟨e, p⟩ := p
  have hi : i ≤ n := by omega
  have q := hG i H hi p
  rcases Nat.lt_or_ge i n with lt | ge
  · exact .inr ⟨w.goes i H lt q, Pv (i + 1), fun H' p' => ⟨m - 1, by omega, by omega, p'⟩, fun x H' y => hs i x H H' lt p (w.yields i H x H' lt q y)⟩
  · obtain rfl : i = n := Nat.le_antisymm hi ge
    exact .inl ⟨w.stops H q, hd H p⟩
/-- the turns of a list comprehension -/
def lcB (J : It) (g : TG) (tt : TT) (te : TE) (sl : List Nat) (σ : L2.St) (H1 : Hp) (d : Addr) (Q : VK) : Prop := ∃ W : Nat → Nat → Hp → Prop, (∃ m, W 0 m (upd H1 d (.lst []))) ∧ ∀ i m H, W i m H →
  (J.stop i H ∧ Q (.ref d) H) ∨ (J.go i H ∧ ∃ Nx : Hp → Prop, (∀ H', Nx H' → ∃ m', m' < m ∧ W (i + 1) m' H') ∧ ∀ x H', J.yld i H x H' → g x (wipe σ sl) H' fun σ2 H2 => wipe σ2 sl = wipe σ sl ∧ tt σ2 H2 fun b H3 =>
    if b = true then te σ2 H3 fun y H4 => ∃ acc, H4 d = some (.lst acc) ∧ acc.length < sizeLine ∧ Nx (upd H4 d (.lst (acc ++ [y]))) else Nx H3)
theorem q_lc (h : wi σ H fun J H1 => ∀ d, H1 d = none → lcB J g tt te sl σ H1 d Q) : tLc wi g tt te sl σ H Q := h
theorem lc_any (w : Walk J n G Y) (Pv : Nat → Hp → Prop) (h0 : Pv 0 (upd H1 d (.lst []))) (hG : ∀ i H, i ≤ n → Pv i H → G H)
    (hs : ∀ i x H H', i < n → Pv i H → Y i H x H' → g x (wipe σ sl) H' fun σ2 H2 => wipe σ2 sl = wipe σ sl ∧ tt σ2 H2 fun b H3 =>
      if b = true then te σ2 H3 fun y H4 => ∃ acc, H4 d = some (.lst acc) ∧ acc.length < sizeLine ∧ Pv (i + 1) (upd H4 d (.lst (acc ++ [y]))) else Pv (i + 1) H3) (hd : ∀ H, Pv n H → Q (.ref d) H) : lcB J g tt te sl σ H1 d Q := by
  refine ⟨fun i m H => m + i = n ∧ Pv i H, ⟨n, Nat.add_zero n, h0⟩, fun i m H p => ?_⟩
  obtain ⟨e, p⟩ := p
  have hi : i ≤ n := by omega
  have q := hG i H hi p
  rcases Nat.lt_or_ge i n with lt | ge
  · exact .inr ⟨w.goes i H lt q, Pv (i + 1), fun H' p' => ⟨m - 1, by omega, by omega, p'⟩, fun x H' y => hs i x H H' lt p (w.yields i H x H' lt q y)⟩
  · obtain rfl : i = n := Nat.le_antisymm hi ge
    exact .inl ⟨w.stops H q, hd H p⟩
theorem q_yes {R : Bool → Hp → Prop} (h : R true H) : tYes σ H R := h
end
end TU

set_option Elab.async false
set_option linter.all false
set_option maxRecDepth 100000
namespace TU
open PySem PySem.Spec PyProof.Rows L2

/-- no global hides a built-in -/
structure Bt (mg : Str → Option Value) : Prop where
  b_len : mg "len" = none
  b_abs : mg "abs" = none
  b_repr : mg "repr" = none
  b_isinstance : mg "isinstance" = none
  b_sorted : mg "sorted" = none
  b_all : mg "all" = none
  b_any : mg "any" = none
  b_sum : mg "sum" = none
  b_max : mg "max" = none
  b_min : mg "min" = none
  b_range : mg "range" = none
  b_enumerate : mg "enumerate" = none
  b_zip : mg "zip" = none
  b_reversed : mg "reversed" = none
  b_int : mg "int" = none
  b_bool : mg "bool" = none
  b_str : mg "str" = none
  b_list : mg "list" = none
  b_dict : mg "dict" = none
  b_tuple : mg "tuple" = none
  b_set : mg "set" = none

section
variable {X : Cx} {e : Expr} {te : TE}
/-- a value as a test -/
def tTr (K : PySem.W.Frag) (te : TE) : TT := fun σ H Q => te σ H fun x H' => ∃ k, TruV K x H' k ∧ Q k H'
theorem pt_tr (h : PE X e te) (he : ∀ whole, isTrue e X.env whole = (do let v ← whole; standAt e.pos; holding [v] (truthy v)) := by intro _; rfl) : PT X e (tTr X.K te) := pt_truth h he
theorem q_tr {K : PySem.W.Frag} {σ : L2.St} {H : Hp} {R : Bool → Hp → Prop} (h : te σ H fun x H' => ∃ k, TruV K x H' k ∧ R k H') : tTr K te σ H R := h
theorem q_trB {K : PySem.W.Frag} {H : Hp} {b : Bool} {R : Bool → Prop} (h : R b) : ∃ k, TruV K (.bl b) H k ∧ R k := ⟨b, rfl, h⟩
theorem q_trI {K : PySem.W.Frag} {H : Hp} {i : Int} {R : Bool → Prop} (h : R (i != 0)) : ∃ k, TruV K (.int i) H k ∧ R k := ⟨_, rfl, h⟩
theorem q_trL {K : PySem.W.Frag} {H : Hp} {a : Addr} {xs : List V} {R : Bool → Prop} (hs : SqL K H a xs) (h : R (!xs.isEmpty)) : ∃ k, TruV K (.ref a) H k ∧ R k := ⟨_, .inl ⟨xs, hs, rfl⟩, h⟩
theorem q_trT {K : PySem.W.Frag} {H : Hp} {a : Addr} {xs : List V} {R : Bool → Prop} (hs : SqT K H a xs) (h : R (!xs.isEmpty)) : ∃ k, TruV K (.ref a) H k ∧ R k := ⟨_, .inr (.inl ⟨xs, hs, rfl⟩), h⟩
end

/-! ### texts in order -/
def ltS (a b : Str) : Bool := ltCps a.cps.toList b.cps.toList
theorem ltS_iff {a b : Str} : ltS a b = true ↔ a.cps.toList < b.cps.toList := by
  unfold ltS
  rw [ltCps_eq]
  simp
theorem ltS_tri {a b : Str} (h1 : ltS a b = false) (h2 : ltS b a = false) : a = b := by
  have g1 : ¬ a.cps.toList < b.cps.toList := fun h => by
    rw [← ltS_iff, h1] at h
    cases h
  have g2 : ¬ b.cps.toList < a.cps.toList := fun h => by
    rw [← ltS_iff, h2] at h
    cases h
  have e : a.cps.toList = b.cps.toList := List.le_antisymm (List.not_lt.mp g2) (List.not_lt.mp g1)
  obtain ⟨⟨l⟩⟩ := a
  obtain ⟨⟨m⟩⟩ := b
  simp at e
  rw [e]
theorem ltS_irr (a : Str) : ltS a a = false := by
  cases h : ltS a a with
  | false => rfl
  | true => exact absurd (ltS_iff.mp h) (List.lt_irrefl _)
theorem ltS_trans {a b c : Str} (h1 : ltS a b = true) (h2 : ltS b c = true) : ltS a c = true := ltS_iff.mpr (List.lt_trans (ltS_iff.mp h1) (ltS_iff.mp h2))
theorem ltS_asymm {a b : Str} (h : ltS a b = true) : ltS b a = false := by
  cases q : ltS b a with
  | false => rfl
  | true =>
    have := ltS_trans h q
    rw [ltS_irr] at this
    cases this
def insS (x : Str) : List Str → List Str
  | [] => [x]
  | y :: r => if ltS y x = true then y :: insS x r else x :: y :: r
def srt : List Str → List Str
  | [] => []
  | x :: r => insS x (srt r)
abbrev Asc (l : List Str) : Prop := l.Pairwise (fun a b => ltS b a = false)
theorem insS_perm (x : Str) : ∀ l, (insS x l).Perm (x :: l)
  | [] => .refl _
  | y :: r => by
    unfold insS
    by_cases h : ltS y x = true
    · rw [if_pos h]
      exact ((insS_perm x r).cons y).trans (.swap ..)
    · rw [if_neg h]
theorem srt_perm : ∀ l, (srt l).Perm l
  | [] => .refl _
  | x :: r => (insS_perm x _).trans ((srt_perm r).cons x)
theorem le_trans' {a b c : Str} (h1 : ltS b a = false) (h2 : ltS c b = false) : ltS c a = false := by
  cases q : ltS c a with
  | false => rfl
  | true =>
    cases q1 : ltS a b with
    | true =>
      have := ltS_trans q q1
      rw [h2] at this
      cases this
    | false =>
      have e := ltS_tri h1 q1
      rw [← e, h2] at q
      cases q
theorem insS_asc (x : Str) : ∀ l, Asc l → Asc (insS x l)
  | [], _ => List.pairwise_singleton _ _
  | y :: r, h => by
    unfold insS
    have h1 := List.pairwise_cons.mp h
    by_cases hl : ltS y x = true
    · rw [if_pos hl]
      refine List.pairwise_cons.mpr ⟨fun z hz => ?_, insS_asc x r h1.2⟩
      rcases List.mem_cons.mp ((insS_perm x r).mem_iff.mp hz) with e | hz
      · rw [e]
        exact ltS_asymm hl
      · exact h1.1 z hz
    · rw [if_neg hl]
      have hl' : ltS y x = false := by simpa using hl
      refine List.pairwise_cons.mpr ⟨fun z hz => ?_, h⟩
      rcases List.mem_cons.mp hz with e | hz
      · rw [e]
        exact hl'
      · exact le_trans' hl' (h1.1 z hz)
theorem srt_asc : ∀ l, Asc (srt l)
  | [] => .nil
  | x :: r => insS_asc x _ (srt_asc r)
theorem asc_unique : ∀ {l m : List Str}, l.Perm m → Asc l → Asc m → l = m
  | [], m, p, _, _ => (List.nil_perm.mp p).symm
  | x :: l, [], p, _, _ => absurd p.symm.nil_eq (by simp)
  | x :: l, y :: m, p, h1, h2 => by
    have a1 := List.pairwise_cons.mp h1
    have a2 := List.pairwise_cons.mp h2
    have e : x = y := by
      have m1 : x ∈ y :: m := p.mem_iff.mp List.mem_cons_self
      have m2 : y ∈ x :: l := p.mem_iff.mpr List.mem_cons_self
      rcases List.mem_cons.mp m1 with e | m1
      · exact e
      · rcases List.mem_cons.mp m2 with e | m2
        · exact e.symm
        · exact ltS_tri (a2.1 x m1) (a1.1 y m2)
    subst e
    rw [asc_unique ((List.perm_cons x).mp p) a1.2 a2.2]
theorem rising_asc : ∀ (l : List Str) (p : Str), risingS p l = true → Asc (p :: l)
  | [], p, _ => List.pairwise_singleton _ _
  | x :: r, p, h => by
    have h' : (!ltCps x.cps.toList p.cps.toList && risingS x r) = true := h
    rw [Bool.and_eq_true] at h'
    have ih := rising_asc r x h'.2
    have hx : ltS x p = false := by
      have := h'.1
      unfold ltS
      simpa using this
    refine List.pairwise_cons.mpr ⟨fun z hz => ?_, ih⟩
    rcases List.mem_cons.mp hz with e | hz
    · rw [e]
      exact hx
    · exact le_trans' hx ((List.pairwise_cons.mp ih).1 z hz)
theorem sorted_asc {l : List Str} (h : sortedS l = true) : Asc l := by
  cases l with
  | nil => exact .nil
  | cons x r => exact rising_asc r x h
theorem sorted_is {l m : List Str} (p : l.Perm m) (h : sortedS l = true) : l = srt m := asc_unique (p.trans (srt_perm m).symm) (sorted_asc h) (srt_asc m)
theorem srt_of_asc {l : List Str} (h : Asc l) : srt l = l := asc_unique (srt_perm l) (srt_asc l) h
theorem srt_congr {l m : List Str} (p : l.Perm m) : srt l = srt m := asc_unique ((srt_perm l).trans (p.trans (srt_perm m).symm)) (srt_asc l) (srt_asc m)
theorem srt_srt (l : List Str) : srt (srt l) = srt l := srt_of_asc (srt_asc l)

/-- sorted(c): a dict with text keys, a list of texts, a list of ints -/
def rSortU (K : PySem.W.Frag) : List V → Hp → VK → Prop := fun xs H Q =>
  (∃ (a : Addr) (kvs : List (Key × V)) (ks : List Str), xs = [.ref a] ∧ Rd H a (.dK kvs) ∧ kvs.map (·.1) = ks.map Sum.inr ∧ ks.length < 64 ∧ ∀ ys p, ys.Perm ks → sortedS ys = true → H p = none → Q (.ref p) (upd H p (.lst (ys.map V.str)))) ∨
  rSortedS K xs H Q ∨ rSortedI K xs H Q
theorem call_sortU {X : Cx} (hc : X.calm = true) : CallR X (.builtin "sorted") (rSortU X.K) := (call_sortedD hc).or (cr_sortedS.or cr_sortedI)
theorem q_sortD {K : PySem.W.Frag} {H : Hp} {Q : VK} {a : Addr} {kvs : List (Key × V)} {ks : List Str} (h : Rd H a (.dK kvs)) (e : kvs.map (·.1) = ks.map Sum.inr) (hl : ks.length < 64) (q : ∀ p, H p = none → Q (.ref p) (upd H p (.lst ((srt ks).map V.str)))) :
    rSortU K [.ref a] H Q := .inl ⟨a, kvs, ks, rfl, h, e, hl, fun ys p pm so hp => by
  rw [sorted_is pm so]
  exact q p hp⟩
theorem q_sortS {K : PySem.W.Frag} {H : Hp} {Q : VK} {a : Addr} {ks : List Str} (h : SqL K H a (ks.map V.str)) (hl : ks.length < 64) (q : ∀ p, H p = none → Q (.ref p) (upd H p (.lst ((srt ks).map V.str)))) :
    rSortU K [.ref a] H Q := .inr (.inl ⟨a, ks, rfl, h, hl, fun ys p pm so hp => by
  rw [sorted_is pm so]
  exact q p hp⟩)
end TU

set_option Elab.async false
set_option linter.all false
set_option maxRecDepth 100000
namespace TU
open PySem PySem.Spec PyProof.Rows L2

/-! ### lists of pairs with text keys -/
section
variable {β γ : Type}
def lk : List (Str × β) → Str → Option β
  | [], _ => none
  | p :: r, k => if p.1 = k then some p.2 else lk r k
def put : List (Str × β) → Str → β → List (Str × β)
  | [], k, v => [(k, v)]
  | p :: r, k, v => if p.1 = k then (p.1, v) :: r else p :: put r k v
def del : List (Str × β) → Str → List (Str × β)
  | [], _ => []
  | p :: r, k => if p.1 = k then r else p :: del r k
def nms (l : List (Str × β)) : List Str := l.map (·.1)
theorem nms_nil : nms ([] : List (Str × β)) = [] := rfl
theorem nms_cons (p : Str × β) (r : List (Str × β)) : nms (p :: r) = p.1 :: nms r := rfl
theorem nms_len (l : List (Str × β)) : (nms l).length = l.length := List.length_map _
theorem nd_cons {p : Str × β} {r : List (Str × β)} (h : (nms (p :: r)).Nodup) : p.1 ∉ nms r ∧ (nms r).Nodup := List.nodup_cons.mp h
theorem mem_nms {p : Str × β} {l : List (Str × β)} (h : p ∈ l) : p.1 ∈ nms l := List.mem_map.mpr ⟨p, h, rfl⟩
theorem lk_cons (p : Str × β) (r : List (Str × β)) (k : Str) : lk (p :: r) k = if p.1 = k then some p.2 else lk r k := rfl
theorem lk_none {l : List (Str × β)} {k : Str} : lk l k = none ↔ k ∉ nms l := by
  induction l with
  | nil => simp [lk, nms_nil]
  | cons p r ih =>
    rw [lk_cons, nms_cons]
    by_cases e : p.1 = k
    · rw [if_pos e]
      simp [e]
    · rw [if_neg e, ih]
      have e' : ¬ k = p.1 := fun z => e z.symm
      simp [e']
theorem lk_mem {l : List (Str × β)} {k : Str} {v : β} (h : lk l k = some v) : (k, v) ∈ l := by
  induction l with
  | nil => cases h
  | cons p r ih =>
    unfold lk at h
    by_cases e : p.1 = k
    · rw [if_pos e] at h
      cases h
      subst e
      exact List.mem_cons_self
    · rw [if_neg e] at h
      exact List.mem_cons_of_mem _ (ih h)
theorem lk_of_mem {l : List (Str × β)} (nd : (nms l).Nodup) {k : Str} {v : β} (h : (k, v) ∈ l) : lk l k = some v := by
  induction l with
  | nil => cases h
  | cons p r ih =>
    have nd' := nd_cons nd
    unfold lk
    rcases List.mem_cons.mp h with e | h
    · rw [← e, if_pos rfl]
    · have hk : k ∈ nms r := mem_nms h
      have e : ¬ p.1 = k := fun z => nd'.1 (by rw [z]; exact hk)
      rw [if_neg e]
      exact ih nd'.2 h
theorem lk_put (l : List (Str × β)) (k : Str) (v : β) (x : Str) : lk (put l k v) x = if x = k then some v else lk l x := by
  induction l with
  | nil =>
    by_cases e : k = x
    · simp [put, lk, e]
    · have e' : ¬ x = k := fun z => e z.symm
      simp [put, lk, e, e']
  | cons p r ih =>
    unfold put
    by_cases e : p.1 = k
    · rw [if_pos e]
      by_cases ex : x = k
      · simp [lk, e, ex]
      · have e2 : ¬ p.1 = x := fun z => ex (by rw [← z, e])
        simp [lk, e2, ex]
    · rw [if_neg e]
      by_cases ex : p.1 = x
      · have e2 : ¬ x = k := fun z => e (by rw [ex, z])
        simp [lk, ex, e2]
      · simp only [lk, if_neg ex]
        exact ih
theorem lk_del {l : List (Str × β)} (nd : (nms l).Nodup) (k x : Str) : lk (del l k) x = if x = k then none else lk l x := by
  induction l with
  | nil => simp [del, lk]
  | cons p r ih =>
    have nd' := nd_cons nd
    unfold del
    by_cases e : p.1 = k
    · rw [if_pos e]
      by_cases ex : x = k
      · rw [if_pos ex, lk_none, ex, ← e]
        exact nd'.1
      · have e2 : ¬ p.1 = x := fun z => ex (by rw [← z, e])
        rw [if_neg ex]
        simp only [lk, if_neg e2]
    · rw [if_neg e]
      by_cases ex : p.1 = x
      · have e2 : ¬ x = k := fun z => e (by rw [ex, z])
        simp [lk, ex, e2]
      · simp only [lk, if_neg ex]
        exact ih nd'.2
theorem nms_put (l : List (Str × β)) (k : Str) (v : β) : nms (put l k v) = if k ∈ nms l then nms l else nms l ++ [k] := by
  induction l with
  | nil => simp [put, nms_nil, nms_cons]
  | cons p r ih =>
    unfold put
    by_cases e : p.1 = k
    · simp [e, nms_cons]
    · have e' : ¬ k = p.1 := fun z => e z.symm
      rw [if_neg e]
      simp only [nms_cons, List.mem_cons]
      rw [ih]
      by_cases m : k ∈ nms r
      · rw [if_pos m, if_pos (.inr m)]
      · rw [if_neg m, if_neg (by simp [e', m])]
        rfl
theorem nms_del (l : List (Str × β)) (k : Str) : nms (del l k) = (nms l).erase k := by
  induction l with
  | nil => rfl
  | cons p r ih =>
    unfold del
    by_cases e : p.1 = k
    · rw [if_pos e, nms_cons, e, List.erase_cons_head]
    · rw [if_neg e, nms_cons, nms_cons, List.erase_cons_tail (by simpa using e)]
      rw [ih]
theorem nd_put {l : List (Str × β)} (nd : (nms l).Nodup) (k : Str) (v : β) : (nms (put l k v)).Nodup := by
  rw [nms_put]
  by_cases m : k ∈ nms l
  · rw [if_pos m]
    exact nd
  · rw [if_neg m]
    exact List.nodup_append.mpr ⟨nd, by simp, fun a ha b hb e => m (by
      rw [List.mem_singleton] at hb
      rw [← hb, ← e]
      exact ha)⟩
theorem nd_del {l : List (Str × β)} (nd : (nms l).Nodup) (k : Str) : (nms (del l k)).Nodup := by
  rw [nms_del]
  exact nd.erase k
theorem len_put_le (l : List (Str × β)) (k : Str) (v : β) : (put l k v).length ≤ l.length + 1 := by
  induction l with
  | nil => exact Nat.le_refl _
  | cons p r ih =>
    unfold put
    by_cases e : p.1 = k
    · rw [if_pos e]
      exact Nat.le_succ _
    · rw [if_neg e, List.length_cons, List.length_cons]
      omega
theorem len_del_le (l : List (Str × β)) (k : Str) : (del l k).length ≤ l.length := by
  induction l with
  | nil => exact Nat.le_refl _
  | cons p r ih =>
    unfold del
    by_cases e : p.1 = k
    · rw [if_pos e]
      exact Nat.le_succ _
    · rw [if_neg e, List.length_cons, List.length_cons]
      omega
/-- in the order of the names -/
def ord [Inhabited β] (l : List (Str × β)) : List (Str × β) := (srt (nms l)).map fun n => (n, (lk l n).getD default)
theorem nms_ord [Inhabited β] (l : List (Str × β)) : nms (ord l) = srt (nms l) := by
  unfold ord
  unfold nms
  rw [List.map_map]
  exact (List.map_congr_left fun _ _ => rfl).trans (List.map_id _)
theorem nd_ord [Inhabited β] {l : List (Str × β)} (nd : (nms l).Nodup) : (nms (ord l)).Nodup := by
  rw [nms_ord]
  exact (srt_perm _).nodup_iff.mpr nd
theorem lk_map [Inhabited β] (l : List (Str × β)) : ∀ (ns : List Str) (x : Str), lk (ns.map fun n => (n, (lk l n).getD default)) x = if x ∈ ns then some ((lk l x).getD default) else none
  | [], x => by simp [lk]
  | n :: ns, x => by
    rw [List.map_cons, lk_cons]
    by_cases e : n = x
    · subst e
      rw [if_pos rfl, if_pos List.mem_cons_self]
    · have e' : ¬ x = n := fun z => e z.symm
      rw [if_neg e, lk_map l ns x]
      simp [e']
theorem lk_ord [Inhabited β] (l : List (Str × β)) (x : Str) : lk (ord l) x = lk l x := by
  unfold ord
  rw [lk_map]
  by_cases m : x ∈ nms l
  · rw [if_pos ((srt_perm _).mem_iff.mpr m)]
    cases e : lk l x with
    | none => exact absurd m (lk_none.mp e)
    | some v => rfl
  · rw [if_neg (fun z => m ((srt_perm _).mem_iff.mp z))]
    exact (lk_none.mpr m).symm
theorem len_ord [Inhabited β] (l : List (Str × β)) : (ord l).length = l.length := by
  unfold ord
  rw [List.length_map, (srt_perm _).length_eq, nms_len]
/-- two lists of pairs with the same names in the same order and the same look-ups are one -/
theorem ext_lk : ∀ {l m : List (Str × β)}, (nms l).Nodup → nms l = nms m → (∀ x, lk l x = lk m x) → l = m
  | [], [], _, _, _ => rfl
  | [], _ :: _, _, h, _ => nomatch h
  | _ :: _, [], _, h, _ => nomatch h
  | p :: l, q :: m, nd, h, e => by
    obtain ⟨a, b⟩ := p
    obtain ⟨c, d⟩ := q
    have h' : a = c ∧ nms l = nms m := by simpa [nms_cons] using h
    obtain ⟨rfl, h2⟩ := h'
    have nd' := nd_cons nd
    have e1 := e a
    simp [lk] at e1
    subst e1
    rw [ext_lk nd'.2 h2 fun x => ?_]
    by_cases ex : a = x
    · subst ex
      rw [lk_none.mpr nd'.1, lk_none.mpr (by rw [← h2]; exact nd'.1)]
    · have := e x
      simpa [lk, ex] using this
theorem ord_ext [Inhabited β] {l m : List (Str × β)} (nd : (nms l).Nodup) (p : (nms l).Perm (nms m)) (e : ∀ x, lk l x = lk m x) : ord l = ord m :=
  ext_lk (nd_ord nd) (by rw [nms_ord, nms_ord, srt_congr p]) fun x => by rw [lk_ord, lk_ord, e x]
theorem ord_ord [Inhabited β] {l : List (Str × β)} (nd : (nms l).Nodup) : ord (ord l) = ord l :=
  ext_lk (nd_ord (nd_ord nd)) (by rw [nms_ord, nms_ord, srt_srt]) fun x => by rw [lk_ord]
theorem ord_perm [Inhabited β] {l m : List (Str × β)} (n1 : (nms l).Nodup) (n2 : (nms m).Nodup) (e : ∀ x, lk l x = lk m x) : ord l = ord m := by
  refine ord_ext n1 ?_ e
  refine (List.perm_ext_iff_of_nodup n1 n2).mpr fun x => ?_
  have h1 := lk_none (l := l) (k := x)
  have h2 := lk_none (l := m) (k := x)
  rw [e x] at h1
  exact Decidable.not_iff_not.mp (h1.symm.trans h2)
end

/-! ### tables and houses -/
abbrev Tab := List (Str × Tr)
abbrev Hs := List (Str × Tab)
instance : Inhabited Tr := ⟨.non⟩
def tK (t : Tab) : List (Key × Tr) := t.map fun p => (Sum.inr p.1, p.2)
def hK (h : Hs) : List (Key × Tr) := h.map fun p => (Sum.inr p.1, Tr.dic (tK p.2))
theorem inr_eq {a b : Str} : ((Sum.inr a : Key) = Sum.inr b) ↔ a = b := ⟨fun h => Sum.inr.inj h, fun h => by rw [h]⟩
theorem get_tK (t : Tab) (k : Str) : getD (tK t) (.inr k) = lk t k := by
  induction t with
  | nil => rfl
  | cons p r ih =>
    show getD ((Sum.inr p.1, p.2) :: tK r) _ = _
    rw [getD_cons, lk_cons]
    by_cases e : p.1 = k
    · rw [if_pos (inr_eq.mpr e), if_pos e]
    · rw [if_neg (fun z => e (inr_eq.mp z)), if_neg e]
      exact ih
theorem get_hK (h : Hs) (k : Str) : getD (hK h) (.inr k) = (lk h k).map fun t => Tr.dic (tK t) := by
  induction h with
  | nil => rfl
  | cons p r ih =>
    show getD ((Sum.inr p.1, Tr.dic (tK p.2)) :: hK r) _ = _
    rw [getD_cons, lk_cons]
    by_cases e : p.1 = k
    · rw [if_pos (inr_eq.mpr e), if_pos e]
      rfl
    · rw [if_neg (fun z => e (inr_eq.mp z)), if_neg e]
      exact ih
theorem putD_new {l : List (Key × Tr)} {k : Key} {v : Tr} (h : k ∉ l.map (·.1)) : putD l k v = l ++ [(k, v)] := by
  unfold putD
  rw [if_neg]
  intro z
  rw [List.any_eq_true] at z
  obtain ⟨p, hp, e⟩ := z
  exact h (List.mem_map.mpr ⟨p, hp, by simpa using e⟩)
theorem putD_cons (p : Key × Tr) (r : List (Key × Tr)) (nd : p.1 ∉ r.map (·.1)) (k : Key) (v : Tr) : putD (p :: r) k v = if p.1 = k then (p.1, v) :: r else p :: putD r k v := by
  by_cases e : p.1 = k
  · rw [if_pos e]
    unfold putD
    rw [if_pos (by rw [List.any_cons]; simp [e]), List.map_cons, if_pos e]
    have : (r.map fun kv => if kv.1 = k then (kv.1, v) else kv) = r := by
      refine (List.map_congr_left fun q hq => ?_).trans (List.map_id _)
      have : ¬ q.1 = k := fun z => nd (by rw [e, ← z]; exact List.mem_map.mpr ⟨q, hq, rfl⟩)
      rw [if_neg this]
      rfl
    rw [this]
  · rw [if_neg e]
    unfold putD
    rw [List.any_cons, decide_eq_false e, Bool.false_or]
    by_cases a : (r.any fun kv => decide (kv.1 = k)) = true
    · rw [if_pos a, if_pos a, List.map_cons, if_neg e]
    · rw [if_neg a, if_neg a]
      rfl
theorem keys_tK (t : Tab) : (tK t).map (·.1) = (nms t).map Sum.inr := by
  unfold tK nms
  rw [List.map_map, List.map_map]
  rfl
theorem keys_hK (h : Hs) : (hK h).map (·.1) = (nms h).map Sum.inr := by
  unfold hK nms
  rw [List.map_map, List.map_map]
  rfl
theorem inr_mem {k : Str} {l : List Str} : (Sum.inr k : Key) ∈ l.map Sum.inr ↔ k ∈ l := by simp
theorem put_tK {t : Tab} (nd : (nms t).Nodup) (k : Str) (v : Tr) : putD (tK t) (.inr k) v = tK (put t k v) := by
  induction t with
  | nil => rfl
  | cons p r ih =>
    have nd' := nd_cons nd
    show putD ((Sum.inr p.1, p.2) :: tK r) _ _ = _
    rw [putD_cons _ _ (by rw [keys_tK]; exact fun z => nd'.1 (inr_mem.mp z))]
    unfold put
    by_cases e : p.1 = k
    · rw [if_pos (inr_eq.mpr e), if_pos e]
      rfl
    · rw [if_neg (fun z => e (inr_eq.mp z)), if_neg e, ih nd'.2]
      rfl
theorem del_tK {t : Tab} (nd : (nms t).Nodup) (k : Str) : delD (tK t) (.inr k) = tK (del t k) := by
  induction t with
  | nil => rfl
  | cons p r ih =>
    have nd' := nd_cons nd
    unfold delD del
    show List.filter _ ((Sum.inr p.1, p.2) :: tK r) = _
    rw [List.filter_cons]
    by_cases e : p.1 = k
    · have : ¬ (decide ((Sum.inr p.1 : Key) ≠ Sum.inr k)) = true := by simp [e]
      rw [if_neg this, if_pos e, List.filter_eq_self.mpr]
      intro q hq
      have hm : q.1 ∈ (tK r).map (·.1) := List.mem_map.mpr ⟨q, hq, rfl⟩
      rw [keys_tK] at hm
      simp only [decide_eq_true_eq]
      intro z
      rw [z] at hm
      exact nd'.1 (by rw [e]; exact inr_mem.mp hm)
    · have : (decide ((Sum.inr p.1 : Key) ≠ Sum.inr k)) = true := by simp [e]
      rw [if_pos this, if_neg e]
      have ih' := ih nd'.2
      unfold delD at ih'
      rw [ih']
      rfl
end TU

set_option Elab.async false
set_option linter.all false
set_option maxRecDepth 100000
namespace TU
open PySem PySem.Spec PyProof.Rows L2

mutual
/-- neither a list nor a dict within -/
def imm : Tr → Bool
  | .lst _ => false
  | .dic _ => false
  | .tup xs => imms xs
  | _ => true
def imms : List Tr → Bool
  | [] => true
  | x :: xs => imm x && imms xs
end
abbrev ff : Addr → Prop := fun _ => False
section
variable {K : PySem.W.Frag} {H H' : Hp} {P P' W N : Addr → Prop}
mutual
theorem T.imm : ∀ {v : V} {d : Tr}, TU.imm d = true → T K H P v d → T K H P' v d
  | _, _, _, .non => .non
  | _, _, _, .bl b => .bl b
  | _, _, _, .int i => .int i
  | _, _, _, .str x => .str x
  | _, _, h, .lst _ _ _ => by simp [TU.imm] at h
  | _, _, h, .tup s t => .tup s (Ts.imm (by simpa [TU.imm] using h) t)
  | _, _, h, .dic _ _ _ => by simp [TU.imm] at h
theorem Ts.imm : ∀ {v : List V} {d : List Tr}, TU.imms d = true → Ts K H P v d → Ts K H P' v d
  | _, _, _, .nil => .nil
  | _, _, h, .cons a b => by
    simp only [TU.imms, Bool.and_eq_true] at h
    exact .cons (T.imm h.1 a) (Ts.imm h.2 b)
end
mutual
theorem nod_of_imm : ∀ {d : Tr}, TU.imm d = true → nod d = true
  | .non, _ => rfl
  | .bl _, _ => rfl
  | .int _, _ => rfl
  | .str _, _ => rfl
  | .lst _, h => by simp [TU.imm] at h
  | .tup xs, h => by
    have h' : TU.imms xs = true := by simpa [TU.imm] using h
    simp only [nod]
    exact nods_of_imms h'
  | .dic _, h => by simp [TU.imm] at h
theorem nods_of_imms : ∀ {d : List Tr}, TU.imms d = true → nods d = true
  | [], _ => rfl
  | x :: xs, h => by
    have h' : TU.imm x = true ∧ TU.imms xs = true := by simpa [TU.imms] using h
    simp only [nods, nod_of_imm h'.1, nods_of_imms h'.2, Bool.and_self]
end
mutual
theorem nol_of_imm : ∀ {d : Tr}, TU.imm d = true → nol d = true
  | .non, _ => rfl
  | .bl _, _ => rfl
  | .int _, _ => rfl
  | .str _, _ => rfl
  | .lst _, h => by simp [TU.imm] at h
  | .tup xs, h => by
    have h' : TU.imms xs = true := by simpa [TU.imm] using h
    simp only [nol]
    exact nols_of_imms h'
  | .dic _, h => by simp [TU.imm] at h
theorem nols_of_imms : ∀ {d : List Tr}, TU.imms d = true → nols d = true
  | [], _ => rfl
  | x :: xs, h => by
    have h' : TU.imm x = true ∧ TU.imms xs = true := by simpa [TU.imms] using h
    simp only [nols, nol_of_imm h'.1, nols_of_imms h'.2, Bool.and_self]
end
def immT (t : Tab) : Prop := ∀ p ∈ t, imm p.2 = true
theorem Tk.imm : ∀ {es : List (Key × V)} {t : Tab}, immT t → Tk K H P es (tK t) → Tk K H P' es (tK t)
  | es, [], _, h => by
    cases h
    exact .nil
  | es, p :: t, hi, h => by
    have h' : Tk K H P es ((Sum.inr p.1, p.2) :: tK t) := h
    cases h' with
    | cons a b => exact .cons (a.imm (hi p List.mem_cons_self)) (Tk.imm (fun q hq => hi q (List.mem_cons_of_mem _ hq)) b)

/-- a table of a house that is read -/
theorem T.dicAt {v : V} {es : List (Key × Tr)} (h : T K H P v (.dic es)) : ∃ a kvs, v = .ref a ∧ P a ∧ Rd H a (.dK kvs) ∧ Tk K H P kvs es := by
  cases h with
  | dic p r t => exact ⟨_, _, rfl, p, r, t⟩
theorem T.tab {kvs : List (Key × V)} {h : Hs} {k : Str} {t : Tab} (tk : Tk K H P kvs (hK h)) (e : lk h k = some t) : ∃ q es, valV kvs (.inr k) = some (.ref q) ∧ P q ∧ Rd H q (.dK es) ∧ Tk K H P es (tK t) := by
  obtain ⟨v, h1, h2⟩ := tk.gets (k := .inr k) (d := .dic (tK t)) (by rw [get_hK, e]; rfl)
  obtain ⟨q, es, rfl, p, r, t⟩ := h2.dicAt
  exact ⟨q, es, h1, p, r, t⟩
theorem T.ntab {kvs : List (Key × V)} {h : Hs} {k : Str} (tk : Tk K H P kvs (hK h)) (e : lk h k = none) : valV kvs (.inr k) = none := tk.getn (by rw [get_hK, e]; rfl)
theorem Tk.ent {es : List (Key × V)} {t : Tab} {n : Str} {d : Tr} (tk : Tk K H P es (tK t)) (e : lk t n = some d) : ∃ v, valV es (.inr n) = some v ∧ T K H P v d := tk.gets (by rw [get_tK, e])
theorem Tk.nent {es : List (Key × V)} {t : Tab} {n : Str} (tk : Tk K H P es (tK t)) (e : lk t n = none) : valV es (.inr n) = none := tk.getn (by rw [get_tK, e])

/-! ### a house of one's own: its dicts stand apart and may be changed -/
inductive OT (K : PySem.W.Frag) (H : Hp) : Hs → List Addr → List (Key × V) → Prop
  | nil : OT K H [] [] []
  | cons {n : Str} {t : Tab} {h : Hs} {q : Addr} {qs : List Addr} {es : List (Key × V)} {kvs : List (Key × V)} : H q = some (.dK es) → Tk K H ff es (tK t) → OT K H h qs kvs → OT K H ((n, t) :: h) (q :: qs) ((.inr n, .ref q) :: kvs)
structure Own (K : PySem.W.Frag) (N : Addr → Prop) (H : Hp) (r : Addr) (h : Hs) : Prop where
  ex : ∃ qs kvs, H r = some (.dK kvs) ∧ OT K H h qs kvs ∧ (r :: qs).Nodup ∧ ∀ q ∈ r :: qs, N q
theorem OT.keep (k : Keeps W H H') (nt : ∀ a xs, W a → ¬ Rd H a (.tup xs)) : ∀ {h : Hs} {qs : List Addr} {kvs : List (Key × V)}, (∀ q ∈ qs, ¬ W q) → OT K H h qs kvs → OT K H' h qs kvs
  | _, _, _, _, .nil => .nil
  | _, _, _, hq, .cons e t r => .cons (k _ _ (hq _ List.mem_cons_self) e) (t.keep k nt fun _ z => z.elim) (OT.keep k nt (fun q m => hq q (List.mem_cons_of_mem _ m)) r)
theorem Own.keep {r : Addr} {h : Hs} (o : Own K N H r h) (k : Keeps W H H') (nt : ∀ a xs, W a → ¬ Rd H a (.tup xs)) (hN : ∀ a, N a → ¬ W a) : Own K N H' r h := by
  obtain ⟨qs, kvs, h1, h2, h3, h4⟩ := o.ex
  exact ⟨qs, kvs, k _ _ (hN r (h4 r List.mem_cons_self)) h1, h2.keep k nt fun q m => hN q (h4 q (List.mem_cons_of_mem _ m)), h3, h4⟩
theorem Own.mono {r : Addr} {h : Hs} (o : Own K N H r h) (s : Same H H') : Own K N H' r h := o.keep (W := ff) (.of_same s) (fun _ _ z => z.elim) fun _ _ z => z
theorem Own.imp {N' : Addr → Prop} {r : Addr} {h : Hs} (o : Own K N H r h) (i : ∀ a, N a → N' a) : Own K N' H r h := by
  obtain ⟨qs, kvs, h1, h2, h3, h4⟩ := o.ex
  exact ⟨qs, kvs, h1, h2, h3, fun q m => i q (h4 q m)⟩
theorem OT.tk : ∀ {h : Hs} {qs : List Addr} {kvs : List (Key × V)}, (∀ q ∈ qs, N q) → OT K H h qs kvs → Tk K H N kvs (hK h)
  | _, _, _, _, .nil => .nil
  | _, _, _, hq, .cons e t r => .cons (.dic (hq _ List.mem_cons_self) (.inl e) (t.imp fun _ z => z.elim)) (OT.tk (fun q m => hq q (List.mem_cons_of_mem _ m)) r)
theorem Own.T {r : Addr} {h : Hs} (o : Own K N H r h) : T K H N (.ref r) (.dic (hK h)) := by
  obtain ⟨qs, kvs, h1, h2, h3, h4⟩ := o.ex
  exact .dic (h4 r List.mem_cons_self) (.inl h1) (h2.tk fun q m => h4 q (List.mem_cons_of_mem _ m))
theorem OT.at : ∀ {h : Hs} {qs : List Addr} {kvs : List (Key × V)} {k : Str} {t : Tab}, OT K H h qs kvs → lk h k = some t → ∃ q es, valV kvs (.inr k) = some (.ref q) ∧ q ∈ qs ∧ H q = some (.dK es) ∧ Tk K H ff es (tK t)
  | _, _, _, _, _, .nil, e => nomatch e
  | _, _, _, k, t, .cons (n := n) (q := q) (es := es) e tk r, el => by
    rw [lk_cons] at el
    by_cases hk : n = k
    · rw [if_pos hk] at el
      cases el
      exact ⟨q, es, valV_pos (inr_eq.mpr hk), List.mem_cons_self, e, tk⟩
    · rw [if_neg hk] at el
      obtain ⟨q', es', h1, h2, h3, h4⟩ := OT.at r el
      exact ⟨q', es', by rw [valV_neg (p := (Sum.inr n, V.ref q)) (fun z => hk (inr_eq.mp z))]; exact h1, List.mem_cons_of_mem _ h2, h3, h4⟩
theorem no_tup {q : Addr} {es : List (Key × V)} (e : H q = some (.dK es)) : ∀ a xs, a = q → ¬ Rd H a (.tup xs) := nt_of e (fun _ z => nomatch z) fun _ _ z => nomatch z
theorem OT.set : ∀ {h : Hs} {qs : List Addr} {kvs : List (Key × V)} {k : Str} {t t' : Tab} {q : Addr} {es' : List (Key × V)}, OT K H h qs kvs → qs.Nodup → lk h k = some t → valV kvs (.inr k) = some (.ref q) → Tk K H ff es' (tK t') →
    OT K (upd H q (.dK es')) (put h k t') qs kvs
  | _, _, _, _, _, _, _, _, .nil, _, e, _, _ => nomatch e
  | _, _, _, k, t, t', q, es', .cons (n := n) (q := q0) (es := es) (qs := qs) e tk r, nd, el, ev, tk' => by
    have nd' := List.nodup_cons.mp nd
    rw [lk_cons] at el
    unfold put
    by_cases hk : n = k
    · rw [if_pos hk] at el ⊢
      rw [valV_pos (p := (Sum.inr n, V.ref q0)) (inr_eq.mpr hk)] at ev
      cases ev
      refine .cons upd_same (tk'.upd e (fun _ z => nomatch z) (fun _ _ z => nomatch z) fun _ z => z.elim) (r.keep keeps_upd (no_tup e) fun q m z => nd'.1 ?_)
      rw [← z]
      exact m
    · rw [if_neg hk] at el ⊢
      rw [valV_neg (p := (Sum.inr n, V.ref q0)) (fun z => hk (inr_eq.mp z))] at ev
      obtain ⟨q', es2, h1, h2, h3, h4⟩ := r.at el
      rw [ev] at h1
      cases h1
      have ne : q0 ≠ q := fun z => nd'.1 (by rw [z]; exact h2)
      exact .cons (by rw [upd_ne ne]; exact e) (tk.upd h3 (fun _ z => nomatch z) (fun _ _ z => nomatch z) fun _ z => z.elim) (OT.set r nd'.2 el ev tk')
/-- a table of it, and what stands when that is changed -/
theorem Own.at {r : Addr} {h : Hs} {k : Str} {t : Tab} (o : Own K N H r h) (e : lk h k = some t) : ∃ kvs q es, H r = some (.dK kvs) ∧ valV kvs (.inr k) = some (.ref q) ∧ H q = some (.dK es) ∧ Tk K H ff es (tK t) ∧ N q ∧ N r ∧ q ≠ r ∧
    ∀ es' t', Tk K H ff es' (tK t') → Own K N (upd H q (.dK es')) r (put h k t') := by
  obtain ⟨qs, kvs, h1, h2, h3, h4⟩ := o.ex
  have nd := List.nodup_cons.mp h3
  obtain ⟨q, es, g1, g2, g3, g4⟩ := h2.at e
  have ne : q ≠ r := fun z => nd.1 (by rw [← z]; exact g2)
  exact ⟨kvs, q, es, h1, g1, g3, g4, h4 q (List.mem_cons_of_mem _ g2), h4 r List.mem_cons_self, ne, fun es' t' tk' => ⟨qs, kvs, by rw [upd_ne (Ne.symm ne)]; exact h1, h2.set nd.2 e g1 tk', h3, h4⟩⟩
theorem OT.snoc {k : Str} {q : Addr} {t : Tab} {es : List (Key × V)} : ∀ {h : Hs} {qs : List Addr} {kvs : List (Key × V)}, OT K H h qs kvs → H q = some (.dK es) → Tk K H ff es (tK t) → OT K H (h ++ [(k, t)]) (qs ++ [q]) (kvs ++ [(.inr k, .ref q)])
  | _, _, _, .nil, e, x => .cons e x .nil
  | _, _, _, .cons a b c, e, x => .cons a b (OT.snoc c e x)
theorem OT.keys : ∀ {h : Hs} {qs : List Addr} {kvs : List (Key × V)}, OT K H h qs kvs → kvs.map (·.1) = (nms h).map Sum.inr
  | _, _, _, .nil => rfl
  | _, _, _, .cons a b c => by
    rw [List.map_cons, nms_cons, List.map_cons, OT.keys c]
theorem OT.len : ∀ {h : Hs} {qs : List Addr} {kvs : List (Key × V)}, OT K H h qs kvs → kvs.length = h.length
  | _, _, _, .nil => rfl
  | _, _, _, .cons a b c => congrArg Nat.succ (OT.len c)
theorem putK_fresh {kvs : List (Key × V)} {k : Key} {v : V} (h : k ∉ kvs.map (·.1)) : putK kvs k v = kvs ++ [(k, v)] := by
  unfold putK
  rw [if_neg]
  intro z
  rw [List.any_eq_true] at z
  obtain ⟨p, hp, e⟩ := z
  exact h (List.mem_map.mpr ⟨p, hp, by simpa using e⟩)
theorem OT.mem {q : Addr} : ∀ {h : Hs} {qs : List Addr} {kvs : List (Key × V)}, OT K H h qs kvs → q ∈ qs → H q ≠ none
  | _, _, _, .cons a b c, m => by
    rcases List.mem_cons.mp m with e | m
    · rw [e, a]
      exact fun z => nomatch z
    · exact OT.mem c m
/-- a new table, made since H1 -/
theorem Own.push {H1 : Hp} {r q : Addr} {h : Hs} {k : Str} {t : Tab} {es : List (Key × V)} (o : Own K N H1 r h) (nk : k ∉ nms h) (nq : H1 q = none) (hq : N q) (s : Same H1 H) (e : H q = some (.dK es)) (tk : Tk K H ff es (tK t)) :
    ∃ kvs, H r = some (.dK kvs) ∧ kvs.length = h.length ∧ Own K N (upd H r (.dK (putK kvs (.inr k) (.ref q)))) r (h ++ [(k, t)]) := by
  obtain ⟨qs, kvs, h1, h2, h3, h4⟩ := o.ex
  have nd := List.nodup_cons.mp h3
  have hr : r ≠ q := ne_of_none h1 nq
  have e2 := s _ _ h1
  have nq' : q ∉ qs := fun m => h2.mem m nq
  refine ⟨kvs, e2, h2.len, qs ++ [q], _, upd_same, ?_, ?_, fun a m => ?_⟩
  · rw [putK_fresh (by rw [h2.keys]; exact fun z => nk (inr_mem.mp z))]
    have h2' : OT K H h qs kvs := h2.keep (W := ff) (.of_same s) (fun _ _ z => z.elim) fun _ _ z => z
    refine (h2'.snoc (k := k) e tk).keep keeps_upd (no_tup e2) fun a m z => ?_
    rw [z] at m
    rcases List.mem_append.mp m with m | m
    · exact nd.1 m
    · exact hr (List.mem_singleton.mp m)
  · refine List.nodup_cons.mpr ⟨fun m => ?_, List.nodup_append.mpr ⟨nd.2, by simp, fun a ha b hb e => nq' (by
      rw [List.mem_singleton] at hb
      rw [← hb, ← e]
      exact ha)⟩⟩
    rcases List.mem_append.mp m with m | m
    · exact nd.1 m
    · exact hr (List.mem_singleton.mp m)
  · rcases List.mem_cons.mp m with e | m
    · rw [e]
      exact h4 r List.mem_cons_self
    · rcases List.mem_append.mp m with m | m
      · exact h4 a (List.mem_cons_of_mem _ m)
      · rw [List.mem_singleton.mp m]
        exact hq
theorem Own.nil {r : Addr} (e : H r = some (.dK [])) (n : N r) : Own K N H r [] := ⟨[], [], e, .nil, by simp, fun q m => by
  rw [List.mem_singleton.mp m]
  exact n⟩
end

/-! ### edits -/
inductive Ed where
  | put (key name : Str) (e : Tr)
  | drop (key name : Str)
def Ed.key : Ed → Str
  | .put k _ _ => k
  | .drop k _ => k
def Ed.name : Ed → Str
  | .put _ n _ => n
  | .drop _ n => n
def Ed.tr : Ed → Tr
  | .put k n e => .tup [.str "put", .str k, .str n, e]
  | .drop k n => .tup [.str "drop", .str k, .str n]
def Ed.Imm : Ed → Prop
  | .put _ _ e => imm e = true
  | .drop _ _ => True
/-- the house behind one edit, or the two words of the error -/
def app1 (h : Hs) (e : Ed) : Except (Str × Str) Hs :=
  match lk h e.key with
  | none => .error ("table", e.key)
  | some t => match e with
    | .put k n v => .ok (TU.put h k (TU.put t n v))
    | .drop k n => if n ∈ nms t then .ok (TU.put h k (TU.del t n)) else .error (k, n)
def eb {α β : Type} : Except (Str × Str) α → (α → Except (Str × Str) β) → Except (Str × Str) β
  | .ok a, f => f a
  | .error x, _ => .error x
def appAll : Hs → List Ed → Except (Str × Str) Hs
  | h, [] => .ok h
  | h, e :: es => eb (app1 h e) fun h' => appAll h' es
def cpH (h : Hs) : Hs := h.map fun p => (p.1, ord p.2)
/-- names stand once, entries hold no lists and no dicts -/
structure Wf (h : Hs) : Prop where
  nd : (nms h).Nodup
  tab : ∀ p ∈ h, (nms p.2).Nodup ∧ immT p.2
def Fits (n : Nat) (h : Hs) : Prop := ∀ p ∈ h, p.2.length ≤ n
end TU

set_option Elab.async false
set_option linter.all false
set_option maxRecDepth 100000
namespace TU
open PySem PySem.Spec PyProof.Rows L2
section
variable {K : PySem.W.Frag} {H H' : Hp} {P P' W N : Addr → Prop} {a : Addr} {xs : List V}
theorem Sm.sqT (s : Same H H') (h : SqT K H a xs) : SqT K H' a xs := sqT_keep (W := ff) (.of_same s) (fun _ _ z => z.elim) h
theorem Sm.sqL (s : Same H H') (h : SqL K H a xs) : SqL K H' a xs := sqL_keep (W := ff) (.of_same s) (fun z => z) h
theorem Sm.rd {u : HO} (s : Same H H') (h : Rd H a u) : Rd H' a u := rd_keep (W := ff) (.of_same s) (fun z => z) h
theorem Sm.at {u : HO} (s : Same H H') (h : H a = some u) : H' a = some u := s _ _ h
theorem T.tupAt {v : V} {ds : List Tr} (h : T K H P v (.tup ds)) : ∃ a xs, v = .ref a ∧ SqT K H a xs ∧ Ts K H P xs ds := by
  cases h with
  | tup s t => exact ⟨_, _, rfl, s, t⟩
theorem T.lstAt {v : V} {ds : List Tr} (h : T K H P v (.lst ds)) : ∃ a xs, v = .ref a ∧ P a ∧ SqL K H a xs ∧ Ts K H P xs ds := by
  cases h with
  | lst p s t => exact ⟨_, _, rfl, p, s, t⟩
theorem T.strAt {v : V} {x : Str} (h : T K H P v (.str x)) : v = .str x := by
  cases h
  rfl
theorem T.intAt {v : V} {x : Int} (h : T K H P v (.int x)) : v = .int x := by
  cases h
  rfl
theorem T.blAt {v : V} {x : Bool} (h : T K H P v (.bl x)) : v = .bl x := by
  cases h
  rfl
theorem T.nonAt {v : V} (h : T K H P v .non) : v = .non := by
  cases h
  rfl
theorem Ts.c {vs : List V} {d : Tr} {ds : List Tr} (h : Ts K H P vs (d :: ds)) : ∃ v us, vs = v :: us ∧ T K H P v d ∧ Ts K H P us ds := by
  cases h with
  | cons a b => exact ⟨_, _, rfl, a, b⟩
theorem Ts.n {vs : List V} (h : Ts K H P vs []) : vs = [] := by
  cases h
  rfl
/-- an edit, opened -/
theorem Ed.at {v : V} {e : Ed} (h : T K H P v e.tr) : ∃ b, v = .ref b ∧ match e with
    | .put k n x => ∃ y, SqT K H b [.str "put", .str k, .str n, y] ∧ T K H P y x
    | .drop k n => SqT K H b [.str "drop", .str k, .str n] := by
  cases e with
  | put k n x =>
    obtain ⟨b, xs, rfl, s, t⟩ := h.tupAt
    obtain ⟨v1, u1, rfl, t1, t⟩ := t.c
    obtain ⟨v2, u2, rfl, t2, t⟩ := t.c
    obtain ⟨v3, u3, rfl, t3, t⟩ := t.c
    obtain ⟨v4, u4, rfl, t4, t⟩ := t.c
    cases t.n
    cases t1.strAt
    cases t2.strAt
    cases t3.strAt
    exact ⟨b, rfl, v4, s, t4⟩
  | drop k n =>
    obtain ⟨b, xs, rfl, s, t⟩ := h.tupAt
    obtain ⟨v1, u1, rfl, t1, t⟩ := t.c
    obtain ⟨v2, u2, rfl, t2, t⟩ := t.c
    obtain ⟨v3, u3, rfl, t3, t⟩ := t.c
    cases t.n
    cases t1.strAt
    cases t2.strAt
    cases t3.strAt
    exact ⟨b, rfl, s⟩
theorem sq_new {p : Addr} {o : List V} : SqL K (upd H p (.lst o)) p o := .inl (.inl upd_same)
theorem st_new {p : Addr} {o : List V} : SqT K (upd H p (.tup o)) p o := .inl (.inl upd_same)
theorem q_ixT' {v : V} {i : Int} {Q : VK} (h : SqT K H a xs) (hi : atI xs i = some v) (q : Q v H) : rIxU K (.ref a) (.int i) H Q := q_ixT h hi q
theorem q_nf {A B : Prop} (h : A) : if (!false) = true then A else B := by
  rw [if_pos (by rfl)]
  exact h
theorem q_nt {A B : Prop} (h : B) : if (!true) = true then A else B := by
  rw [if_neg (by decide)]
  exact h
theorem Same.refl' : Same H H := Same.refl H
/-! ### what is read stays where a dict is locked -/
def RS (H H' : Hp) : Prop := ∀ b u, (∀ o v, u ≠ .frz o v) → Rd H b u → Rd H' b u
theorem RS.of (s : Same H H') : RS H H' := fun b u _ h => Sm.rd s h
theorem RS.refl (H : Hp) : RS H H := fun _ _ _ h => h
theorem RS.trans {H1 : Hp} (s : RS H H1) (t : RS H1 H') : RS H H' := fun b u n h => t b u n (s b u n h)
theorem RS.sqT (s : RS H H') (h : SqT K H a xs) : SqT K H' a xs := h.imp (s _ _ fun _ _ z => nomatch z) fun z => z
theorem RS.sqL (s : RS H H') (h : SqL K H a xs) : SqL K H' a xs := h.imp (s _ _ fun _ _ z => nomatch z) fun z => z
theorem RS.dk {kvs : List (Key × V)} (s : RS H H') (h : Rd H a (.dK kvs)) : Rd H' a (.dK kvs) := s _ _ (fun _ _ z => nomatch z) h
mutual
theorem T.rs (s : RS H H') : ∀ {v : V} {d : Tr}, T K H P v d → T K H' P v d
  | _, _, .non => .non
  | _, _, .bl b => .bl b
  | _, _, .int i => .int i
  | _, _, .str x => .str x
  | _, _, .lst p h t => .lst p (s.sqL h) (Ts.rs s t)
  | _, _, .tup h t => .tup (s.sqT h) (Ts.rs s t)
  | _, _, .dic p h t => .dic p (s.dk h) (Tk.rs s t)
theorem Ts.rs (s : RS H H') : ∀ {v : List V} {d : List Tr}, Ts K H P v d → Ts K H' P v d
  | _, _, .nil => .nil
  | _, _, .cons h t => .cons (T.rs s h) (Ts.rs s t)
theorem Tk.rs (s : RS H H') : ∀ {v : List (Key × V)} {d : List (Key × Tr)}, Tk K H P v d → Tk K H' P v d
  | _, _, .nil => .nil
  | _, _, .cons h t => .cons (T.rs s h) (Tk.rs s t)
end
/-- a dict is locked while it is walked, if it is not so already -/
structure Lkd (H Hl : Hp) (a : Addr) (kvs : List (Key × V)) (od : Obj) (un : Hp → Hp) : Prop where
  at_ : Hl a = some (.frz od (.dK kvs))
  el : ∀ b, b ≠ a → Hl b = H b
  back : ∀ H', H' a = some (.frz od (.dK kvs)) → un H' a = H a
  un : ∀ H' b, b ≠ a → un H' b = H' b
  rd : Rd H a (.dK kvs)
section
variable {Hl : Hp} {kvs : List (Key × V)} {od : Obj} {un : Hp → Hp}
theorem Lkd.rs (l : Lkd H Hl a kvs od un) : RS H Hl := fun b u n h => by
  by_cases e : b = a
  · subst e
    rcases l.rd with z | ⟨o, z⟩
    · rcases h with h | ⟨o', h⟩
      · rw [z] at h
        cases h
        exact .inr ⟨od, l.at_⟩
      · rw [z] at h
        cases h
    · rcases h with h | ⟨o', h⟩
      · rw [z] at h
        cases h
        exact absurd rfl (n _ _)
      · rw [z] at h
        cases h
        exact .inr ⟨od, l.at_⟩
  · have h' : Rd Hl b u := by
      unfold Rd
      rw [l.el b e]
      exact h
    exact h'
/-- what is new at the lock is new ahead of it, and the other way round -/
theorem Lkd.new (l : Lkd H Hl a kvs od un) {b : Addr} : Hl b = none ↔ H b = none := by
  by_cases e : b = a
  · subst e
    rw [l.at_]
    rcases l.rd with z | ⟨o, z⟩ <;> simp [z]
  · rw [l.el b e]
theorem Lkd.same (l : Lkd H Hl a kvs od un) (s : Same Hl H') : Same H (un H') := fun b o e => by
  by_cases h : b = a
  · subst h
    rw [l.back _ (s _ _ l.at_)]
    exact e
  · rw [l.un _ _ h]
    exact s b o (by rw [l.el b h]; exact e)
theorem Lkd.unrs (l : Lkd H Hl a kvs od un) (e : H' a = some (.frz od (.dK kvs))) : RS H' (un H') := fun b u n h => by
  by_cases hb : b = a
  · subst hb
    rcases h with h | ⟨o', h⟩
    · rw [e] at h
      cases h
      exact absurd rfl (n _ _)
    · rw [e] at h
      cases h
      have z := l.back H' e
      rcases l.rd with r | ⟨o, r⟩
      · exact .inl (by rw [z]; exact r)
      · exact .inr ⟨o, by rw [z]; exact r⟩
  · unfold Rd
    rw [l.un _ _ hb]
    exact h
/-- the locked dict is no part of it -/
theorem Lkd.own {N : Addr → Prop} {r : Addr} {h : Hs} (l : Lkd H Hl a kvs od un) (hN : ∀ b, N b → b ≠ a) (e : H' a = some (.frz od (.dK kvs))) (o : Own K N H' r h) : Own K N (un H') r h := by
  obtain ⟨qs, kvs, h1, h2, h3, h4⟩ := o.ex
  have ot : ∀ {h : Hs} {qs : List Addr} {kvs : List (Key × V)}, (∀ q ∈ qs, N q) → OT K H' h qs kvs → OT K (un H') h qs kvs := by
    intro h qs kvs hq o
    induction o with
    | nil => exact .nil
    | cons x t r ih => exact .cons (by rw [l.un _ _ (hN _ (hq _ List.mem_cons_self))]; exact x) (t.rs (l.unrs e)) (ih fun q m => hq q (List.mem_cons_of_mem _ m))
  exact ⟨qs, kvs, by rw [l.un _ _ (hN _ (h4 r List.mem_cons_self))]; exact h1, ot (fun q m => h4 q (List.mem_cons_of_mem _ m)) h2, h3, h4⟩
theorem q_lockE {t : TE} {σ : L2.St} {Q : VK} (hr : Rd H a (.dK kvs)) (h : ∀ Hl od un (Q' : VK), Lkd H Hl a kvs od un → (∀ v H', H' a = some (.frz od (.dK kvs)) → Q v (un H') → Q' v H') → t σ Hl Q') : tLockEU t σ H Q := by
  rcases hr with e | ⟨od, e⟩
  · exact .inr ⟨a, .dK kvs, e, trivial, fun od => h _ od (fun H' => upd H' a (.dK kvs)) _ ⟨upd_same, fun b n => upd_ne n, fun _ _ => by rw [upd_same, e], fun _ b n => upd_ne n, .inl e⟩ fun v H' z q => ⟨z, q⟩⟩
  · exact .inl (h H od (fun H' => H') Q ⟨e, fun _ _ => rfl, fun _ z => by rw [z, e], fun _ _ _ => rfl, .inr ⟨od, e⟩⟩ fun v H' _ q => q)
/-- the ends ahead of a lock and within it -/
structure LkE (D D' : Ends) (a : Addr) (kvs : List (Key × V)) (od : Obj) (un : Hp → Hp) : Prop where
  nx : ∀ σ' H', H' a = some (.frz od (.dK kvs)) → D.nx σ' (un H') → D'.nx σ' H'
  rt : ∀ v H', H' a = some (.frz od (.dK kvs)) → D.rt v (un H') → D'.rt v H'
  bk : ∀ σ' H', H' a = some (.frz od (.dK kvs)) → D.bk σ' (un H') → D'.bk σ' H'
  ct : ∀ σ' H', H' a = some (.frz od (.dK kvs)) → D.ct σ' (un H') → D'.ct σ' H'
theorem q_lockS {t : TS} {D : Ends} {σ : L2.St} (hr : Rd H a (.dK kvs)) (h : ∀ Hl od un D', Lkd H Hl a kvs od un → LkE D D' a kvs od un → t D' σ Hl) : tLockU t D σ H := by
  rcases hr with e | ⟨od, e⟩
  · exact .inr ⟨a, .dK kvs, e, trivial, fun od => h _ od (fun H' => upd H' a (.dK kvs)) _ ⟨upd_same, fun b n => upd_ne n, fun _ _ => by rw [upd_same, e], fun _ b n => upd_ne n, .inl e⟩ ⟨fun _ _ z q => ⟨z, q⟩, fun _ _ z q => ⟨z, q⟩, fun _ _ z q => ⟨z, q⟩, fun _ _ z q => ⟨z, q⟩⟩⟩
  · exact .inl (h H od (fun H' => H') D ⟨e, fun _ _ => rfl, fun _ z => by rw [z, e], fun _ _ _ => rfl, .inr ⟨od, e⟩⟩ ⟨fun _ _ _ q => q, fun _ _ _ q => q, fun _ _ _ q => q, fun _ _ _ q => q⟩)
/-- its keys are walked; a list's, a tuple's items are -/
def kB (R : It → Hp → Prop) (x : V) (H1 : Hp) : Prop := ∃ d o, x = .ref d ∧ ((∃ kvs, H1 d = some (.frz o (.dK kvs)) ∧ R (Itk d o kvs) H1) ∨ ∃ kvs, H1 d = some (.frz o (.dT kvs)) ∧ R (Itkt d o kvs) H1)
def lB (K : PySem.W.Frag) (R : It → Hp → Prop) (x : V) (H1 : Hp) : Prop := ∃ a, x = .ref a ∧ (∃ xs, SqL K H1 a xs) ∧ R (Itl K a) H1
def tpB (K : PySem.W.Frag) (R : It → Hp → Prop) (x : V) (H1 : Hp) : Prop := ∃ a, x = .ref a ∧ (∃ xs, SqT K H1 a xs) ∧ R (Itt K a) H1
theorem q_keys {te : TE} {σ : L2.St} {R : It → Hp → Prop} (h : te σ H (kB R)) : iAny K te σ H R := .inr (.inr h)
theorem q_items {te : TE} {σ : L2.St} {R : It → Hp → Prop} (h : te σ H (lB K R)) : iAny K te σ H R := .inl h
theorem q_tups {te : TE} {σ : L2.St} {R : It → Hp → Prop} (h : te σ H (tpB K R)) : iAny K te σ H R := .inr (.inl h)
theorem q_keysE {x : Addr} {R : It → Hp → Prop} (e : H x = some (.frz od (.dK kvs))) (r : R (Itk x od kvs) H) : kB R (.ref x) H := ⟨x, od, rfl, .inl ⟨kvs, e, r⟩⟩
theorem q_itemsE {x : Addr} {xs : List V} {R : It → Hp → Prop} (e : SqL K H x xs) (r : R (Itl K x) H) : lB K R (.ref x) H := ⟨x, rfl, ⟨xs, e⟩, r⟩
theorem q_tupsE {x : Addr} {xs : List V} {R : It → Hp → Prop} (e : SqT K H x xs) (r : R (Itt K x) H) : tpB K R (.ref x) H := ⟨x, rfl, ⟨xs, e⟩, r⟩
end
end
end TU

set_option Elab.async false
set_option linter.all false
set_option maxRecDepth 100000
namespace TU
open PySem PySem.Spec PyProof.Rows L2
/-! ### the rules, the written part named -/
section
variable {X : Cx} {K : PySem.W.Frag}
theorem k_add (h : X.K = K) : OpR X (binaryOp .Add) (rAddU K) := h ▸ op_addU
theorem k_eq (h : X.K = K) (hu : X.A.units + 64 < cLine) : OpR X (compareOp .Eq) (rEqU K) := h ▸ op_eqU hu
theorem k_ne (h : X.K = K) (hu : X.A.units + 64 < cLine) : OpR X (compareOp .NotEq) (rNeU K) := h ▸ op_neU hu
theorem k_in (h : X.K = K) (hu : X.A.units + 64 < cLine) : OpR X (compareOp .In) (rInU false K) := h ▸ op_inU hu
theorem k_nin (h : X.K = K) (hu : X.A.units + 64 < cLine) : OpR X (compareOp .NotIn) (rInU true K) := h ▸ op_notInU hu
theorem k_ix (h : X.K = K) (hu : X.A.units + 64 < cLine) : IxR X (rIxU K) := h ▸ ix_any hu
theorem k_sl (h : X.K = K) : SlR X (rSlU K) := h ▸ sl_any
theorem k_len (h : X.K = K) : CallR X (.builtin "len") (rLenU K) := h ▸ call_lenU
theorem k_list (h : X.K = K) (hc : X.calm = true) : CallR X (.type "list") (rListU K) := h ▸ call_listU hc
theorem k_sort (h : X.K = K) (hc : X.calm = true) : CallR X (.builtin "sorted") (rSortU K) := h ▸ call_sortU hc
theorem k_isi (h : X.K = K) : CallR X (.builtin "isinstance") (rIsi K) := h ▸ call_isi
theorem k_sum (h : X.K = K) (hc : X.calm = true) : CallR X (.builtin "sum") (rSum K) := h ▸ cr_sum hc
theorem k_all (h : X.K = K) (hc : X.calm = true) : CallR X (.builtin "all") (rAll K) := h ▸ cr_all hc
theorem k_anyb (h : X.K = K) (hc : X.calm = true) : CallR X (.builtin "any") (rAny K) := h ▸ cr_any hc
theorem k_repr (h : X.K = K) (hg : X.A.guards = some []) (hu : X.A.units + 64 < cLine) : CallR X (.builtin "repr") (rReprT K) := h ▸ call_reprT hg hu
theorem k_tr {e : Expr} {te : TE} (h : X.K = K) (he : PE X e te) (hi : ∀ whole, isTrue e X.env whole = (do let v ← whole; standAt e.pos; holding [v] (truthy v)) := by intro _; rfl) : PT X e (tTr K te) := h ▸ pt_tr he hi
theorem k_walk {tg e : Expr} {te : TE} (h : X.K = K) (he : PE X e te) : PI X tg e (iAny K te) := h ▸ pi_any he
theorem k_rev {e : Expr} {te : TE} {k : Nat} {p1 p2 p3 pos : Pos} (h : X.K = K) (he : PE X e te) : PE X (.Subscript e (.Slice none none (some (.UnaryOp .USub (.Constant (.int 1) k p1) p2)) p3) pos) (tRevL K te) := h ▸ pe_revL he
theorem k_tup {es : List Expr} {k : Nat} {t : TGs} {pos : Pos} {n : Nat} (h : X.K = K) (hc : X.calm = true) (ht : PGs X es t) (hn : (assignEach es X.env).length = n := by rfl) (hst : (assignEach es X.env).findIdx? (·.1) = none := by rfl) : PG X (.Tuple es k pos) (gTup K n t) := h ▸ pg_tup hc ht hn hst
theorem k_fld {e : Expr} {f : Str} {pos : Pos} {te : TE} (h : X.K = K) (he : PE X e te) (hb : attributeBase e f X.env (eval e X.env) = eval e X.env) : PE X (.Attribute e f pos) (tFld K te f) := h ▸ pe_fld he hb
theorem k_append {o e : Expr} {to : TE} {t : TA} {apos cpos : Pos} (h : X.K = K) (ho : PE X o to) (ha : PA X [e] t)
    (hbase : attributeBase o "append" X.env (eval o X.env) = eval o X.env := by rfl)
    (hfew : ((backTo cpos (starEach [e] X.env)).all (fun x => !x.1) && (backToKw cpos (keywordEach [] X.env)).all (fun x => x.1.isSome) && decide (([e] : List Expr).length + ([] : List Keyword).length + (if ([] : List Keyword).isEmpty then 0 else 1) < 30)) = true := by rfl)
    (hline : (apos.endLine == cpos.line) = true := by rfl) (hs : starEach [e] X.env = (false, eval e X.env) :: starEach [] X.env := by rfl) (hplain : (backTo cpos (starEach [] X.env)).any (·.1) = false := by rfl) :
    PE X (.Call (.Attribute o "append" apos) [e] [] cpos) (tBM K "list" rAppend to t) := h ▸ pe_bm PySem.F.plainAttrs_list PySem.F.slot_list_append PySem.F.type_list_append mt_append ho ha hbase hfew hline hs hplain
end
end TU

set_option Elab.async false
set_option linter.all false
set_option maxRecDepth 100000
namespace TU
open PySem PySem.Spec PyProof.Rows L2
section
variable {K : PySem.W.Frag}
/-- the pairs of a table by place -/
theorem at_tK {t : Tab} {i : Nat} {n : Str} {d : Tr} (h : t[i]? = some (n, d)) : (tK t)[i]? = some (.inr n, d) := by
  unfold tK
  rw [List.getElem?_map, h]
  rfl
theorem at_hK {t : Hs} {i : Nat} {n : Str} {d : Tab} (h : t[i]? = some (n, d)) : (hK t)[i]? = some (.inr n, .dic (tK d)) := by
  unfold hK
  rw [List.getElem?_map, h]
  rfl
theorem take_more {α : Type} {l : List α} {i : Nat} {x : α} (h : l[i]? = some x) : l.take (i + 1) = l.take i ++ [x] := by
  rw [List.take_add_one, h]
  rfl
theorem mem_at {α : Type} {l : List α} {i : Nat} {x : α} (h : l[i]? = some x) : x ∈ l := List.mem_of_getElem? h
theorem nd_at {l : List Str} (nd : l.Nodup) {i : Nat} {x : Str} (h : l[i]? = some x) : x ∉ l.take i := fun m => by
  obtain ⟨j, hj, e⟩ := List.getElem_of_mem m
  have hi : i < l.length := (List.getElem?_eq_some_iff.mp h).1
  rw [List.length_take] at hj
  have e2 : l[j]? = some x := by
    rw [← e, List.getElem_take]
    exact List.getElem?_eq_getElem (by omega)
  have := List.pairwise_iff_getElem.mp nd j i (by omega) hi (by omega)
  rw [List.getElem?_eq_getElem hi] at h
  rw [List.getElem?_eq_getElem (by omega)] at e2
  exact this (by rw [Option.some.inj e2, Option.some.inj h])
theorem nms_at {β : Type} {l : List (Str × β)} {i : Nat} {n : Str} {d : β} (h : l[i]? = some (n, d)) : (nms l)[i]? = some n := by
  unfold nms
  rw [List.getElem?_map, h]
  rfl
theorem nms_take {β : Type} (l : List (Str × β)) (i : Nat) : nms (l.take i) = (nms l).take i := by
  unfold nms
  rw [List.map_take]
theorem cpH_take (h : Hs) (i : Nat) : cpH (h.take i) = (cpH h).take i := by
  unfold cpH
  rw [List.map_take]
theorem nms_cpH (h : Hs) : nms (cpH h) = nms h := by
  unfold nms cpH
  rw [List.map_map]
  rfl
theorem cpH_at {h : Hs} {i : Nat} {n : Str} {t : Tab} (e : h[i]? = some (n, t)) : (cpH h)[i]? = some (n, ord t) := by
  unfold cpH
  rw [List.getElem?_map, e]
  rfl
theorem Tk.at {H : Hp} {N : Addr → Prop} : ∀ {kvs : List (Key × V)} {es : List (Key × Tr)} {i : Nat} {k : Key} {v : V}, Tk K H N kvs es → kvs[i]? = some (k, v) → ∃ d, es[i]? = some (k, d) ∧ T K H N v d
  | _, _, _, _, _, .nil, e => by simp at e
  | _, _, 0, k, v, .cons h _, e => by
    simp at e
    obtain ⟨rfl, rfl⟩ := e
    exact ⟨_, rfl, h⟩
  | _, _, i + 1, k, v, .cons _ t, e => by
    obtain ⟨d, h1, h2⟩ := Tk.at (i := i) t (by simpa using e)
    exact ⟨d, by simpa using h1, h2⟩
theorem hK_at {h : Hs} {i : Nat} {k : Key} {d : Tr} (e : (hK h)[i]? = some (k, d)) : ∃ n t, h[i]? = some (n, t) ∧ k = .inr n ∧ d = .dic (tK t) := by
  unfold hK at e
  rw [List.getElem?_map] at e
  cases q : h[i]? with
  | none =>
    rw [q] at e
    cases e
  | some p =>
    rw [q] at e
    cases e
    exact ⟨p.1, p.2, rfl, rfl, rfl⟩
theorem srt_at {l : List Str} {j : Nat} {x : V} (e : (l.map V.str)[j]? = some x) : ∃ n, l[j]? = some n ∧ x = .str n := by
  rw [List.getElem?_map] at e
  cases q : l[j]? with
  | none =>
    rw [q] at e
    cases e
  | some n =>
    rw [q] at e
    cases e
    exact ⟨n, rfl, rfl⟩
theorem ord_at {t : Tab} {j : Nat} {n : Str} (e : (srt (nms t))[j]? = some n) : ∃ d, (ord t)[j]? = some (n, d) ∧ lk t n = some d := by
  have m : n ∈ nms t := (srt_perm _).mem_iff.mp (mem_at e)
  cases q : lk t n with
  | none => exact absurd m (lk_none.mp q)
  | some d =>
    refine ⟨d, ?_, rfl⟩
    unfold ord
    rw [List.getElem?_map, e]
    show some (n, (lk t n).getD default) = _
    rw [q]
    rfl
theorem immT_lk {t : Tab} (h : immT t) {n : Str} {d : Tr} (e : lk t n = some d) : imm d = true := h _ (lk_mem e)
theorem tK_snoc (t : Tab) (n : Str) (d : Tr) : tK (t ++ [(n, d)]) = tK t ++ [(.inr n, d)] := by
  unfold tK
  rw [List.map_append]
  rfl
theorem len_small {n : Nat} (h : n ≤ 100000) : n < sizeLine := Nat.lt_of_le_of_lt h (by decide)


/-- an Unknown with its two words -/
def XUnk (C : Addr) (what name : Str) (H : Hp) (E : XK) : Prop := ∀ d H', Same H H' → H' d = some (.xd [("name", .str name), ("what", .str what)]) → E (.ref C) (some d) H'
end
end TU

set_option Elab.async false
set_option linter.all false
set_option maxRecDepth 100000
namespace TU
open PySem PySem.Spec PyProof.Rows L2
section
variable {K : PySem.W.Frag} {H H' : Hp} {N : Addr → Prop}
theorem XUnk.mono {C : Addr} {w n : Str} {E : XK} (s : Same H H') (x : XUnk C w n H E) : XUnk C w n H' E := fun d H1 s1 e => x d H1 (s.trans s1) e
theorem Own.live {r : Addr} {h : Hs} (o : Own K N H r h) : Own K (fun b => N b ∧ H b ≠ none) H r h := by
  obtain ⟨qs, kvs, h1, h2, h3, h4⟩ := o.ex
  refine ⟨qs, kvs, h1, h2, h3, fun q m => ⟨h4 q m, ?_⟩⟩
  rcases List.mem_cons.mp m with e | m
  · rw [e, h1]
    exact fun z => nomatch z
  · exact h2.mem m
theorem appAll_cons (h : Hs) (e : Ed) (es : List Ed) : appAll h (e :: es) = eb (app1 h e) fun h' => appAll h' es := rfl
theorem appAll_append : ∀ (h : Hs) (xs ys : List Ed), appAll h (xs ++ ys) = eb (appAll h xs) fun h' => appAll h' ys
  | h, [], ys => rfl
  | h, e :: xs, ys => by
    rw [List.cons_append, appAll_cons, appAll_cons]
    cases app1 h e with
    | ok h' => exact appAll_append h' xs ys
    | error x => rfl
theorem appAll_one (h : Hs) (e : Ed) : appAll h [e] = app1 h e := by
  rw [appAll_cons]
  cases app1 h e <;> rfl
/-- the edits up to a place, and one more -/
theorem appAll_more {h hi : Hs} {es : List Ed} {i : Nat} {e : Ed} (he : es[i]? = some e) (ha : appAll h (es.take i) = .ok hi) : appAll h (es.take (i + 1)) = app1 hi e := by
  rw [take_more he, appAll_append, ha]
  exact appAll_one hi e
theorem appAll_stop {h hi : Hs} {es : List Ed} {i : Nat} {e : Ed} {x : Str × Str} (he : es[i]? = some e) (ha : appAll h (es.take i) = .ok hi) (hx : app1 hi e = .error x) : appAll h es = .error x := by
  have e1 := appAll_more he ha
  rw [hx] at e1
  have e2 := appAll_append h (es.take (i + 1)) (es.drop (i + 1))
  rw [List.take_append_drop, e1] at e2
  exact e2
theorem nms_cp (h : Hs) : nms (cpH h) = nms h := nms_cpH h
theorem immT_put {t : Tab} (h : immT t) (n : Str) {d : Tr} (hd : imm d = true) : immT (put t n d) := by
  intro p hp
  induction t with
  | nil =>
    have e : p = (n, d) := List.mem_singleton.mp hp
    rw [e]
    exact hd
  | cons q r ih =>
    unfold put at hp
    by_cases e : q.1 = n
    · rw [if_pos e] at hp
      rcases List.mem_cons.mp hp with e | m
      · rw [e]
        exact hd
      · exact h p (List.mem_cons_of_mem _ m)
    · rw [if_neg e] at hp
      rcases List.mem_cons.mp hp with e | m
      · rw [e]
        exact h q List.mem_cons_self
      · exact ih (fun x hx => h x (List.mem_cons_of_mem _ hx)) m
theorem mem_del {β : Type} {t : List (Str × β)} {n : Str} {p : Str × β} (hp : p ∈ del t n) : p ∈ t := by
  induction t with
  | nil => exact hp
  | cons q r ih =>
    unfold del at hp
    by_cases e : q.1 = n
    · rw [if_pos e] at hp
      exact List.mem_cons_of_mem _ hp
    · rw [if_neg e] at hp
      rcases List.mem_cons.mp hp with e | m
      · rw [e]
        exact List.mem_cons_self
      · exact List.mem_cons_of_mem _ (ih m)
theorem immT_del {t : Tab} (h : immT t) (n : Str) : immT (del t n) := fun p hp => h p (mem_del hp)
theorem mem_put {β : Type} {t : List (Str × β)} {n : Str} {v : β} {p : Str × β} (hp : p ∈ put t n v) : p ∈ t ∨ p = (n, v) := by
  induction t with
  | nil => exact .inr (List.mem_singleton.mp hp)
  | cons q r ih =>
    unfold put at hp
    by_cases e : q.1 = n
    · rw [if_pos e] at hp
      rcases List.mem_cons.mp hp with e2 | m
      · rw [e] at e2
        exact .inr e2
      · exact .inl (List.mem_cons_of_mem _ m)
    · rw [if_neg e] at hp
      rcases List.mem_cons.mp hp with e2 | m
      · rw [e2]
        exact .inl List.mem_cons_self
      · exact (ih m).imp (List.mem_cons_of_mem _) id
theorem immT_ord {t : Tab} (h : immT t) : immT (ord t) := by
  intro p hp
  unfold ord at hp
  obtain ⟨n, hn, rfl⟩ := List.mem_map.mp hp
  have m : n ∈ nms t := (srt_perm _).mem_iff.mp hn
  cases q : lk t n with
  | none => exact absurd m (lk_none.mp q)
  | some d => exact immT_lk h q
theorem Wf.cp {h : Hs} (w : Wf h) : Wf (cpH h) := by
  refine ⟨by rw [nms_cpH]; exact w.nd, fun p hp => ?_⟩
  obtain ⟨q, hq, rfl⟩ := List.mem_map.mp hp
  exact ⟨nd_ord (w.tab q hq).1, immT_ord (w.tab q hq).2⟩
theorem Wf.set {h : Hs} (w : Wf h) {k : Str} {t : Tab} (nd : (nms t).Nodup) (im : immT t) : Wf (put h k t) := by
  refine ⟨nd_put w.nd k t, fun p hp => ?_⟩
  rcases mem_put hp with m | e
  · exact w.tab p m
  · rw [e]
    exact ⟨nd, im⟩
theorem Fits.cp {n : Nat} {h : Hs} (f : Fits n h) : Fits n (cpH h) := fun p hp => by
  obtain ⟨q, hq, rfl⟩ := List.mem_map.mp hp
  rw [len_ord]
  exact f q hq
theorem Fits.set {n m : Nat} {h : Hs} (f : Fits n h) (hnm : n ≤ m) {k : Str} {t : Tab} (ht : t.length ≤ m) : Fits m (put h k t) := fun p hp => by
  rcases mem_put hp with x | e
  · exact Nat.le_trans (f p x) hnm
  · rw [e]
    exact ht
theorem len_cp (h : Hs) : (cpH h).length = h.length := by
  unfold cpH
  rw [List.length_map]
theorem len_put_of {β : Type} {h : List (Str × β)} {k : Str} {v : β} (m : k ∈ nms h) : (put h k v).length = h.length := by
  rw [← nms_len, nms_put, if_pos m, nms_len]
theorem nms_put_of {β : Type} {h : List (Str × β)} {k : Str} {v : β} (m : k ∈ nms h) : nms (put h k v) = nms h := by rw [nms_put, if_pos m]
/-- what one edit leaves of the shape -/
theorem app1_ok {h h' : Hs} {e : Ed} (w : Wf h) (im : e.Imm) {n : Nat} (f : Fits n h) (ha : app1 h e = .ok h') : Wf h' ∧ Fits (n + 1) h' ∧ nms h' = nms h := by
  unfold app1 at ha
  cases q : lk h e.key with
  | none =>
    rw [q] at ha
    cases ha
  | some t =>
    rw [q] at ha
    have hm := lk_mem q
    have wt := w.tab _ hm
    have ft : t.length ≤ n := f _ hm
    have hk : e.key ∈ nms h := mem_nms hm
    cases e with
    | put k m d =>
      cases ha
      have := len_put_le t m d
      exact ⟨w.set (nd_put wt.1 m d) (immT_put wt.2 m im), f.set (Nat.le_succ _) (by omega), nms_put_of hk⟩
    | drop k m =>
      by_cases hn : m ∈ nms t
      · simp only [if_pos hn] at ha
        cases ha
        have := len_del_le t m
        exact ⟨w.set (nd_del wt.1 m) (immT_del wt.2 m), f.set (Nat.le_succ _) (by omega), nms_put_of hk⟩
      · simp only [if_neg hn] at ha
        cases ha
theorem appAll_ok : ∀ {es : List Ed} {h h' : Hs} {n : Nat}, Wf h → (∀ e ∈ es, e.Imm) → Fits n h → appAll h es = .ok h' → Wf h' ∧ Fits (n + es.length) h' ∧ nms h' = nms h
  | [], h, h', n, w, im, f, ha => by
    cases ha
    exact ⟨w, f, rfl⟩
  | e :: es, h, h', n, w, im, f, ha => by
    rw [appAll_cons] at ha
    cases q : app1 h e with
    | error x =>
      rw [q] at ha
      cases ha
    | ok h1 =>
      rw [q] at ha
      obtain ⟨w1, f1, n1⟩ := app1_ok w (im e List.mem_cons_self) f q
      obtain ⟨w2, f2, n2⟩ := appAll_ok w1 (fun x hx => im x (List.mem_cons_of_mem _ hx)) f1 ha
      refine ⟨w2, ?_, n2.trans n1⟩
      rw [List.length_cons, show n + (es.length + 1) = n + 1 + es.length by omega]
      exact f2
theorem len_of_nms {h h' : Hs} (e : nms h' = nms h) : h'.length = h.length := by rw [← nms_len h', e, nms_len]
theorem Ts.gets {vs : List V} {ds : List Tr} {i : Nat} {v : V} (h : Ts K H N vs ds) (e : vs[i]? = some v) : ∃ d, ds[i]? = some d ∧ T K H N v d := h.get e
theorem map_at {α β : Type} {f : α → β} {l : List α} {i : Nat} {y : β} (e : (l.map f)[i]? = some y) : ∃ x, l[i]? = some x ∧ y = f x := by
  rw [List.getElem?_map] at e
  cases q : l[i]? with
  | none =>
    rw [q] at e
    cases e
  | some x =>
    rw [q] at e
    cases e
    exact ⟨x, rfl, rfl⟩
/-- what leads back from one edit; from a list of edits -/
def inv1 (h : Hs) (e : Ed) : Ed := match lk h e.key with
  | none => .drop e.key e.name
  | some t => match lk t e.name with
    | some d => .put e.key e.name d
    | none => .drop e.key e.name
def invs : Hs → List Ed → List Ed
  | _, [] => []
  | h, e :: es => inv1 h e :: (match app1 h e with | .ok h' => invs h' es | .error _ => [])
theorem inv1_imm {h : Hs} (w : Wf h) (e : Ed) : (inv1 h e).Imm := by
  cases q : lk h e.key with
  | none =>
    simp only [inv1, q]
    trivial
  | some t =>
    cases q2 : lk t e.name with
    | none =>
      simp only [inv1, q, q2]
      trivial
    | some d =>
      simp only [inv1, q, q2]
      exact immT_lk (w.tab _ (lk_mem q)).2 q2
theorem invs_more : ∀ {es : List Ed} {h hi : Hs} {i : Nat} {e : Ed}, es[i]? = some e → appAll h (es.take i) = .ok hi → invs h (es.take (i + 1)) = invs h (es.take i) ++ [inv1 hi e]
  | [], _, _, _, _, he, _ => by simp at he
  | x :: es, h, hi, 0, e, he, ha => by
    have e1 : x = e := by simpa using he
    have e2 : h = hi := by
      have : Except.ok h = Except.ok hi := ha
      exact Except.ok.inj this
    subst e1 e2
    show inv1 h x :: (match app1 h x with | .ok h' => invs h' [] | .error _ => []) = [inv1 h x]
    cases app1 h x <;> rfl
  | x :: es, h, hi, i + 1, e, he, ha => by
    have he' : es[i]? = some e := by simpa using he
    rw [List.take_succ_cons] at ha ⊢
    rw [List.take_succ_cons]
    rw [appAll_cons] at ha
    unfold invs
    cases q : app1 h x with
    | error z =>
      rw [q] at ha
      cases ha
    | ok h1 =>
      rw [q] at ha
      show inv1 h x :: invs h1 (es.take (i + 1)) = inv1 h x :: invs h1 (es.take i) ++ [inv1 hi e]
      rw [invs_more he' ha]
      rfl
end
section
variable {K : PySem.W.Frag} {σ : L2.St} {H : Hp} {D : Ends}
theorem q_is {α : Type} {x : α} {A B : Prop} (h : A) : if (some x).isSome = true then A else B := q_t h
theorem q_isn {α : Type} {A B : Prop} (h : B) : if (none : Option α).isSome = true then A else B := q_f h
theorem q_nis {α : Type} {x : α} {A B : Prop} (h : B) : if (!(some x).isSome) = true then A else B := q_nt h
theorem q_nisn {α : Type} {A B : Prop} (h : A) : if (!(none : Option α).isSome) = true then A else B := q_nf h
theorem q_ddel {td ty : TE} (h : td σ H fun x H1 => ty σ H1 fun y H2 => ∃ a kvs k, x = .ref a ∧ H2 a = some (.dK kvs) ∧ y = kV k ∧ (valV kvs k).isSome = true ∧ D.nx σ (upd H2 a (.dK (dropK kvs k)))) : sDDel td ty D σ H := h
theorem q_rev {te : TE} {Q : VK} (h : te σ H fun x H1 => ∃ a xs, x = .ref a ∧ SqL K H1 a xs ∧ ∀ p, H1 p = none → Q (.ref p) (upd H1 p (.lst xs.reverse))) : tRevL K te σ H Q := h
theorem Ts.rev {N : Addr → Prop} : ∀ {vs : List V} {ds : List Tr}, Ts K H N vs ds → Ts K H N vs.reverse ds.reverse
  | _, _, .nil => .nil
  | _, _, .cons h t => by
    rw [List.reverse_cons, List.reverse_cons]
    exact (Ts.rev t).append (.cons h .nil)
/-- over a list's items -/
theorem for_items {a : Addr} {xs : List V} {tb : TS} {j : Nat} (Pv : Nat → L2.St → Hp → Prop) (h0 : Pv 0 σ H) (hx : ∀ i σ H, i ≤ xs.length → Pv i σ H → SqL K H a xs)
    (hs : ∀ i x σ H, xs[i]? = some x → Pv i σ H → tb { D with nx := Pv (i + 1), ct := Pv (i + 1), bk := D.nx } (σ.set j (some x)) H) (hd : ∀ σ H, Pv xs.length σ H → D.nx σ H) : forB (Itl K a) (gName j) tb D σ H :=
  for_any walk_list Pv h0 hx (fun i x σ H H' _ p y => by
    obtain ⟨e, y⟩ := y
    subst e
    exact hs i x σ _ y p) hd
end
end TU

set_option Elab.async false
set_option linter.all false
set_option maxRecDepth 100000
namespace TU
open PySem PySem.Spec PyProof.Rows L2
section
variable {X : Cx}
def rIntU : List V → Hp → VK → Prop := fun xs H Q => (∃ i, xs = [.int i] ∧ Q (.int i) H) ∨ ∃ k, xs = [.bl k] ∧ Q (.int (if k then 1 else 0)) H
theorem k_int : CallR X (.type "int") rIntU := call_int1
def rAbsU : List V → Hp → VK → Prop := fun xs H Q => ∃ i, xs = [.int i] ∧ Q (.int (if i < 0 then -i else i)) H
theorem k_abs : CallR X (.builtin "abs") rAbsU := call_abs
end
section
variable {K : PySem.W.Frag} {σ : L2.St} {H H' : Hp} {Q : VK}
theorem q_intI {i : Int} (q : Q (.int i) H) : rIntU [.int i] H Q := .inl ⟨i, rfl, q⟩
theorem q_intB {b : Bool} (q : Q (.int (if b then 1 else 0)) H) : rIntU [.bl b] H Q := .inr ⟨b, rfl, q⟩
theorem q_abs {i : Int} (q : Q (.int (if i < 0 then -i else i)) H) : rAbsU [.int i] H Q := ⟨i, rfl, q⟩
theorem upd_self {a : Addr} {o : HO} (e : H a = some o) : upd H a o = H := by
  funext b
  by_cases h : b = a
  · rw [h, upd_same, e]
  · rw [upd_ne h]
/-- where a lies may be written; all else stays -/
def Kp (a : Addr) (H H' : Hp) : Prop := Keeps (fun b => b = a) H H'
theorem Kp.refl {a : Addr} : Kp a H H := fun _ _ _ e => e
theorem Kp.trans {a : Addr} {H1 : Hp} (x : Kp a H H1) (y : Kp a H1 H') : Kp a H H' := fun b o n e => y b o n (x b o n e)
theorem Kp.of {a : Addr} (s : Same H H') : Kp a H H' := fun b o _ e => s b o e
theorem Kp.upd {a : Addr} {o : HO} : Kp a H (upd H a o) := keeps_upd
/-- what is new since H1, where H1 knows a, may change, too -/
theorem Kp.new {a p : Addr} {H1 : Hp} {o : HO} (x : Kp a H H1) (hp : H p = none) : Kp a H (L2.upd H1 p o) := fun b u n e => by
  rw [upd_ne (ne_of_none e hp)]
  exact x b u n e
/-- the draws' list and place -/
structure Rnd (H : Hp) (j a : Addr) (p : Int) : Prop where
  ex : ∃ ns : List Int, H j = some (.lst (ns.map V.int)) ∧ ns.length ≤ 2000 ∧ ∀ n ∈ ns, 0 ≤ n ∧ n < 1000
  at_ : H a = some (.lst [.int p])
  ne : j ≠ a
  p0 : 0 ≤ p
theorem Rnd.same {j a : Addr} {p : Int} (r : Rnd H j a p) (s : Same H H') : Rnd H' j a p := by
  obtain ⟨ns, h1, h2, h3⟩ := r.ex
  exact ⟨⟨ns, s _ _ h1, h2, h3⟩, s _ _ r.at_, r.ne, r.p0⟩
theorem Rnd.set {j a : Addr} {p p' : Int} (r : Rnd H j a p) (h : 0 ≤ p') : Rnd (upd H a (.lst [.int p'])) j a p' := by
  obtain ⟨ns, h1, h2, h3⟩ := r.ex
  exact ⟨⟨ns, by rw [upd_ne r.ne]; exact h1, h2, h3⟩, upd_same, r.ne, h⟩
theorem Rnd.upd {j a q : Addr} {p : Int} {o o' : HO} (r : Rnd H j a p) (e : H q = some o) (hj : q ≠ j) (ha : q ≠ a) : Rnd (upd H q o') j a p := by
  obtain ⟨ns, h1, h2, h3⟩ := r.ex
  exact ⟨⟨ns, by rw [upd_ne hj.symm]; exact h1, h2, h3⟩, by rw [upd_ne ha.symm]; exact r.at_, r.ne, r.p0⟩
theorem T.kp {a : Addr} {xs : List V} {N N' : Addr → Prop} {v : V} {d : Tr} (h : T K H N v d) (k : Kp a H H') (e : H a = some (.lst xs)) (hN : ∀ b, N b → N' b ∧ b ≠ a) : T K H' N' v d := h.keep k (nt_of e (fun _ z => nomatch z) fun _ _ z => nomatch z) hN
theorem Own.kp {a r : Addr} {xs : List V} {N : Addr → Prop} {h : Hs} (o : Own K N H r h) (k : Kp a H H') (e : H a = some (.lst xs)) (hN : ∀ b, N b → b ≠ a) : Own K N H' r h := o.keep k (nt_of e (fun _ z => nomatch z) fun _ _ z => nomatch z) hN
theorem Ts.kp {a : Addr} {xs : List V} {N N' : Addr → Prop} {v : List V} {d : List Tr} (h : Ts K H N v d) (k : Kp a H H') (e : H a = some (.lst xs)) (hN : ∀ b, N b → N' b ∧ b ≠ a) : Ts K H' N' v d := h.keep k (nt_of e (fun _ z => nomatch z) fun _ _ z => nomatch z) hN
theorem fmod_lt {a b : Int} (h : 0 < b) : 0 ≤ a.fmod b ∧ a.fmod b < b := by
  rw [Int.fmod_eq_emod_of_nonneg a (by omega)]
  exact ⟨Int.emod_nonneg a (by omega), Int.emod_lt_of_pos a h⟩
theorem fdiv_le {a b : Int} (h : 0 < b) (ha : 0 ≤ a) : 0 ≤ a.fdiv b ∧ a.fdiv b ≤ a := by
  rw [Int.fdiv_eq_ediv_of_nonneg a (by omega)]
  exact ⟨Int.ediv_nonneg ha (by omega), Int.ediv_le_self b ha⟩
end
end TU

set_option Elab.async false
set_option linter.all false
set_option maxRecDepth 100000
namespace TU
open PySem PySem.Spec PyProof.Rows L2
section
variable {K : PySem.W.Frag} {H H' : Hp} {N : Addr → Prop}
theorem lk_snoc {β : Type} {h : List (Str × β)} {k : Str} {t : β} (nk : k ∉ nms h) : lk (h ++ [(k, t)]) k = some t := by
  induction h with
  | nil => simp [lk_cons]
  | cons p r ih =>
    rw [nms_cons, List.mem_cons, not_or] at nk
    rw [List.cons_append, lk_cons, if_neg (fun z => nk.1 z.symm)]
    exact ih nk.2
theorem put_snoc {β : Type} {h : List (Str × β)} {k : Str} {t t' : β} (nk : k ∉ nms h) : put (h ++ [(k, t)]) k t' = h ++ [(k, t')] := by
  induction h with
  | nil => simp [put]
  | cons p r ih =>
    rw [nms_cons, List.mem_cons, not_or] at nk
    rw [List.cons_append, put, if_neg (fun z => nk.1 z.symm), ih nk.2]
    rfl
theorem nms_append {β : Type} (h g : List (Str × β)) : nms (h ++ g) = nms h ++ nms g := List.map_append
theorem put_fresh {β : Type} {h : List (Str × β)} {k : Str} {t : β} (nk : k ∉ nms h) : put h k t = h ++ [(k, t)] := by
  induction h with
  | nil => rfl
  | cons p r ih =>
    rw [nms_cons, List.mem_cons, not_or] at nk
    rw [put, if_neg (fun z => nk.1 z.symm), ih nk.2]
    rfl
/-- a list object that is no dict stands when a dict is changed -/
theorem sqL_dk {q p : Addr} {xs : List V} {es : List (Key × V)} {o : HO} (e : H q = some (.dK es)) (h : H p = some (.lst xs)) : (upd H q o) p = some (.lst xs) := by
  rw [upd_ne (ne_of h e (fun z => nomatch z))]
  exact h
theorem hlist_at {ss : List Str} {i : Nat} {x : V} (h : (ss.map V.str)[i]? = some x) : ∃ n, ss[i]? = some n ∧ x = .str n := srt_at h
/-- behind a lock of a: what H knew stands, a is locked -/
structure Lk1 (H : Hp) (a : Addr) (kvs : List (Key × V)) (od : Obj) (H1 : Hp) : Prop where
  keep : ∀ b o, H b = some o → b ≠ a → H1 b = some o
  at_ : H1 a = some (.frz od (.dK kvs))
section
variable {a : Addr} {kvs : List (Key × V)} {od : Obj} {H1 H2 Hl : Hp} {un : Hp → Hp}
theorem Lkd.l1 (l : Lkd H Hl a kvs od un) : Lk1 H a kvs od Hl := ⟨fun b o e n => by rw [l.el b n]; exact e, l.at_⟩
theorem Lk1.same (l : Lk1 H a kvs od H1) (s : Same H1 H2) : Lk1 H a kvs od H2 := ⟨fun b o e n => s _ _ (l.keep b o e n), s _ _ l.at_⟩
theorem Lk1.ne (l : Lk1 H a kvs od H1) (rd : Rd H a (.dK kvs)) {b : Addr} (e : H b = none) : b ≠ a := fun z => by
  rw [z] at e
  rcases rd with q | ⟨o, q⟩ <;> (rw [q] at e; cases e)
theorem Lk1.fresh (l : Lk1 H a kvs od H1) {b : Addr} (e : H1 b = none) : H b = none := by
  cases z : H b with
  | none => rfl
  | some o =>
    by_cases hb : b = a
    · rw [hb, l.at_] at e
      cases e
    · rw [l.keep b o z hb] at e
      cases e
theorem Lk1.upd (l : Lk1 H a kvs od H1) (rd : Rd H a (.dK kvs)) {q : Addr} {o : HO} (e : H q = none) : Lk1 H a kvs od (L2.upd H1 q o) := ⟨fun b u eb n => by
  rw [upd_ne (ne_of_none eb e)]
  exact l.keep b u eb n, by rw [upd_ne (l.ne rd e).symm]; exact l.at_⟩
theorem Lk1.rs (l : Lk1 H a kvs od H1) (rd : Rd H a (.dK kvs)) : RS H H1 := fun b u n h => by
  by_cases e : b = a
  · subst e
    rcases rd with z | ⟨o, z⟩
    · rcases h with h | ⟨o', h⟩
      · rw [z] at h
        cases h
        exact .inr ⟨od, l.at_⟩
      · rw [z] at h
        cases h
    · rcases h with h | ⟨o', h⟩
      · rw [z] at h
        cases h
        exact absurd rfl (n _ _)
      · rw [z] at h
        cases h
        exact .inr ⟨od, l.at_⟩
  · rcases h with h | ⟨o', h⟩
    · exact .inl (l.keep _ _ h e)
    · exact .inr ⟨o', l.keep _ _ h e⟩
theorem Lk1.out {Hz : Hp} (l : Lk1 H a kvs od H1) (k : Lkd Hz Hl a kvs od un) (s : Same H Hz) : Same H (un H1) := fun b o e => by
  by_cases h : b = a
  · subst h
    rw [k.back _ l.at_]
    exact s _ _ e
  · rw [k.un _ _ h]
    exact l.keep b o e h
end
end
section
variable {K : PySem.W.Frag} {σ : L2.St} {H : Hp} {D : Ends}
theorem for_keysS {d : Addr} {o : Obj} {kvs : List (Key × V)} {tb : TS} {j : Nat} (Pv : Nat → L2.St → Hp → Prop) (h0 : Pv 0 σ H) (hx : ∀ i σ H, i ≤ kvs.length → Pv i σ H → H d = some (.frz o (.dK kvs)))
    (hs : ∀ i k v σ H, kvs[i]? = some (k, v) → Pv i σ H → tb { D with nx := Pv (i + 1), ct := Pv (i + 1), bk := D.nx } (σ.set j (some (kV k))) H) (hd : ∀ σ H, Pv kvs.length σ H → D.nx σ H) : forB (Itk d o kvs) (gName j) tb D σ H :=
  for_any walk_keys Pv h0 hx (fun i x σ H H' _ p y => by
    obtain ⟨e, k, v, y, z⟩ := y
    subst e
    rw [z]
    exact hs i k v σ _ y p) hd
end
end TU

set_option Elab.async false
set_option linter.all false
set_option maxRecDepth 100000
namespace TU
open PySem PySem.Spec PyProof.Rows L2
section
variable {K : PySem.W.Frag} {H H' : Hp} {N P : Addr → Prop} {Q : VK} {a : Addr}
theorem q_dpop1 {td ty : TE} {σ : L2.St} (h : td σ H fun x H1 => ∃ a, x = .ref a ∧ IsD H1 a ∧ ty σ H1 fun y H2 => ∃ kvs k v, H2 a = some (.dK kvs) ∧ y = kV k ∧ valV kvs k = some v ∧ Q v (upd H2 a (.dK (dropK kvs k)))) : tDPop1 td ty σ H Q := h
theorem q_isiD {kvs : List (Key × V)} (h : Rd H a (.dK kvs)) (q : Q (.bl true) H) : rIsi K [.ref a, .ty "dict"] H Q := by
  refine ⟨.ref a, .ty "dict", .type "dict", .type "dict", true, rfl, .ty _, ?_, kit_ty (by decide +kernel), q⟩
  rcases h with e | ⟨o, e⟩
  · exact .base (.dK e)
  · exact .fDict e
theorem q_isiT {xs : List V} (h : SqT K H a xs) (q : Q (.bl true) H) : rIsi K [.ref a, .ty "tuple"] H Q := by
  refine ⟨.ref a, .ty "tuple", .type "tuple", .type "tuple", true, rfl, .ty _, ?_, kit_ty (by decide +kernel), q⟩
  rcases h with (e | ⟨o, e⟩) | ⟨o, its, n, e, c, _⟩
  · exact .base (.tup e)
  · exact .fTuple e
  · exact .kTuple e c
theorem q_isiL {xs : List V} (h : SqL K H a xs) (q : Q (.bl true) H) : rIsi K [.ref a, .ty "list"] H Q := by
  refine ⟨.ref a, .ty "list", .type "list", .type "list", true, rfl, .ty _, ?_, kit_ty (by decide +kernel), q⟩
  rcases h with (e | ⟨o, e⟩) | ⟨o, its, n, e, c, _⟩
  · exact .base (.lst e)
  · exact .base (.frz e)
  · exact .kList e c
theorem Ts.strs : ∀ (ss : List Str), Ts K H P (ss.map V.str) (ss.map Tr.str)
  | [] => .nil
  | s :: ss => .cons (.str s) (Ts.strs ss)
theorem nods_strs : ∀ (ss : List Str), nods (ss.map Tr.str) = true
  | [] => rfl
  | s :: ss => by
    rw [List.map_cons, nods, nods_strs ss]
    rfl
theorem deps_strs : ∀ (ss : List Str), deps (ss.map Tr.str) = 0
  | [] => rfl
  | s :: ss => by
    rw [List.map_cons, deps, deps_strs ss]
    rfl
theorem keysV {kvs : List (Key × V)} {ss : List Str} (e : kvs.map (·.1) = ss.map Sum.inr) : kvs.map (fun kv => kV kv.1) = ss.map V.str := by
  have : kvs.map (fun kv => kV kv.1) = (kvs.map (·.1)).map kV := by rw [List.map_map] <;> rfl
  rw [this, e, List.map_map]
  rfl
theorem q_neStrs {p q : Addr} {ss : List Str} (hp : SqL K H p (ss.map V.str)) (hq : SqL K H q (ss.map V.str)) (k : Q (.bl false) H) : rNeU K (.ref p) (.ref q) H Q := by
  have hn : nod (.lst (ss.map Tr.str)) = true := by
    rw [nod]
    exact nods_strs ss
  refine q_neT (P := fun _ => True) (.lst trivial hp (.strs ss)) (.lst trivial hq (.strs ss)) hn hn (by rw [dep, deps_strs]; decide) ?_
  rw [eqb_refl hn]
  exact k
theorem getD_mem : ∀ {ks : List (Key × Tr)} {p : Key × Tr}, (ks.map (·.1)).Nodup → p ∈ ks → getD ks p.1 = some p.2
  | [], _, _, h => nomatch h
  | x :: ks, p, nd, h => by
    have nd' := List.nodup_cons.mp nd
    rw [getD_cons]
    rcases List.mem_cons.mp h with e | h
    · rw [e, if_pos rfl]
    · have : ¬ x.1 = p.1 := fun z => nd'.1 (List.mem_map.mpr ⟨p, h, z.symm⟩)
      rw [if_neg this]
      exact getD_mem nd'.2 h
theorem eqk_refl {ks : List (Key × Tr)} (nd : (ks.map (·.1)).Nodup) (h : ∀ p ∈ ks, nod p.2 = true) : eqk ks ks = true := by
  unfold eqk
  rw [Bool.and_eq_true]
  refine ⟨by simp, List.all_eq_true.mpr fun p hp => ?_⟩
  rw [getD_mem nd hp]
  exact eqb_refl (h p hp)
theorem nd_tK {t : Tab} (nd : (nms t).Nodup) : ((tK t).map (·.1)).Nodup := by
  rw [keys_tK]
  exact List.Pairwise.map Sum.inr (fun a b h e => h (Sum.inr.inj e)) nd
theorem mem_tK {t : Tab} {p : Key × Tr} (h : p ∈ tK t) : ∃ q ∈ t, p.2 = q.2 := by
  obtain ⟨q, hq, e⟩ := List.mem_map.mp h
  exact ⟨q, hq, by rw [← e]⟩
theorem q_neTab {p q : Addr} {es fs : List (Key × V)} {t : Tab} {N1 N2 : Addr → Prop} (hp : Rd H p (.dK es)) (hq : Rd H q (.dK fs)) (t1 : Tk K H N1 es (tK t)) (t2 : Tk K H N2 fs (tK t)) (nd : (nms t).Nodup) (he : ∀ x ∈ t, nod x.2 = true ∧ dep x.2 ≤ 60) (k : Q (.bl false) H) : rNeU K (.ref p) (.ref q) H Q := by
  have h1 : ∀ x ∈ tK t, nod x.2 = true ∧ dep x.2 ≤ 60 := fun x hx => by
    obtain ⟨y, hy, e⟩ := mem_tK hx
    rw [e]
    exact he y hy
  refine q_neK (P := fun _ => True) hp hq (t1.imp fun _ _ => trivial) (t2.imp fun _ _ => trivial) h1 (fun x hx => (h1 x hx).1) ?_
  rw [eqk_refl (nd_tK nd) fun x hx => (h1 x hx).1]
  exact k
end
/-! ### entries that may be compared and shown; houses of such -/
def Sml (h : Hs) : Prop := ∀ p ∈ h, ∀ x ∈ p.2, dep x.2 ≤ 60
theorem Wf.ent {h : Hs} (w : Wf h) (s : Sml h) {p : Str × Tab} (hp : p ∈ h) : ∀ x ∈ p.2, nod x.2 = true ∧ dep x.2 ≤ 60 := fun x hx => ⟨nod_of_imm ((w.tab p hp).2 x hx), s p hp x hx⟩
def AscH (h : Hs) : Prop := ∀ p ∈ h, Asc (nms p.2)
theorem AscH.cp (h : Hs) : AscH (cpH h) := fun p hp => by
  obtain ⟨q, hq, rfl⟩ := List.mem_map.mp hp
  show Asc (nms (ord q.2))
  rw [nms_ord]
  exact srt_asc _
theorem cp_cp {h : Hs} (w : Wf h) : cpH (cpH h) = cpH h := by
  unfold cpH
  rw [List.map_map]
  refine List.map_congr_left fun p hp => ?_
  show (p.1, ord (ord p.2)) = (p.1, ord p.2)
  rw [ord_ord (w.tab p hp).1]
theorem ord_of_asc {t : Tab} (nd : (nms t).Nodup) (h : Asc (nms t)) : ord t = t := ext_lk (nd_ord nd) (by rw [nms_ord, srt_of_asc h]) fun x => lk_ord t x
end TU

set_option Elab.async false
set_option linter.all false
set_option maxRecDepth 100000
namespace TU
open PySem PySem.Spec PyProof.Rows L2
section
variable {K : PySem.W.Frag} {H H' : Hp} {N P : Addr → Prop} {Q : VK} {a : Addr}
theorem sq_ne {p q : Addr} {xs : List V} {o o' : HO} (h : H p = some (.lst xs)) (e : H q = some o) (n : o ≠ .lst xs) : (upd H q o') p = some (.lst xs) := by
  rw [upd_ne (ne_of h e (Ne.symm n))]
  exact h
theorem cutV_take {ss : List Str} {n : Nat} (h : n ≤ ss.length) : cutV (ss.map V.str) none (some (n : Int)) = (ss.take n).map V.str := by
  unfold cutV
  have e1 : HT.sIx (ss.map V.str).length 0 none = 0 := rfl
  have e2 : HT.sIx (ss.map V.str).length (ss.map V.str).length (some (n : Int)) = n := by
    unfold HT.sIx
    rw [List.length_map]
    have hn : ¬ (n : Int) < 0 := by omega
    simp [hn]
    omega
  rw [e1, e2, List.drop_zero, Nat.sub_zero, List.map_take]
/-- a place below 3, 5: which -/
theorem three {v : Int} (h0 : 0 ≤ v) (h1 : v < 3) : v = 0 ∨ v = 1 ∨ v = 2 := by omega
theorem atS {ss : List Str} {v : Int} (h0 : 0 ≤ v) (h1 : v < ss.length) : ∃ n ∈ ss, atI (ss.map V.str) v = some (.str n) := by
  obtain ⟨k, rfl⟩ : ∃ k : Nat, v = k := ⟨v.toNat, by omega⟩
  have hk : k < ss.length := by omega
  exact ⟨ss[k], List.getElem_mem hk, atI_nat (by rw [List.getElem?_map, List.getElem?_eq_getElem hk]; rfl)⟩
theorem Own.key {r : Addr} {h : Hs} (o : Own K N H r h) : ∃ kvs, H r = some (.dK kvs) ∧ kvs.map (·.1) = (nms h).map Sum.inr := by
  obtain ⟨qs, kvs, h1, h2, h3, h4⟩ := o.ex
  exact ⟨kvs, h1, h2.keys⟩
theorem Own.nr {r : Addr} {h : Hs} (o : Own K N H r h) : N r := by
  obtain ⟨qs, kvs, h1, h2, h3, h4⟩ := o.ex
  exact h4 r List.mem_cons_self
end
theorem Rnd.ja {H : Hp} {j a r : Addr} {p : Int} (R : Rnd H j a p) (e : H r = none) : r ≠ j ∧ r ≠ a := by
  obtain ⟨ns, h1, _⟩ := R.ex
  exact ⟨(ne_of_none h1 e).symm, (ne_of_none R.at_ e).symm⟩
theorem Kp.fresh {H H' : Hp} {a r : Addr} {o : HO} (k : Kp a H H') (ea : H' a = some o) (e : H' r = none) : H r = none := by
  cases z : H r with
  | none => rfl
  | some u =>
    by_cases h : r = a
    · rw [h, ea] at e
      cases e
    · rw [k r u h z] at e
      cases e
end TU

set_option Elab.async false
set_option linter.all false
set_option maxRecDepth 100000
namespace TU
open PySem PySem.Spec PyProof.Rows L2
theorem atI_last {xs : List V} {u : V} : atI (xs ++ [u]) (((xs ++ [u]).length : Int) - 1) = some u := by
  have e : (((xs ++ [u]).length : Int) - 1) = (xs.length : Nat) := by
    rw [List.length_append]
    show ((xs.length + 1 : Nat) : Int) - 1 = _
    omega
  rw [e]
  exact atI_nat (List.getElem?_concat_length ..)
/-- a test of two halves, its end written once -/
theorem q_two {σ : L2.St} {H : Hp} {p : Prop} [Decidable p] {c : TT} {R : Bool → Hp → Prop} {PP : Bool → Prop} (hR : ∀ b, PP b → R b H) (h1 : p → ∃ b, PP b ∧ (R b H → c σ H R)) (h2 : ¬ p → PP false) : if decide p = true then c σ H R else R false H := by
  by_cases h : p
  · obtain ⟨b, x, y⟩ := h1 h
    rw [decide_eq_true h]
    exact q_t (y (hR b x))
  · rw [decide_eq_false h]
    exact q_f (hR false (h2 h))
theorem lk_cp : ∀ (h : Hs) (x : Str), lk (cpH h) x = (lk h x).map ord
  | [], x => rfl
  | p :: r, x => by
    show lk ((p.1, ord p.2) :: cpH r) x = _
    rw [lk_cons, lk_cons, lk_cp r x]
    by_cases e : p.1 = x
    · rw [if_pos e, if_pos e]
      rfl
    · rw [if_neg e, if_neg e]
theorem cp_eq {g g' : Hs} (nd : (nms g).Nodup) (hn : nms g = nms g') (he : ∀ x, (lk g x).map ord = (lk g' x).map ord) : cpH g = cpH g' :=
  ext_lk (by rw [nms_cp]; exact nd) (by rw [nms_cp, nms_cp]; exact hn) fun x => by rw [lk_cp, lk_cp]; exact he x
theorem cp_lk {g g' : Hs} (h : cpH g = cpH g') {k : Str} {t : Tab} (e : lk g k = some t) : ∃ t', lk g' k = some t' ∧ ord t = ord t' := by
  have := lk_cp g' k
  rw [← h, lk_cp g k, e] at this
  cases q : lk g' k with
  | none =>
    rw [q] at this
    cases this
  | some t' =>
    rw [q] at this
    exact ⟨t', rfl, Option.some.inj this⟩
theorem cp_no {g g' : Hs} (h : cpH g = cpH g') {k : Str} (e : lk g k = none) : lk g' k = none := by
  cases q : lk g' k with
  | none => rfl
  | some t' =>
    obtain ⟨t, e2, _⟩ := cp_lk h.symm q
    rw [e] at e2
    cases e2
theorem cp_nms {g g' : Hs} (h : cpH g = cpH g') : nms g = nms g' := by rw [← nms_cp g, h, nms_cp]
theorem ord_lk {t t' : Tab} (h : ord t = ord t') (x : Str) : lk t x = lk t' x := by rw [← lk_ord t, h, lk_ord]
theorem lk_mem_nms {β : Type} {l : List (Str × β)} {n : Str} (h : n ∈ nms l) : ∃ d, lk l n = some d := by
  cases e : lk l n with
  | none => exact absurd h (lk_none.mp e)
  | some d => exact ⟨d, rfl⟩
theorem mem_of_ord {t t' : Tab} (h : ord t = ord t') {n : Str} (m : n ∈ nms t) : n ∈ nms t' := by
  obtain ⟨d, e⟩ := lk_mem_nms m
  rw [ord_lk h] at e
  exact mem_nms (lk_mem e)
theorem cp_put {g g' : Hs} (w : Wf g) (h : cpH g = cpH g') {k : Str} {t t' u u' : Tab} (e : lk g k = some t) (e' : lk g' k = some t') (hu : ord u = ord u') : cpH (put g k u) = cpH (put g' k u') := by
  have m : k ∈ nms g := mem_nms (lk_mem e)
  have m' : k ∈ nms g' := mem_nms (lk_mem e')
  refine cp_eq (by rw [nms_put_of m]; exact w.nd) (by rw [nms_put_of m, nms_put_of m', cp_nms h]) fun x => ?_
  rw [lk_put, lk_put]
  by_cases c : x = k
  · rw [if_pos c, if_pos c]
    exact congrArg some hu
  · rw [if_neg c, if_neg c, ← lk_cp, ← lk_cp, h]
theorem app1_cp {g g' h : Hs} {e : Ed} (w : Wf g) (w' : Wf g') (hc : cpH g = cpH g') (ha : app1 g e = .ok h) : ∃ h', app1 g' e = .ok h' ∧ cpH h = cpH h' := by
  cases q : lk g e.key with
  | none =>
    simp only [app1, q] at ha
    cases ha
  | some t =>
    obtain ⟨t', q', ho⟩ := cp_lk hc q
    have wt := w.tab _ (lk_mem q)
    have wt' := w'.tab _ (lk_mem q')
    cases e with
    | put k n x =>
      simp only [app1, q] at ha
      cases ha
      refine ⟨put g' k (put t' n x), by simp only [app1, q'], cp_put w hc q q' (ord_perm (nd_put wt.1 _ _) (nd_put wt'.1 _ _) fun y => ?_)⟩
      rw [lk_put, lk_put, ord_lk ho]
    | drop k n =>
      by_cases hn : n ∈ nms t
      · simp only [app1, q, if_pos hn] at ha
        cases ha
        refine ⟨put g' k (del t' n), by simp only [app1, q', if_pos (mem_of_ord ho hn)], cp_put w hc q q' (ord_perm (nd_del wt.1 _) (nd_del wt'.1 _) fun y => ?_)⟩
        rw [lk_del wt.1, lk_del wt'.1, ord_lk ho]
      · simp only [app1, q, if_neg hn] at ha
        cases ha
theorem app1_err {g : Hs} {e : Ed} {x : Str × Str} (w : Wf g) (ha : app1 g e = .error x) : app1 (cpH g) e = .error x := by
  cases q : app1 (cpH g) e with
  | ok h =>
    obtain ⟨h', q2, _⟩ := app1_cp w.cp w (cp_cp w) q
    rw [ha] at q2
    cases q2
  | error y =>
    cases e1 : lk g e.key with
    | none =>
      simp only [app1, lk_cp, e1, Option.map] at ha q
      rw [← ha, ← q]
    | some t =>
      cases e with
      | put k n d =>
        simp only [app1, e1] at ha
        cases ha
      | drop k n =>
        simp only [app1, e1] at ha
        simp only [app1, lk_cp, e1, Option.map] at q
        split at ha
        · cases ha
        · split at q
          · cases q
          · rw [← ha, ← q]
theorem inv1_cp {g g' : Hs} {e : Ed} (hc : cpH g = cpH g') : inv1 g e = inv1 g' e := by
  cases q : lk g e.key with
  | none => simp only [inv1, q, cp_no hc q]
  | some t =>
    obtain ⟨t', q', ho⟩ := cp_lk hc q
    simp only [inv1, q, q', ord_lk ho]
theorem app1_wf {h h' : Hs} {e : Ed} (w : Wf h) (im : e.Imm) (ha : app1 h e = .ok h') : Wf h' ∧ nms h' = nms h := by
  have f : ∃ n, Fits n h := by
    clear w im ha h' e
    induction h with
    | nil => exact ⟨0, fun p hp => nomatch hp⟩
    | cons p r ih =>
      obtain ⟨n, f⟩ := ih
      refine ⟨max n p.2.length, fun q hq => ?_⟩
      rcases List.mem_cons.mp hq with e | m
      · rw [e]
        exact Nat.le_max_right _ _
      · exact Nat.le_trans (f q m) (Nat.le_max_left _ _)
  obtain ⟨n, f⟩ := f
  obtain ⟨a, _, b⟩ := app1_ok w im f ha
  exact ⟨a, b⟩
/-- one edit and what leads back from it -/
theorem undo1 {g h : Hs} {e : Ed} (w : Wf g) (ha : app1 g e = .ok h) : ∃ r, app1 h (inv1 g e) = .ok r ∧ cpH r = cpH g := by
  cases q : lk g e.key with
  | none =>
    simp only [app1, q] at ha
    cases ha
  | some t =>
    have wt := w.tab _ (lk_mem q)
    have m : e.key ∈ nms g := mem_nms (lk_mem q)
    obtain ⟨t1, rfl, nd1, ht1⟩ : ∃ t1, h = put g e.key t1 ∧ (nms t1).Nodup ∧ ∀ x, x ≠ e.name → lk t1 x = lk t x := by
      cases e with
      | put k n x =>
        simp only [app1, q] at ha
        cases ha
        exact ⟨_, rfl, nd_put wt.1 _ _, fun y hy => by rw [lk_put]; exact if_neg hy⟩
      | drop k n =>
        by_cases hn : n ∈ nms t
        · simp only [app1, q, if_pos hn] at ha
          cases ha
          exact ⟨_, rfl, nd_del wt.1 _, fun y hy => by rw [lk_del wt.1]; exact if_neg hy⟩
        · simp only [app1, q, if_neg hn] at ha
          cases ha
    have lh : lk (put g e.key t1) e.key = some t1 := by rw [lk_put, if_pos rfl]
    have key : ∀ u, ord u = ord t → cpH (put (put g e.key t1) e.key u) = cpH g := fun u hu => by
      have m2 : e.key ∈ nms (put g e.key t1) := mem_nms (lk_mem lh)
      refine cp_eq (by rw [nms_put_of m2, nms_put_of m]; exact w.nd) (by rw [nms_put_of m2, nms_put_of m]) fun x => ?_
      rw [lk_put, lk_put]
      by_cases c : x = e.key
      · rw [if_pos c, c, q]
        exact congrArg some hu
      · rw [if_neg c, if_neg c]
    cases q2 : lk t e.name with
    | some d =>
      have hi : inv1 g e = .put e.key e.name d := by simp only [inv1, q, q2]
      refine ⟨_, ?_, key (put t1 e.name d) (ord_perm (nd_put nd1 _ _) wt.1 fun x => ?_)⟩
      · rw [hi]
        unfold app1
        rw [show (Ed.put e.key e.name d).key = e.key from rfl, lh]
      · rw [lk_put]
        by_cases c : x = e.name
        · rw [if_pos c, c, q2]
        · rw [if_neg c, ht1 x c]
    | none =>
      have hi : inv1 g e = .drop e.key e.name := by simp only [inv1, q, q2]
      have hin : e.name ∈ nms t1 := by
        cases e with
        | put k n x =>
          simp only [app1, q] at ha
          have e1 : put g k (put t n x) = put g k t1 := Except.ok.inj ha
          have e2 : lk (put g k (put t n x)) k = lk (put g k t1) k := by rw [e1]
          rw [lk_put, lk_put, if_pos rfl, if_pos rfl] at e2
          rw [← Option.some.inj e2]
          exact mem_nms (lk_mem (v := x) (by rw [lk_put]; exact if_pos rfl))
        | drop k n =>
          have hn : n ∉ nms t := lk_none.mp q2
          simp only [app1, q, if_neg hn] at ha
          cases ha
      refine ⟨_, ?_, key (del t1 e.name) (ord_perm (nd_del nd1 _) wt.1 fun x => ?_)⟩
      · rw [hi]
        unfold app1
        rw [show (Ed.drop e.key e.name).key = e.key from rfl, lh]
        exact if_pos hin
      · rw [lk_del nd1]
        by_cases c : x = e.name
        · rw [if_pos c, c, q2]
        · rw [if_neg c, ht1 x c]
theorem appAll_cp : ∀ {es : List Ed} {g g' h : Hs}, (∀ e ∈ es, e.Imm) → Wf g → Wf g' → cpH g = cpH g' → appAll g es = .ok h → ∃ h', appAll g' es = .ok h' ∧ cpH h = cpH h'
  | [], g, g', h, im, w, w', hc, ha => by
    cases ha
    exact ⟨g', rfl, hc⟩
  | e :: es, g, g', h, im, w, w', hc, ha => by
    rw [appAll_cons] at ha
    cases q : app1 g e with
    | error x =>
      rw [q] at ha
      cases ha
    | ok g1 =>
      rw [q] at ha
      obtain ⟨g2, q2, hc2⟩ := app1_cp w w' hc q
      have im1 := im e List.mem_cons_self
      obtain ⟨h', a, b⟩ := appAll_cp (fun x hx => im x (List.mem_cons_of_mem _ hx)) (app1_wf w im1 q).1 (app1_wf w' im1 q2).1 hc2 ha
      exact ⟨h', by rw [appAll_cons, q2]; exact a, b⟩
theorem appAll_wf : ∀ {es : List Ed} {g h : Hs}, (∀ e ∈ es, e.Imm) → Wf g → appAll g es = .ok h → Wf h ∧ nms h = nms g
  | [], g, h, im, w, ha => by
    cases ha
    exact ⟨w, rfl⟩
  | e :: es, g, h, im, w, ha => by
    rw [appAll_cons] at ha
    cases q : app1 g e with
    | error x =>
      rw [q] at ha
      cases ha
    | ok g1 =>
      rw [q] at ha
      obtain ⟨w1, n1⟩ := app1_wf w (im e List.mem_cons_self) q
      obtain ⟨w2, n2⟩ := appAll_wf (fun x hx => im x (List.mem_cons_of_mem _ hx)) w1 ha
      exact ⟨w2, n2.trans n1⟩
theorem invs_imm : ∀ {es : List Ed} {g : Hs}, (∀ e ∈ es, e.Imm) → Wf g → ∀ e ∈ invs g es, e.Imm
  | [], g, im, w, e, he => nomatch he
  | e :: es, g, im, w, x, hx => by
    unfold invs at hx
    rcases List.mem_cons.mp hx with rfl | hx
    · exact inv1_imm w e
    · cases q : app1 g e with
      | error z =>
        rw [q] at hx
        cases hx
      | ok g1 =>
        rw [q] at hx
        exact invs_imm (fun x hx => im x (List.mem_cons_of_mem _ hx)) (app1_wf w (im e List.mem_cons_self) q).1 x hx
theorem invs_cp : ∀ {es : List Ed} {g g' h : Hs}, (∀ e ∈ es, e.Imm) → Wf g → Wf g' → cpH g = cpH g' → appAll g es = .ok h → invs g es = invs g' es
  | [], g, g', h, im, w, w', hc, ha => rfl
  | e :: es, g, g', h, im, w, w', hc, ha => by
    rw [appAll_cons] at ha
    cases q : app1 g e with
    | error x =>
      rw [q] at ha
      cases ha
    | ok g1 =>
      rw [q] at ha
      obtain ⟨g2, q2, hc2⟩ := app1_cp w w' hc q
      have im1 := im e List.mem_cons_self
      have := invs_cp (fun x hx => im x (List.mem_cons_of_mem _ hx)) (app1_wf w im1 q).1 (app1_wf w' im1 q2).1 hc2 ha
      unfold invs
      rw [q, q2, inv1_cp hc]
      exact congrArg _ this
/-- all the edits, and all that lead back -/
theorem undoAll : ∀ {es : List Ed} {g h : Hs}, (∀ e ∈ es, e.Imm) → Wf g → appAll g es = .ok h → ∃ r, appAll h (invs g es).reverse = .ok r ∧ cpH r = cpH g
  | [], g, h, im, w, ha => by
    cases ha
    exact ⟨g, rfl, rfl⟩
  | e :: es, g, h, im, w, ha => by
    rw [appAll_cons] at ha
    cases q : app1 g e with
    | error x =>
      rw [q] at ha
      cases ha
    | ok g1 =>
      rw [q] at ha
      have im1 := im e List.mem_cons_self
      have ims : ∀ x ∈ es, x.Imm := fun x hx => im x (List.mem_cons_of_mem _ hx)
      have w1 := (app1_wf w im1 q).1
      obtain ⟨r1, a1, b1⟩ := undoAll ims w1 ha
      obtain ⟨r2, a2, b2⟩ := undo1 w q
      have wh := (appAll_wf ims w1 ha).1
      have wr1 : Wf r1 := (appAll_wf (fun x hx => invs_imm ims w1 x (List.mem_reverse.mp hx)) wh a1).1
      obtain ⟨r3, a3, b3⟩ := app1_cp w1 wr1 b1.symm a2
      refine ⟨r3, ?_, b3.symm.trans b2⟩
      have hi : invs g (e :: es) = inv1 g e :: invs g1 es := by
        conv => lhs; unfold invs
        rw [q]
      rw [hi, List.reverse_cons, appAll_append, a1]
      exact (appAll_one r1 _).trans a3
end TU

set_option Elab.async false
set_option linter.all false
set_option maxRecDepth 100000
namespace TU
open PySem PySem.Spec PyProof.Rows L2
/-- except Unknown as error: return (error.what, error.name) -/
theorem catchU {K : PySem.W.Frag} {C : Addr} {w n : Str} {i : Nat} {Wout : WX} {D : Ends} {σ : L2.St} {H1 : Hp} (te : PySem.W.exmOne K (.ref C) (.ref C) = some true) (hi : i < σ.length) (h : ∀ p H', Same H1 H' → H' p = some (.tup [.str w, .str n]) → D.rt (.ref p) H') :
    XUnk C w n H1 (WE (wAs K (.ref C) i (fun a cls d => tRet (tTup (tCons (tXf a cls d C "what" (tVar i)) (tCons (tXf a cls d C "name" (tVar i)) tNil)))) Wout D) σ) := by
  intro d H' s e
  refine ⟨true, te, fun _ a ha => ?_, fun z => by cases z⟩
  have hv : (σ.set i (some (V.ref a)))[i]? = some (some (V.ref a)) := by
    rw [List.getElem?_set_self hi]
  refine q_ret (q_tup (q_cons ?_))
  refine ⟨_, hv, rfl, rfl, d, _, .str w, rfl, e, rfl, ?_⟩
  refine q_cons ⟨_, hv, rfl, rfl, d, _, .str n, rfl, e, rfl, ?_⟩
  refine q_nil (q_size (show 2 ≤ 1000 by decide) fun p hp => ?_)
  exact h p _ (s.trans (same_new hp)) upd_same
theorem last_of {K : PySem.W.Frag} {H : Hp} {N : Addr → Prop} {xs : List V} {es : List Ed} (t : Ts K H N xs (es.map Ed.tr)) (h : 1 ≤ es.length) : ∃ u e, atI xs ((xs.length : Int) - 1) = some u ∧ es.getLast? = some e ∧ T K H N u e.tr := by
  have hl : xs.length = es.length := by rw [t.length, List.length_map]
  have hk : xs.length - 1 < xs.length := by omega
  have hu := List.getElem?_eq_getElem hk
  obtain ⟨d, g1, g2⟩ := t.gets hu
  obtain ⟨e, he, rfl⟩ := map_at g1
  refine ⟨_, e, ?_, ?_, g2⟩
  · have e1 : ((xs.length : Int) - 1) = (xs.length - 1 : Nat) := by omega
    rw [e1]
    exact atI_nat hu
  · rw [List.getLast?_eq_getElem?, ← hl]
    exact he
/-- the error that one call raises, as a pair; ("", "") where none -/
def refOf (h : Hs) (es : List Ed) (how : Int) : Str × Str :=
  if how = 0 ∨ how = 1 then (match appAll (cpH h) es with | .ok _ => ("", "") | .error x => x)
  else if how = 2 ∨ how = 3 then (match es.getLast? with | none => ("", "") | some e => (match app1 (cpH h) e with | .ok _ => ("", "") | .error x => x))
  else (if (lk h "x9").isSome = true then ("", "") else ("table", "x9"))

theorem q_neP {K : PySem.W.Frag} {H : Hp} {Q : VK} {p q : Addr} {a b : Str} (hp : SqT K H p [.str a, .str b]) (hq : SqT K H q [.str a, .str b]) (k : Q (.bl false) H) : rNeU K (.ref p) (.ref q) H Q := by
  refine q_neT (P := ff) (d := .tup [.str a, .str b]) (e := .tup [.str a, .str b]) (.tup hp (.cons (.str _) (.cons (.str _) .nil))) (.tup hq (.cons (.str _) (.cons (.str _) .nil))) rfl rfl (show (1 : Nat) ≤ 60 by decide) ?_
  rw [eqb_refl rfl]
  exact k
theorem q_eqP {K : PySem.W.Frag} {H : Hp} {Q : VK} {p q : Addr} {a b : Str} (hp : SqT K H p [.str a, .str b]) (hq : SqT K H q [.str a, .str b]) (k : Q (.bl true) H) : rEqU K (.ref p) (.ref q) H Q := by
  refine q_eqT (P := ff) (d := .tup [.str a, .str b]) (e := .tup [.str a, .str b]) (.tup hp (.cons (.str _) (.cons (.str _) .nil))) (.tup hq (.cons (.str _) (.cons (.str _) .nil))) rfl rfl (show (1 : Nat) ≤ 60 by decide) ?_
  rw [eqb_refl rfl]
  exact k
/-- all names are of a list -/
def Nam (L : List Str) (h : Hs) : Prop := ∀ q ∈ h, ∀ x ∈ q.2, x.1 ∈ L
theorem Nam.cp {L : List Str} {h : Hs} (n : Nam L h) : Nam L (cpH h) := fun q hq x hx => by
  obtain ⟨p, hp, rfl⟩ := List.mem_map.mp hq
  have m : x.1 ∈ nms (ord p.2) := mem_nms hx
  rw [nms_ord] at m
  obtain ⟨y, hy, e⟩ := List.mem_map.mp ((srt_perm _).mem_iff.mp m)
  rw [← e]
  exact n p hp y hy
theorem app1_nam {L : List Str} {h h' : Hs} {e : Ed} (n : Nam L h) (hn : e.name ∈ L) (ha : app1 h e = .ok h') : Nam L h' := by
  cases q : lk h e.key with
  | none =>
    simp only [app1, q] at ha
    cases ha
  | some t =>
    have hm := lk_mem q
    cases e with
    | put k m d =>
      simp only [app1, q] at ha
      cases ha
      intro p hp x hx
      rcases mem_put hp with c | c
      · exact n p c x hx
      · rw [c] at hx
        rcases mem_put hx with c2 | c2
        · exact n _ hm x c2
        · rw [c2]
          exact hn
    | drop k m =>
      by_cases hin : m ∈ nms t
      · simp only [app1, q, if_pos hin] at ha
        cases ha
        intro p hp x hx
        rcases mem_put hp with c | c
        · exact n p c x hx
        · rw [c] at hx
          exact n _ hm x (mem_del hx)
      · simp only [app1, q, if_neg hin] at ha
        cases ha
theorem appAll_nam {L : List Str} : ∀ {es : List Ed} {h h' : Hs}, Nam L h → (∀ e ∈ es, e.name ∈ L) → appAll h es = .ok h' → Nam L h'
  | [], h, h', n, hn, ha => by
    cases ha
    exact n
  | e :: es, h, h', n, hn, ha => by
    rw [appAll_cons] at ha
    cases q : app1 h e with
    | error x =>
      rw [q] at ha
      cases ha
    | ok h1 =>
      rw [q] at ha
      exact appAll_nam (app1_nam n (hn e List.mem_cons_self) q) (fun x hx => hn x (List.mem_cons_of_mem _ hx)) ha
theorem app1_tab {h : Hs} {e : Ed} (m : e.key ∉ nms h) : app1 h e = .error ("table", e.key) := by
  have q := lk_none.mpr m
  simp only [app1, q]
theorem app1_drop {L : List Str} {h : Hs} {k n : Str} (m : k ∈ nms h) (nm : Nam L h) (hn : n ∉ L) : app1 h (.drop k n) = .error (k, n) := by
  obtain ⟨t, q⟩ := lk_mem_nms m
  have c : n ∉ nms t := fun z => by
    obtain ⟨x, hx, e⟩ := List.mem_map.mp z
    rw [← e] at hn
    exact hn (nm _ (lk_mem q) x hx)
  unfold app1
  rw [show (Ed.drop k n).key = k from rfl, q]
  exact if_neg c
theorem ref_how {h f : Hs} {es : List Ed} {e : Ed} {x : Str × Str} {how : Nat} (ha : appAll (cpH h) es = .ok f) (hf : app1 f e = .error x) (hh : app1 (cpH h) e = .error x) (hw : how < 4) : refOf h (es ++ [e]) (0 + how) = x := by
  unfold refOf
  by_cases c : ((0 : Int) + how = 0 ∨ (0 : Int) + how = 1)
  · rw [if_pos c, appAll_append, ha]
    show (match appAll f [e] with | .ok _ => ("", "") | .error x => x) = x
    rw [appAll_one, hf]
  · rw [if_neg c, if_pos (by omega), List.getLast?_concat]
    simp only [hh]
end TU

set_option Elab.async false
set_option linter.all false
set_option maxRecDepth 100000
namespace TU
open PySem PySem.Spec PyProof.Rows L2
/-! ### the outermost call: there no repr runs, so that its guards are known -/
def TopOk (P : Program) (w : World) (K : PySem.W.Frag) (mg : Str → Option Value) (base : Heap) (fa : Addr) (sp : Sp) : Prop := ∀ (z : Shared) (G : Hp) (a : Addr) (Q : VK) (E : XK), Env0 P w K mg base callerA [] z G → sp [.ref a] G Q E →
  codeAny (model P w) callerA (.call (.ref fa) ⟨[.ref a], []⟩) (CR (L2.CX P w) [] P w G z Q E) z
theorem top_ok {P : Program} {w : World} {K : PySem.W.Frag} {mg : Str → Option Value} {base : Heap} {x y : Str} {st : Stmt} {N : List Str} {k : Nat} {sp : Sp} (F : TopF K mg x st [y]) (S : FnScope N [y] (defScope st)) (hr : Room (k + 1) callerA)
    (hbody : ∀ (f : Addr) (cdv : Value) (A : Around) (s : Shared) (H : Hp) (vs : List V) (Q : VK) (E : XK), A.guards = some [] → Room k (A.deeper (envOfC x (defScope st) s.heap.objs.size f cdv)) → sp vs H Q E →
      ∃ t, PSs (cxOf (L2.CX P w) P w K mg base N x (defScope st) f cdv A [] s H E) (defBody st) t ∧ t { nx := fun _ H' => Q .non H', rt := Q } (L2.start N vs) H) : ∃ fa, mg x = some (.ref fa) ∧ TopOk P w K mg base fa sp := by
  obtain ⟨f, fd, F0, hm, hb⟩ := F.ex
  obtain ⟨oc, od, kV, doc, pm, an, cdv, ct, osl, rfl, lk, hcd⟩ := F0.ex
  refine ⟨f, hm, fun z G a Q E e0 h => ?_⟩
  have old := fun b o e => (e0.bs b o e).1
  have kin := e0.mod.kin.keeps old
  have fit : ∀ p ∈ [y].zip [Value.ref a], (defScope st).names.lookup p.1 = some .local ∨ ((defScope st).names.lookup p.1 = some .cell ∧ ((cellsFrom (z.heap.objs.size + 1) (defScope st).names []).lookup p.1).isSome = true) := by
    rintro ⟨n, v⟩ m
    exact (S.par n (List.of_mem_zip m).1).imp id fun q => ⟨q, PySem.W.cellsFrom_some _ _ _ (.inl q)⟩
  refine codeAny_call_function hr.depth (kin _ _ lk) rfl S.co S.gen rfl (PySem.W.codeRec_of kin hcd) ?_
  refine hb z [.ref a] kin rfl _ _ _ _ ?_
  refine wpAny_newFunctionEnv_cells S.kind fit fun env he z1 x1 => ?_
  subst he
  refine ⟨(e0.mod.nolimit.keeps old).keeps x1.toInCall.keep, codeAny_func ?_⟩
  obtain ⟨t, ht, hq⟩ := hbody f cdv callerA z G [.ref a] Q E rfl (hr.deeper _) h
  refine wpAny_mono (ht.run [] z1 (L2.start N [.ref a]) G _ (inv_start S hr.hd e0 rfl (.cons rfl .nil) x1) hq) (fun fl z2 hs => ?_) fun _ _ hs => hs
  cases fl with
  | ret u =>
    obtain ⟨v, _, G2, J, rv, q⟩ := hs
    exact ⟨v, G2, J.os, J.bare, J.base, J.hok, rv, q⟩
  | next =>
    obtain ⟨_, G2, J, q⟩ := hs
    exact ⟨.non, G2, J.os, J.bare, J.base, J.hok, rfl, q⟩
  | brk => exact hs.elim fun _ r => r.elim fun _ r => r.2.elim
  | cont => exact hs.elim fun _ r => r.elim fun _ r => r.2.elim
/-- a law's promise: True of a list of up to 63 numbers -/
def spLaw (K : PySem.W.Frag) : Sp := fun vs H Q _ => ∃ (a : Addr) (ns : List Int), vs = [.ref a] ∧ SqL K H a (ns.map V.int) ∧ ns.length ≤ 63 ∧ ∀ H', Q (.bl true) H'
theorem top_walk {l : PySem.W.OpenLaw} {q : Program} {loose : List Str} {XP : (Str → Option Value) → Heap → Prop} {YP : World → Heap → Prop} {d : DefRec} {K : Params → PySem.W.Frag} (hn : l.most = some 63) (hdf : d.params.defaults = [])
    (hY : ∀ (w : World) (h : Heap), YP w h → (K w.params).In h)
    (F : ∀ (w : World) (mg : Str → Option Value) (fa : Addr) (h : Heap), (K w.params).In h → h.Ns mainGlobals mg → mg d.name = some (.ref fa) →
      ∀ base : Heap, (K w.params).In base → base.Ns mainGlobals mg → TopOk l.prog w (K w.params) mg base fa (spLaw (K w.params))) :
    PySem.W.WalkO q loose XP YP l.row.toRowW d [] (fun f vs => PySem.call f vs) := by
  refine Att.attach_call hn hdf fun w z0 z mg mb fa o pm cd doc a vs ns G Y ho hd hcd hmg hobj hints hlen hg => ?_
  have kin := hY w _ Y
  have size : ns.length ≤ sizeLine := Nat.le_trans hlen (by decide)
  have rel := vals_ints hints
  have obj : ObjOk l.prog w (fun b => if b = a then some (HO.frz { cls := .type "list", data := .seq vs.toArray } (.lst (ns.map V.int))) else none) z.heap a (.frz { cls := .type "list", data := .seq vs.toArray } (.lst (ns.map V.int))) := ⟨hobj, by rw [List.length_map]; exact size, vs, _, rel, hobj⟩
  -- the tracked heap: the script alone, or nothing where the module knows it
  obtain ⟨T, t1, t2, t3, t4⟩ : ∃ T : Hp, SqL (K w.params) T a (ns.map V.int) ∧ HOk l.prog w T z.heap ∧ (∀ b u, T b = some u → b = a ∧ ∃ o xs, u = .frz o (.lst xs)) ∧ (T a ≠ none → (K w.params).lookup a = none) := by
    cases lk : (K w.params).lookup a with
    | none =>
      refine ⟨fun b => if b = a then some (HO.frz { cls := .type "list", data := .seq vs.toArray } (.lst (ns.map V.int))) else none, .inl (.inr ⟨{ cls := .type "list", data := .seq vs.toArray }, if_pos rfl⟩), fun b u e => ?_, fun b u e => ?_, fun _ => rfl⟩
      all_goals
        by_cases c : b = a
        · have e2 := (if_pos c).symm.trans e
          cases e2
          subst c
          first | exact obj | exact ⟨rfl, _, _, rfl⟩
        · have e2 := (if_neg c).symm.trans e
          cases e2
    | some u =>
      have e := kin a u lk
      rw [hobj] at e
      cases e
      exact ⟨fun _ => none, .inr ⟨_, vs.toArray, _, lk, rfl, rfl, rfl, by rw [List.size_toArray, hints.length]; exact size, by simpa using rel⟩, (fun _ _ e => nomatch e), (fun _ _ e => nomatch e), fun c => absurd rfl c⟩
  have dic : ∀ {b : Addr} {ob : Obj} {es : Array DictEntry} {n : Nat}, z.heap.get? b = some ob → ob.data = .dict es n → T b = none := fun {b ob es n} e1 e2 => by
    cases c : T b with
    | none => rfl
    | some u =>
      have e3 := (t3 b u c).1
      subst e3
      rw [hobj] at e1
      cases e1
      exact nomatch e2
  have ns1 : ∀ {b : Addr} {m : Str → Option Value}, z.heap.Ns b m → (hidT z.heap T).Ns b m := fun ⟨ob, es, n, e1, e2, r⟩ => ⟨ob, es, n, hidT_get e1 (dic e1 e2), e2, r⟩
  have kin1 : (K w.params).In (hidT z.heap T) := fun b ob e => hidT_get (kin b ob e) (by
    cases c : T b with
    | none => rfl
    | some u =>
      have e3 := (t3 b u c).1
      subst e3
      rw [t4 (by rw [c]; exact fun z => nomatch z)] at e
      cases e)
  have env : Env0 l.prog w (K w.params) mg (hidT z.heap T) callerA [] z T := by
    refine ⟨rfl, ⟨kin1, ns1 G.T.g, ⟨mb, ns1 G.T.b, G.T.builtins⟩, ?_⟩, fun b ob e => of_hidT e, Nat.le_of_eq (hidT_size _ _), trivial, (fun b m => nomatch (show b ∈ ([] : List Addr) from m)), t2, .of_eq hg⟩
    obtain ⟨mc, h1, h2⟩ := G.T.nolimit
    exact ⟨mc, ns1 h1, h2⟩
  refine codeAny_mono (F w mg fa _ kin G.T.g hmg _ kin1 (ns1 G.T.g) z T a (fun v _ => v = .bl true) (fun _ _ _ => False) env ⟨a, ns, rfl, t1, hlen, fun _ => rfl⟩) fun r z2 hr => ?_
  match r, hr with
  | .error e, hr => exact False.elim (by
      obtain ⟨_, _, _, _, _, _, _, _, _, _, _, _, x⟩ := hr
      exact x)
  | .ok .next, hr => exact hr.elim
  | .ok .brk, hr => exact hr.elim
  | .ok .cont, hr => exact hr.elim
  | .ok (.ret u), ⟨v, T2, os, bare, un, ok2, rv, hv⟩ =>
    have hv2 : v = .bl true := hv
    subst hv2
    have e : u = Value.bool true := rv
    subst e
    refine ⟨rfl, OldK.of_keep fun b ob e => ?_, os, bare⟩
    cases c : T b with
    | none => exact un.keep b ob e c (fun m => nomatch (show b ∈ ([] : List Addr) from m)) (fun m => nomatch (show b ∈ ([] : List Addr) from m))
    | some u =>
      obtain ⟨_, o2, xs, rfl⟩ := t3 b u c
      obtain ⟨g1, _⟩ := t2 b _ c
      obtain ⟨g2, _⟩ := ok2 b _ (un.frzs b o2 _ c)
      rw [e] at g1
      cases g1
      exact g2
end TU

set_option Elab.async false
set_option linter.all false
set_option maxRecDepth 100000
namespace TU
open PySem PySem.Spec PyProof.Rows L2
/-! ### what repr shows, and how long that may be -/
/-- of size n, depth m; j: no list within -/
structure Vw (n m : Nat) (j : Bool) (d : Tr) : Prop where
  sh : (py d).showable = true
  sl : (py d).leavesShort 13 = true
  bk : (py d).bulk ≤ n
  dp : dep d ≤ m
  nl : j = true → nol d = true
theorem Vw.le {n m n' m' : Nat} {j : Bool} {d : Tr} (v : Vw n m j d) (h : n ≤ n') (h' : m ≤ m') : Vw n' m' j d := ⟨v.sh, v.sl, Nat.le_trans v.bk h, Nat.le_trans v.dp h', v.nl⟩
structure Vws (n m : Nat) (j : Bool) (ds : List Tr) : Prop where
  sh : PyData.showableAll (pys ds) = true
  sl : PyData.leavesShortAll 13 (pys ds) = true
  bk : PyData.bulkAll (pys ds) ≤ n
  dp : deps ds ≤ m
  nl : j = true → nols ds = true
theorem Vws.nil {m : Nat} {j : Bool} : Vws 0 m j [] := ⟨rfl, rfl, Nat.le_refl _, Nat.zero_le _, fun _ => rfl⟩
theorem Vws.cons {a b m : Nat} {j : Bool} {d : Tr} {ds : List Tr} (v : Vw a m j d) (vs : Vws b m j ds) : Vws (a + 1 + b) m j (d :: ds) := by
  refine ⟨?_, ?_, ?_, Nat.max_le.mpr ⟨v.dp, vs.dp⟩, fun h => ?_⟩
  · simp only [pys, PyData.showableAll, v.sh, vs.sh, Bool.and_self]
  · simp only [pys, PyData.leavesShortAll, v.sl, vs.sl, Bool.and_self]
  · have := v.bk
    have := vs.bk
    simp only [pys, PyData.bulkAll]
    omega
  · simp only [nols, v.nl h, vs.nl h, Bool.and_self]
theorem Vws.all {a m : Nat} {j : Bool} : ∀ {ds : List Tr}, (∀ d ∈ ds, Vw a m j d) → Vws ((a + 1) * ds.length) m j ds
  | [], _ => .nil
  | d :: ds, h => by
    have v := Vws.cons (h d List.mem_cons_self) (Vws.all fun x hx => h x (List.mem_cons_of_mem _ hx))
    rw [List.length_cons, Nat.mul_add, Nat.mul_one, Nat.add_comm]
    exact v
theorem Vw.tup {n m : Nat} {j : Bool} {ds : List Tr} (v : Vws n m j ds) : Vw n (m + 1) j (.tup ds) := ⟨by simp only [py, PyData.showable]; exact v.sh, by simp only [py, PyData.leavesShort]; exact v.sl, by simp only [py, PyData.bulk]; exact v.bk, Nat.succ_le_succ v.dp, fun h => by simp only [nol]; exact v.nl h⟩
theorem Vw.lst {n m : Nat} {j : Bool} {ds : List Tr} (v : Vws n m j ds) : Vw n (m + 1) false (.lst ds) := ⟨by simp only [py, PyData.showable]; exact v.sh, by simp only [py, PyData.leavesShort]; exact v.sl, by simp only [py, PyData.bulk]; exact v.bk, Nat.succ_le_succ v.dp, fun h => nomatch h⟩
theorem Vw.bl {b j : Bool} : Vw 0 0 j (.bl b) := ⟨rfl, rfl, Nat.le_refl _, Nat.le_refl _, fun _ => rfl⟩
theorem Vw.non {j : Bool} : Vw 0 0 j .non := ⟨rfl, rfl, Nat.le_refl _, Nat.le_refl _, fun _ => rfl⟩
/-- a text: each sign a sign -/
def Pla (n : Nat) (s : Str) : Prop := (s.cps.toList.all fun c => decide (c < 16 ^ 8)) = true ∧ s.cps.size ≤ n
instance (n : Nat) (s : Str) : Decidable (Pla n s) := inferInstanceAs (Decidable (_ ∧ _))
theorem Vw.str {n : Nat} {j : Bool} {s : Str} (h : Pla n s) : Vw n 0 j (.str s) := ⟨rfl, h.1, h.2, Nat.le_refl _, fun _ => rfl⟩
def Sho (i : Int) : Prop := i.natAbs.log2 < 1920 ∧ (PyData.shown (.int i)).length ≤ 13
instance (i : Int) : Decidable (Sho i) := inferInstanceAs (Decidable (_ ∧ _))
theorem Vw.int {j : Bool} {i : Int} (h : Sho i) : Vw 0 0 j (.int i) := ⟨decide_eq_true h.1, decide_eq_true h.2, Nat.le_refl _, Nat.le_refl _, fun _ => rfl⟩
theorem small_sho : ∀ k : Fin 1000, Sho (k.val : Int) := by decide +kernel
theorem sho_of {i : Int} (h0 : 0 ≤ i) (h1 : i < 1000) : Sho i := by
  have := small_sho ⟨i.toNat, by omega⟩
  rw [show (i : Int) = ((⟨i.toNat, by omega⟩ : Fin 1000).val : Int) from by show i = (i.toNat : Int); omega]
  exact this
/-- a dict whose keys are texts -/
structure Vwk (n m : Nat) (j : Bool) (ks : List (Key × Tr)) : Prop where
  sh : PyData.showableKv (pyk ks) = true
  sl : PyData.leavesShortKv 13 (pyk ks) = true
  bk : PyData.bulkKv (pyk ks) ≤ n
  dp : depk ks ≤ m
  nl : j = true → nolk ks = true
theorem Vwk.all {c a m : Nat} {j : Bool} : ∀ {ks : List (Key × Tr)}, (∀ p ∈ ks, (∃ s, p.1 = .inr s ∧ Pla c s) ∧ Vw a m j p.2) → Vwk ((c + a + 2) * ks.length) m j ks
  | [], _ => ⟨rfl, rfl, Nat.le_refl _, Nat.zero_le _, fun _ => rfl⟩
  | (k, d) :: ks, h => by
    obtain ⟨⟨s, e, ps⟩, v⟩ := h _ List.mem_cons_self
    have e' : k = .inr s := e
    subst e'
    have vs := Vwk.all fun p hp => h p (List.mem_cons_of_mem _ hp)
    refine ⟨?_, ?_, ?_, Nat.max_le.mpr ⟨v.dp, vs.dp⟩, fun q => ?_⟩
    · simp only [pyk, PyData.showableKv, PyData.showable, v.sh, vs.sh, Bool.and_self]
    · have e : (PyData.str s).leavesShort 13 = true := ps.1
      simp only [pyk, PyData.leavesShortKv, e, v.sl, vs.sl, Bool.and_self]
    · have b1 := v.bk
      have b2 := vs.bk
      have b3 := ps.2
      rw [List.length_cons, Nat.mul_add, Nat.mul_one]
      simp only [pyk, PyData.bulkKv, PyData.bulk]
      simp only at b1
      omega
    · simp only [nolk, v.nl q, vs.nl q, Bool.and_self]
theorem Vw.dic {n m : Nat} {j : Bool} {ks : List (Key × Tr)} (v : Vwk n m j ks) : Vw n (m + 1) j (.dic ks) := ⟨by simp only [py, PyData.showable]; exact v.sh, by simp only [py, PyData.leavesShort]; exact v.sl, by simp only [py, PyData.bulk]; exact v.bk, Nat.succ_le_succ v.dp, fun h => by simp only [nol]; exact v.nl h⟩
theorem Vw.len {n m : Nat} {j : Bool} {d : Tr} (v : Vw n m j d) : (py d).shown.length ≤ 15 * n + 13 := by
  have h := PyData.shown_le_bulk 13 (by decide) (py d) v.sl
  have : (13 + 2) * (py d).bulk ≤ 15 * n := Nat.mul_le_mul (by decide) v.bk
  omega
section
variable {K : PySem.W.Frag} {H : Hp} {Q : VK} {N : Addr → Prop} {a : Addr}
/-- repr of a tree without dicts, or without lists -/
theorem q_reprN {n m : Nat} {d : Tr} (t : T K H N (.ref a) d) (v : Vw n m true d) (hn : n ≤ 100000) (hm : m ≤ 60) (q : Q (.str (py d).shown) H) : rReprT K [.ref a] H Q :=
  ⟨N, a, d, rfl, t, v.sh, fun _ => v.nl rfl, Nat.le_trans v.dp hm, Nat.le_trans v.len (Nat.le_trans (show 15 * n + 13 ≤ 15 * 100000 + 13 by omega) (by decide)), q⟩
theorem q_reprL {n m : Nat} {j : Bool} {d : Tr} (t : T K H N (.ref a) d) (v : Vw n m j d) (nd : (py d).hasDict = false) (hn : n ≤ 100000) (hm : m ≤ 60) (q : Q (.str (py d).shown) H) : rReprT K [.ref a] H Q :=
  ⟨N, a, d, rfl, t, v.sh, (fun z => absurd (nd.symm.trans z) (by decide)), Nat.le_trans v.dp hm, Nat.le_trans v.len (Nat.le_trans (show 15 * n + 13 ≤ 15 * 100000 + 13 by omega) (by decide)), q⟩
mutual
theorem hasDict_py : ∀ d : Tr, nod d = true → (py d).hasDict = false
  | .non, _ => rfl
  | .bl _, _ => rfl
  | .int _, _ => rfl
  | .str _, _ => rfl
  | .lst xs, h => by
    simp only [py, PyData.hasDict]
    exact hasDict_pys xs (by simpa [nod] using h)
  | .tup xs, h => by
    simp only [py, PyData.hasDict]
    exact hasDict_pys xs (by simpa [nod] using h)
  | .dic _, h => by simp [nod] at h
theorem hasDict_pys : ∀ ds : List Tr, nods ds = true → PyData.hasDictAll (pys ds) = false
  | [], _ => rfl
  | x :: xs, h => by
    have h' : nod x = true ∧ nods xs = true := by simpa [nods] using h
    simp only [pys, PyData.hasDictAll, hasDict_py x h'.1, hasDict_pys xs h'.2, Bool.or_self]
end
end
end TU

set_option Elab.async false
set_option linter.all false
set_option maxRecDepth 100000
namespace TU
open PySem PySem.Spec PyProof.Rows L2
/-- all entries are such -/
def All (P : Tr → Prop) (h : Hs) : Prop := ∀ q ∈ h, ∀ x ∈ q.2, P x.2
def EdP (P : Tr → Prop) (e : Ed) : Prop := ∀ k n d, e = .put k n d → P d
section
variable {P : Tr → Prop}
theorem All.lk {h : Hs} (a : All P h) {k n : Str} {t : Tab} {d : Tr} (e : lk h k = some t) (e2 : lk t n = some d) : P d := a _ (lk_mem e) _ (lk_mem e2)
theorem All.cp {h : Hs} (a : All P h) : All P (cpH h) := fun q hq x hx => by
  obtain ⟨p, hp, rfl⟩ := List.mem_map.mp hq
  obtain ⟨n, hn, e⟩ := List.mem_map.mp (show x ∈ (srt (nms p.2)).map fun n => (n, (TU.lk p.2 n).getD default) from hx)
  have m : n ∈ nms p.2 := (srt_perm _).mem_iff.mp hn
  obtain ⟨d, hd⟩ := lk_mem_nms m
  rw [← e]
  show P ((TU.lk p.2 n).getD default)
  rw [hd]
  exact a p hp _ (lk_mem hd)
theorem app1_all {h h' : Hs} {e : Ed} (a : All P h) (b : EdP P e) (ha : app1 h e = .ok h') : All P h' := by
  cases q : TU.lk h e.key with
  | none =>
    simp only [app1, q] at ha
    cases ha
  | some t =>
    have hm := lk_mem q
    cases e with
    | put k m d =>
      simp only [app1, q] at ha
      cases ha
      intro p hp x hx
      rcases mem_put hp with c | c
      · exact a p c x hx
      · rw [c] at hx
        rcases mem_put hx with c2 | c2
        · exact a _ hm x c2
        · rw [c2]
          exact b _ _ _ rfl
    | drop k m =>
      by_cases hin : m ∈ nms t
      · simp only [app1, q, if_pos hin] at ha
        cases ha
        intro p hp x hx
        rcases mem_put hp with c | c
        · exact a p c x hx
        · rw [c] at hx
          exact a _ hm x (mem_del hx)
      · simp only [app1, q, if_neg hin] at ha
        cases ha
theorem appAll_all : ∀ {es : List Ed} {h h' : Hs}, All P h → (∀ e ∈ es, EdP P e) → appAll h es = .ok h' → All P h'
  | [], h, h', n, hn, ha => by
    cases ha
    exact n
  | e :: es, h, h', n, hn, ha => by
    rw [appAll_cons] at ha
    cases q : app1 h e with
    | error x =>
      rw [q] at ha
      cases ha
    | ok h1 =>
      rw [q] at ha
      exact appAll_all (app1_all n (hn e List.mem_cons_self) q) (fun x hx => hn x (List.mem_cons_of_mem _ hx)) ha
theorem inv1_all {h : Hs} {e : Ed} (a : All P h) : EdP P (inv1 h e) := fun k n d z => by
  unfold inv1 at z
  cases q : TU.lk h e.key with
  | none =>
    rw [q] at z
    cases z
  | some t =>
    rw [q] at z
    cases q2 : TU.lk t e.name with
    | none =>
      simp only [q2] at z
      cases z
    | some d2 =>
      simp only [q2] at z
      cases z
      exact a.lk q q2
end
theorem nods_all : ∀ {ds : List Tr}, (∀ d ∈ ds, TU.nod d = true) → nods ds = true
  | [], _ => rfl
  | d :: ds, h => by
    have h1 := h d List.mem_cons_self
    have h2 := nods_all fun x hx => h x (List.mem_cons_of_mem _ hx)
    simp only [nods, h1, h2, Bool.and_self]
theorem Ed.nod {e : Ed} (i : e.Imm) : TU.nod e.tr = true := by
  cases e with
  | put k n d =>
    have := nod_of_imm (show imm d = true from i)
    simp only [Ed.tr, TU.nod, nods, this, Bool.and_self]
  | drop k n => rfl
theorem deps_all {n : Nat} : ∀ {ds : List Tr}, (∀ d ∈ ds, TU.dep d ≤ n) → deps ds ≤ n
  | [], _ => Nat.zero_le _
  | d :: ds, h => Nat.max_le.mpr ⟨h d List.mem_cons_self, deps_all fun x hx => h x (List.mem_cons_of_mem _ hx)⟩
theorem invs_all {P : Tr → Prop} : ∀ {es : List Ed} {h : Hs}, All P h → (∀ e ∈ es, EdP P e) → ∀ e ∈ invs h es, EdP P e
  | [], h, a, b, e, m => nomatch m
  | e :: es, h, a, b, x, m => by
    unfold invs at m
    rcases List.mem_cons.mp m with rfl | m
    · exact inv1_all a
    · cases q : app1 h e with
      | error z =>
        rw [q] at m
        cases m
      | ok h1 =>
        rw [q] at m
        exact invs_all (app1_all a (b e List.mem_cons_self) q) (fun y hy => b y (List.mem_cons_of_mem _ hy)) x m
theorem Ed.dep {e : Ed} (i : EdP (fun d => TU.dep d ≤ 50) e) : TU.dep e.tr ≤ 51 := by
  cases e with
  | put k n d =>
    have := i _ _ _ rfl
    simp only [Ed.tr, TU.dep, deps]
    omega
  | drop k n => exact (by decide : 1 ≤ 51)
section
variable {K : PySem.W.Frag} {H : Hp} {Q : VK}
theorem q_neR {x y : V} {d : Tr} (hx : T K H ff x d) (hy : T K H ff y d) (n : nod d = true) (m : dep d ≤ 60) (k : Q (.bl false) H) : rNeU K x y H Q := by
  refine q_neT hx hy n n m ?_
  rw [eqb_refl n]
  exact k
theorem q_eqR {x y : V} {d : Tr} (hx : T K H ff x d) (hy : T K H ff y d) (n : nod d = true) (m : dep d ≤ 60) (k : Q (.bl true) H) : rEqU K x y H Q := by
  refine q_eqT hx hy n n m ?_
  rw [eqb_refl n]
  exact k
theorem q_eqSS {s : Str} (k : Q (.bl true) H) : rEqU K (.str s) (.str s) H Q := q_eqS (by rw [decide_eq_true rfl]; exact k)
theorem q_neSS {s : Str} (k : Q (.bl false) H) : rNeU K (.str s) (.str s) H Q := q_neS (by rw [decide_eq_true rfl]; exact k)
end
/-- one edit, in all the forms that the laws ask for -/
structure Step (s : Hs) (e : Ed) (g u : Hs) : Prop where
  a1 : app1 s e = .ok g
  a2 : app1 (cpH s) e = .ok g
  b : app1 (cpH (cpH g)) (inv1 s e) = .ok u
  c : cpH u = s
theorem step_of {f f' : Hs} {e : Ed} (w : Wf f) (im : e.Imm) (h : app1 f e = .ok f') : ∃ g u, Step (cpH f) e g u ∧ cpH f' = cpH g ∧ Wf g ∧ Wf u ∧ nms g = nms f ∧ nms u = nms f := by
  obtain ⟨g, hg, hc⟩ := app1_cp w w.cp (cp_cp w).symm h
  obtain ⟨wg, ng⟩ := app1_wf w.cp im hg
  obtain ⟨u, hu, hcu⟩ := undo1 w.cp hg
  obtain ⟨v, hv, hcv⟩ := app1_cp wg wg.cp (cp_cp wg).symm hu
  obtain ⟨wv, nv⟩ := app1_wf wg.cp (inv1_imm w.cp e) hv
  rw [nms_cp] at ng nv
  refine ⟨g, v, ⟨hg, by rw [cp_cp w]; exact hg, by rw [cp_cp wg]; exact hv, ?_⟩, hc, wg, wv, ng, nv.trans ng⟩
  rw [← hcv, hcu, cp_cp w]
theorem appAll_next {h f hz : Hs} {es : List Ed} {i : Nat} {e : Ed} (he : es[i]? = some e) (ha : appAll h (es.take i) = .ok f) (hz : appAll h es = .ok hz) : ∃ f', app1 f e = .ok f' := by
  cases q : app1 f e with
  | ok f' => exact ⟨f', rfl⟩
  | error x =>
    rw [appAll_stop he ha q] at hz
    cases hz
theorem nt_rd {H : Hp} {a : Addr} {kvs : List (Key × V)} {xs : List V} (h : Rd H a (.dK kvs)) (h' : Rd H a (.tup xs)) : False := by
  rcases h with e | ⟨o, e⟩ <;> rcases h' with e' | ⟨o', e'⟩ <;> (rw [e] at e'; cases e')
end TU

set_option Elab.async false
set_option linter.all false
set_option maxRecDepth 100000
namespace TU
open PySem PySem.Spec PyProof.Rows L2
/-! ### what the top has written -/
theorem top_mk {K : PySem.W.Frag} {h : Heap} {mg : Str → Option Value} {x : Str} {st : Stmt} {ps : List Str} {f : Addr} {oc : Value} {od an : Option Addr} {osl : Array (Option Value)} {kV doc pm cdv ct : Value} (X : K.In h) (G : h.Ns mainGlobals mg)
    (ha : PySem.W.nsIn K mainGlobals x = some (some (.ref f))) (hl : K.lookup f = some ⟨oc, od, .func (PySem.W.fnOf x x (defArgs st) (defBody st) (defScope st) .none kV doc pm an cdv ct), osl⟩) (hc : PySem.W.codeIn K cdv x = true) (hk : PySem.W.keepIn K (.ref f) = true)
    (hb : ∀ (kV doc pm : Value) (an : Option Addr) (cdv ct : Value) (us : List Value), us.length = ps.length → bindArgs (PySem.W.fnOf x x (defArgs st) (defBody st) (defScope st) .none kV doc pm an cdv ct) ⟨us, []⟩ = pure (ps.zip us)) : TopF K mg x st ps :=
  ⟨f, _, fun_mk hl hc hk, PySem.W.mg_of X G ha, (fun_mk hl hc hk).binds hb⟩
/-- an error of its own class is caught by it -/
theorem exm_me {K : PySem.W.Frag} {C : Addr} (h1 : PySem.W.subIn K (.ref C) (.type "BaseException") = some true) (h2 : PySem.W.isClsIn K C = true) (h3 : PySem.W.typeIn K (.ref C) = some (.type "type")) (h4 : PySem.W.subIn K (.ref C) (.ref C) = some true) :
    PySem.W.exmOne K (.ref C) (.ref C) = some true := by
  have c1 : (PySem.W.clsIn K C).isSome = true := h2
  have c2 : ((PySem.W.clsIn K C).isSome && PySem.W.typeIn K (.ref C) == some (.type "type")) = true := by
    rw [c1, h3]
    rfl
  have c3 : (PySem.W.subIn K (.ref C) (.type "BaseException") == some true) = true := by
    rw [h1]
    rfl
  unfold PySem.W.exmOne
  simp only [c3, if_true]
  unfold PySem.W.kitCls
  simp only [c2, if_true]
  exact h4
theorem xc_mk2 {P : Program} {w : World} {K : PySem.W.Frag} {h : Heap} {mg : Str → Option Value} {base : Heap} {x qual f1 f2 : Str} {st : Stmt} {C f : Addr} (X : K.In h) (G : h.Ns mainGlobals mg)
    {nm q : Str} {N : Addr} {bs bm : List Value} {sn : List Str} {sub : List Value} {ab : Bool} {col : Option Bool} {dd : Option Addr} {m0 m1 m2 m3 m5 : Option Value}
    {od an : Option Addr} {sl : Array (Option Value)} {oc kV dc pm cd ct : Value} {p1 p2 p3 p4 q1 q2 q3 q4 : Pos}
    (aC : PySem.W.nsIn K mainGlobals x = some (some (.ref C))) (xL : K.lookup C = some (excClassObj nm q C N bs bm true sn sub ab col dd m0 m1 m2 m3 m5 "ValueError.__new__")) (xb : PySem.HandSPX.refsVE bm = true)
    (sa : PySem.W.findIn K (.ref C) "__setattr__" = some (some (.builtin "object.__setattr__"))) (ga : PySem.W.findIn K (.ref C) "__getattribute__" = some (some (.builtin "BaseException.__getattribute__"))) (gg : PySem.W.findIn K (.ref C) "__getattr__" = some none)
    (n1 : PySem.W.findIn K (.ref C) f1 = some none) (n2 : PySem.W.findIn K (.ref C) f2 = some none)
    (a1 : PySem.W.findIn K (.ref C) "__init__" = some (some (.ref f))) (t1 : PySem.W.typeIn K (.ref f) = some (.type "function"))
    (l1 : K.lookup f = some ⟨oc, od, .func (PySem.W.fnOf "__init__" qual (defArgs st) (defBody st) (defScope st) .none kV dc pm an cd ct), sl⟩) (c1 : PySem.W.codeIn K cd qual = true) (k1 : PySem.W.keepIn K (.ref f) = true)
    (kC : PySem.W.keepIn K (.ref C) = true) (eC : PySem.W.subIn K (.ref C) (.type "BaseException") = some true) (tC : PySem.W.typeIn K (.ref C) = some (.type "type")) (hC : PySem.W.hasDictIn K C = true) (iC : PySem.W.isClsIn K C = true) (sC : PySem.W.subIn K (.ref C) (.ref C) = some true)
    (S : FnScope ["self", f1, f2] ["self", f1, f2] (defScope st)) (hb : defBody st = [.Assign [.Attribute (.Name "self" p1) f1 p2] (.Name f1 p3) p4, .Assign [.Attribute (.Name "self" q1) f2 q2] (.Name f2 q3) q4])
    (d1 : (f1 == ("__debug__" : Str)) = false) (d2 : (f1 == ("__classdict__" : Str)) = false) (e1 : (f2 == ("__debug__" : Str)) = false) (e2 : (f2 == ("__classdict__" : Str)) = false)
    (v0 : Vis (defScope st) "self") (v1 : Vis (defScope st) f1) (v2 : Vis (defScope st) f2)
    (bi : ∀ (kV doc pm : Value) (an : Option Addr) (cdv ct : Value) (us : List Value), us.length = 3 → bindArgs (PySem.W.fnOf "__init__" qual (defArgs st) (defBody st) (defScope st) .none kV doc pm an cdv ct) ⟨us, []⟩ = pure ((["self", f1, f2] : List Str).zip us)) :
    Xc P w K mg base x [f1, f2] C := by
  have T : OexC K C := ⟨⟨nm, q, N, bs, bm, sn, sub, ab, col, dd, m0, m1, m2, m3, m5, xL, xb⟩, sa, eC, tC, kC⟩
  have F := fun_mk (st := st) l1 c1 k1
  refine ⟨T, ⟨ga, gg, eC, hC⟩, PySem.W.mg_of X G aC, fun y hy => ?_, exm_me eC iC tC sC, f, _, a1, t1, ok_init2 F S hb T n1 n2 d1 d2 e1 e2 v0 v1 v2, F.binds bi⟩
  rcases List.mem_cons.mp hy with rfl | hy
  · exact n1
  · rw [List.mem_singleton.mp hy]
    exact n2
end TU

set_option Elab.async false
set_option linter.all false
set_option maxRecDepth 100000
set_option maxHeartbeats 1000000

namespace K76
open PySem PySem.Spec PyProof.Rows L2 TU
local macro_rules | `(tactic| walk_at "g1") => `(tactic| first
  | with_reducible refine q_seq ?_
  | with_reducible refine q_asg ?_
  | with_reducible refine q_drop ?_
  | with_reducible refine q_ret ?_
  | with_reducible refine q_if ?_
  | with_reducible refine q_gname ?_
  | with_reducible refine q_gsub ?_
  | ((with_reducible refine' q_var ?hv ?_); (case hv => rfl))
  | with_reducible refine q_c ?_
  | with_reducible refine q_op ?_
  | with_reducible refine q_test ?_
  | with_reducible refine q_tr ?_
  | with_reducible refine q_trB ?_
  | with_reducible refine q_bl ?_
  | with_reducible refine q_not ?_
  | with_reducible refine q_and ?_
  | with_reducible refine q_or ?_
  | with_reducible refine q_cons ?_
  | with_reducible refine q_nil ?_
  | with_reducible refine q_I0 ?_
  | with_reducible refine q_addI ?_
  | with_reducible refine q_eqS ?_
  | with_reducible refine q_eqI ?_
  | with_reducible refine q_neS ?_
  | with_reducible refine q_neI ?_
  | with_reducible refine q_eqB ?_
  | with_reducible refine q_t ?_
  | with_reducible refine q_f ?_
  | with_reducible refine q_nf ?_
  | with_reducible refine q_nt ?_
  | with_reducible refine q_is ?_
  | with_reducible refine q_isn ?_
  | with_reducible refine q_nis ?_
  | with_reducible refine q_nisn ?_
  | with_reducible refine q_callS ?_
  | with_reducible refine q_cb ?_
  | with_reducible refine q_tup ?_
  | with_reducible refine q_lst ?_
  | with_reducible refine q_bm ?_
  | with_reducible refine q_rz ?_
  | with_reducible refine q_next ?_
  | with_reducible refine q_retN ?_
  | with_reducible refine q_ifE ?_
  | with_reducible refine q_un ?_
  | with_reducible refine q_U ?_
  | with_reducible refine q_for ?_
  | with_reducible refine q_sl ?_
  | with_reducible refine q_part ?_
  | with_reducible refine q_nopart ?_
  | with_reducible refine q_int ?_
  | with_reducible refine q_andV ?_
  | with_reducible refine q_orV ?_
  | with_reducible refine q_notV ?_
  | with_reducible refine q_dc ?_
  | with_reducible refine q_lc ?_
  | with_reducible refine q_yes ?_
  | with_reducible refine q_dnew ?_
  | ((with_reducible refine q_size ?hz ?_); (case hz => (simp only [List.length_cons, List.length_nil]; decide))))
local macro_rules | `(tactic| walk_at "g") => `(tactic| repeat walk_at "g1")

local macro_rules | `(tactic| walk_at "sm") => `(tactic| first | assumption | exact same_new (by assumption) | exact Same.refl')
local macro_rules | `(tactic| walk_at "lf") => `(tactic| first
  | assumption
  | exact upd_same
  | exact sq_new
  | exact st_new
  | ((refine Sm.sqT ?hs ?hr); (case hs => (first | assumption | exact same_new (by assumption))); (case hr => walk_at "lf"))
  | ((refine Sm.sqL ?hs ?hr); (case hs => (first | assumption | exact same_new (by assumption))); (case hr => walk_at "lf"))
  | ((refine Sm.rd ?hs ?hr); (case hs => (first | assumption | exact same_new (by assumption))); (case hr => walk_at "lf"))
  | ((refine T.mono ?hs ?hr); (case hs => (first | assumption | exact same_new (by assumption))); (case hr => walk_at "lf"))
  | ((refine Ts.mono ?hs ?hr); (case hs => (first | assumption | exact same_new (by assumption))); (case hr => walk_at "lf"))
  | ((refine Tk.mono ?hs ?hr); (case hs => (first | assumption | exact same_new (by assumption))); (case hr => walk_at "lf"))
  | ((refine Own.mono ?hr ?hs); (case hs => (first | assumption | exact same_new (by assumption))); (case hr => walk_at "lf"))
  | ((refine Sm.at ?hs ?hr); (case hs => (first | assumption | exact same_new (by assumption))); (case hr => walk_at "lf")))
local macro_rules | `(tactic| walk_at "ix") => `(tactic| ((with_reducible refine' q_ixT ?h1 ?h2 ?_); (case h1 => walk_at "lf"); (case h2 => rfl)))

def topS (i : Nat) : Stmt := PySem.Challenge.pw_trundleyard_k76_edits_and_inverses.main.body.getD i (.Pass ⟨0, 0, 0, 0⟩)
abbrev s_Unknown___init : Stmt := inClass (topS 3) 0
abbrev s_copy_house : Stmt := topS 5
abbrev s_check_key : Stmt := topS 6
abbrev s_check_edit : Stmt := topS 7
abbrev s_change_tables : Stmt := topS 8
abbrev s_apply_edits : Stmt := topS 10
abbrev s_apply_edit : Stmt := topS 9
abbrev s_inverse : Stmt := topS 11
abbrev s_inverse_of : Stmt := topS 12
abbrev s_entry_in : Stmt := topS 13
abbrev s_law_jar : Stmt := topS 15
abbrev s_law_draw : Stmt := topS 16
abbrev s_law_entry : Stmt := topS 17
abbrev s_law_house : Stmt := topS 18
abbrev s_law_edits : Stmt := topS 19
abbrev s_law_copy : Stmt := topS 20
abbrev s_law_after : Stmt := topS 21
abbrev s_law_same : Stmt := topS 22
abbrev s_law_back : Stmt := topS 23
abbrev s_law_refusal : Stmt := topS 24
abbrev s_law_refusals_right : Stmt := topS 25
abbrev s_law : Stmt := topS 26
section
variable {P : Program} {w : World} {K : PySem.W.Frag} {mg : Str → Option Value} {base : Heap} {C_Unknown : Addr}
/-- check_key(house, key) -/
def spCK (C : Addr) : Sp := fun vs H Q E => ∃ (a : Addr) (kvs : List (Key × V)) (k : Str), vs = [.ref a, .str k] ∧ Rd H a (.dK kvs) ∧
  ((valV kvs (.inr k)).isSome = true → Q .non H) ∧ ((valV kvs (.inr k)).isSome = false → XUnk C "table" k H E)
theorem sc_check_key : FnScope ["house", "key"] ["house", "key"] (defScope s_check_key) := ⟨rfl, rfl, rfl, by decide +kernel, rfl, by decide +kernel, by decide +kernel⟩
theorem d_check_key (B : Bt mg) (F : TopF K mg "check_key" s_check_key ["house", "key"]) (X_Unknown : Xc P w K mg base "Unknown" ["what", "name"] C_Unknown) : Df P w K mg base "check_key" ["house", "key"] 3 (spCK C_Unknown) := by
  refine F.df sc_check_key (fun vs H Q E h => ?len) (fun f cdv A outer s H vs Q E hr h => ?body)
  case body =>
   have hu := hr.units
   refine ⟨_, (pss_one (ps_if (pt_cmpR (k_nin (K := K) rfl hu) (pv 1) (pv 0) (by rfl))
      (pss_one (ps_rz rfl X_Unknown (hr.mono (by decide)) (takes_of rfl rfl rfl rfl) (pa_cons pe_str (pa_cons (pv 1) pa_nil))))
      pss_nil)), ?_⟩
   obtain ⟨a, kvs, k, rfl, hd, h1, h2⟩ := h
   walk_at "g"
   refine q_ninD (.inr k) hd ?_
   walk_at "g"
   cases e : (valV kvs (Sum.inr k)).isSome with
   | true =>
     refine q_f ?_
     walk_at "g"
     exact h1 e
   | false =>
     refine q_t ?_
     walk_at "g"
     exact q_mk rfl fun d H' s _ hd => h2 e d H' s hd
  case len =>
   obtain ⟨a, kvs, k, rfl, _⟩ := h
   rfl
/-- check_edit(house, edit) -/
def spCE (K : PySem.W.Frag) (C : Addr) : Sp := fun vs H Q E => ∃ (N : Addr → Prop) (a : Addr) (v : V) (h : Hs) (e : Ed), vs = [.ref a, v] ∧ T K H N (.ref a) (.dic (hK h)) ∧ T K H ff v e.tr ∧
  match app1 h e with
  | .ok _ => Q .non H
  | .error (w, n) => XUnk C w n H E
theorem sc_check_edit : FnScope ["house", "edit"] ["house", "edit"] (defScope s_check_edit) := ⟨rfl, rfl, rfl, by decide +kernel, rfl, by decide +kernel, by decide +kernel⟩
theorem d_check_edit (B : Bt mg) (F : TopF K mg "check_edit" s_check_edit ["house", "edit"]) (X_Unknown : Xc P w K mg base "Unknown" ["what", "name"] C_Unknown) (D_check_key : Df P w K mg base "check_key" ["house", "key"] 3 (spCK C_Unknown)) : Df P w K mg base "check_edit" ["house", "edit"] 4 (spCE K C_Unknown) := by
  refine F.df sc_check_edit (fun vs H Q E h => ?len) (fun f cdv A outer s H vs Q E hr h => ?body)
  case body =>
   have hu := hr.units
   refine ⟨_, (pss_cons (ps_expr (pe_df D_check_key (hr.mono (by decide)) (fun σ => passAt (takes_of rfl rfl rfl rfl) σ) (pa_cons (pv 0) (pa_cons (pe_ix (k_ix (K := K) rfl hu) (pv 1) pe_int (fun _ _ => rfl)) pa_nil))))
      (pss_one (ps_if (PW.pt (pw_and (pt_cmpR (k_eq (K := K) rfl hu) (pe_ix (k_ix (K := K) rfl hu) (pv 1) pe_int (fun _ _ => rfl)) pe_str (nomark _)) (pw_and1 (pt_cmpR (k_nin (K := K) rfl hu) (pe_ix (k_ix (K := K) rfl hu) (pv 1) pe_int (fun _ _ => rfl)) (pe_ix (k_ix (K := K) rfl hu) (pv 0) (pe_ix (k_ix (K := K) rfl hu) (pv 1) pe_int (fun _ _ => rfl)) (fun _ _ => rfl)) (by rfl)))))
      (pss_one (ps_rz rfl X_Unknown (hr.mono (by decide)) (takes_of rfl rfl rfl rfl) (pa_cons (pe_ix (k_ix (K := K) rfl hu) (pv 1) pe_int (fun _ _ => rfl)) (pa_cons (pe_ix (k_ix (K := K) rfl hu) (pv 1) pe_int (fun _ _ => rfl)) pa_nil))))
      pss_nil))), ?_⟩
   obtain ⟨N, a, v, h, e, rfl, ha, he, hq⟩ := h
   obtain ⟨a', kvs, ea, _, hr, tk⟩ := ha.dicAt
   cases ea
   obtain ⟨b, rfl, he⟩ := Ed.at he
   cases e with
   | put k n x =>
     obtain ⟨y, hs, ty⟩ := he
     walk_at "g"
     walk_at "ix"
     walk_at "g"
     refine ⟨_, kvs, k, rfl, hr, fun hk => ?_, fun hk => ?_⟩
     · walk_at "g"
       walk_at "ix"
       walk_at "g"
       rw [decide_eq_false (by decide)]
       walk_at "g"
       cases e1 : lk h k with
       | none =>
         rw [T.ntab tk e1] at hk
         cases hk
       | some t =>
         simp only [app1, Ed.key, e1] at hq
         exact hq
     · cases e1 : lk h k with
       | none =>
         simp only [app1, Ed.key, e1] at hq
         exact hq
       | some t =>
         obtain ⟨q, es, h1, _⟩ := T.tab tk e1
         rw [h1] at hk
         cases hk
   | drop k n =>
     have hs := he
     walk_at "g"
     walk_at "ix"
     walk_at "g"
     refine ⟨_, kvs, k, rfl, hr, fun hk => ?_, fun hk => ?_⟩
     · walk_at "g"
       walk_at "ix"
       walk_at "g"
       rw [decide_eq_true rfl]
       walk_at "g"
       walk_at "ix"
       walk_at "g"
       walk_at "ix"
       walk_at "g"
       cases e1 : lk h k with
       | none =>
         rw [T.ntab tk e1] at hk
         cases hk
       | some t =>
         obtain ⟨q, es, h1, _, h2, h3⟩ := T.tab tk e1
         refine q_ixK (.inr k) hr h1 ?_
         walk_at "g"
         refine q_ninD (.inr n) h2 ?_
         walk_at "g"
         by_cases hn : n ∈ nms t
         · have e2 : (valV es (Sum.inr n)).isSome = true := by
             rw [h3.isSome, get_tK]
             cases e3 : lk t n with
             | none => exact absurd hn (lk_none.mp e3)
             | some _ => rfl
           rw [e2]
           walk_at "g"
           simp only [app1, Ed.key, e1, if_pos hn] at hq
           exact hq
         · have e2 : (valV es (Sum.inr n)).isSome = false := by
             rw [h3.isSome, get_tK, lk_none.mpr hn]
             rfl
           rw [e2]
           walk_at "g"
           walk_at "ix"
           walk_at "g"
           walk_at "ix"
           walk_at "g"
           simp only [app1, Ed.key, e1, if_neg hn] at hq
           exact q_mk rfl fun d H' s _ hd => hq d H' s hd
     · cases e1 : lk h k with
       | none =>
         simp only [app1, Ed.key, e1] at hq
         exact hq
       | some t =>
         obtain ⟨q, es, h1, _⟩ := T.tab tk e1
         rw [h1] at hk
         cases hk
  case len =>
   obtain ⟨N, a, b, h, e, rfl, _⟩ := h
   rfl
/-- copy_house(house) -/
def spCH (K : PySem.W.Frag) : Sp := fun vs H Q _ => ∃ (N : Addr → Prop) (a : Addr) (h : Hs), vs = [.ref a] ∧ T K H N (.ref a) (.dic (hK h)) ∧ Wf h ∧ Fits 60 h ∧ h.length ≤ 900 ∧
  ∀ r H', Same H H' → Own K (fun b => H b = none) H' r (cpH h) → Q (.ref r) H'
theorem sc_copy_house : FnScope ["house", "key", "name"] ["house"] (defScope s_copy_house) := ⟨rfl, rfl, rfl, by decide +kernel, rfl, by decide +kernel, by decide +kernel⟩
theorem d_copy_house (B : Bt mg) (F : TopF K mg "copy_house" s_copy_house ["house"]) : Df P w K mg base "copy_house" ["house"] 1 (spCH K) := by
  refine F.df sc_copy_house (fun vs H Q E h => ?len) (fun f cdv A outer s H vs Q E hr h => ?body)
  case body =>
   have hu := hr.units
   refine ⟨_, (pss_one (ps_ret (pe_lockU (pe_dc (own := [("key", 1)]) (by rfl) sc_copy_house.nd (k_walk (K := K) rfl (pv 0)) (blkOk_by (by kernel_rfl)) (fun _ _ _ _ _ => (pg_name (i := 1) sc_copy_house.nd rfl (Or.inr rfl))) (fun _ _ _ _ _ => pts_nil) (fun _ _ _ _ _ => (pv 1)) (fun _ _ _ _ _ => (pe_lockU (pe_dc (own := [("name", 2)]) (by rfl) sc_copy_house.nd (k_walk (K := K) rfl (pe_callB (k_sort (K := K) rfl rfl) (by rfl) B.b_sorted (by decide +kernel) (pa_cons (pe_ix (k_ix (K := K) rfl hu) (pv 0) (pv 1) (fun _ _ => rfl)) pa_nil))) (blkOk_by (by kernel_rfl)) (fun _ _ _ _ _ => (pg_name (i := 2) sc_copy_house.nd rfl (Or.inl rfl))) (fun _ _ _ _ _ => pts_nil) (fun _ _ _ _ _ => (pv 2)) (fun _ _ _ _ _ => (pe_ix (k_ix (K := K) rfl hu) (pe_ix (k_ix (K := K) rfl hu) (pv 0) (pv 1) (fun _ _ => rfl)) (pv 2) (fun _ _ => rfl)))))))))), ?_⟩
   obtain ⟨N, a, h, rfl, ha, wf, fit, hl, hq⟩ := h
   obtain ⟨a', kvs, ea, _, hrd, tk⟩ := ha.dicAt
   cases ea
   walk_at "g"
   refine q_lockE hrd fun Hl od un Q' lkd hQ' => ?_
   walk_at "g"
   refine q_keys ?_
   walk_at "g"
   refine q_keysE lkd.at_ ?_
   intro d hd
   have tkl := tk.rs lkd.rs
   have hlen : kvs.length = h.length := by rw [tk.length]; unfold hK; rw [List.length_map]
   refine dc_any (walk_keys (d := a) (o := od) (kvs := kvs)) (fun i H1 => Same Hl H1 ∧ Own K (fun b => Hl b = none) H1 d (cpH (h.take i))) ?_ ?_ ?_ ?_
   · exact ⟨same_new hd, by rw [List.take_zero]; exact Own.nil upd_same hd⟩
   · rintro i H1 _ ⟨s1, _⟩
     exact s1 _ _ lkd.at_
   · rintro i x H1' H1 hi ⟨s1, o1⟩ ⟨rfl, k, v, hkv, rfl⟩
     obtain ⟨d0, g1, g2⟩ := Tk.at tkl hkv
     obtain ⟨n, t, hn, rfl, rfl⟩ := hK_at g1
     have hm := mem_at hn
     have wft := wf.tab _ hm
     have hlk : lk h n = some t := lk_of_mem wf.nd hm
     obtain ⟨q', es', hv, _, hq2', tkq'⟩ := T.tab tkl hlk
     have wfi : immT t := wft.2
     have hsz : (nms t).length < 64 := by
       have : t.length ≤ 60 := fit _ hm
       rw [nms_len]
       exact Nat.lt_of_le_of_lt this (by decide)
     have rdq : Rd H1 q' (.dK es') := Sm.rd s1 hq2'
     walk_at "g"
     refine ⟨rfl, ?_⟩
     walk_at "g"
     refine .inl ?_
     walk_at "g"
     refine q_items ?_
     walk_at "g"
     refine q_ixK (.inr n) (.inr ⟨od, s1 _ _ lkd.at_⟩) hv ?_
     walk_at "g"
     refine q_sortD (ks := nms t) rdq (by rw [tkq'.keys, keys_tK]) hsz fun p hp => ?_
     have sp : Same H1 (upd H1 p (.lst ((srt (nms t)).map V.str))) := same_new hp
     generalize hHp : upd H1 p (.lst ((srt (nms t)).map V.str)) = Hp1 at sp
     have hpL : Hp1 p = some (.lst ((srt (nms t)).map V.str)) := by rw [← hHp]; exact upd_same
     refine q_itemsE (.inl (.inl hpL)) ?_
     intro d2 hd2
     have tkq2 : Tk K Hp1 ff es' (tK t) := (tkq'.mono (s1.trans sp)).imm wfi
     refine dc_any (walk_list (xs := (srt (nms t)).map V.str)) (fun j H2 => Same Hp1 H2 ∧ ∃ es2, H2 d2 = some (.dK es2) ∧ Tk K H2 ff es2 (tK ((ord t).take j))) ?_ ?_ ?_ ?_
     · exact ⟨same_new hd2, [], upd_same, by rw [List.take_zero]; exact .nil⟩
     · rintro j H2 _ ⟨s2, _⟩
       exact .inl (.inl (s2 _ _ hpL))
     · rintro j x H2' H2 hj ⟨s2, es2, e2, tk2⟩ ⟨rfl, hx⟩
       obtain ⟨m, hm2, rfl⟩ := srt_at hx
       obtain ⟨dm, ho, hlm⟩ := ord_at hm2
       obtain ⟨vm, hvm, tvm⟩ := tkq2.ent hlm
       walk_at "g"
       refine ⟨rfl, ?_⟩
       walk_at "g"
       refine q_ixK (.inr n) (.inr ⟨od, s2 _ _ (sp _ _ (s1 _ _ lkd.at_))⟩) hv ?_
       walk_at "g"
       refine q_ixK (.inr m) (Sm.rd s2 (Sm.rd sp rdq)) hvm ?_
       have l2 : es2.length < sizeLine := by
         rw [tk2.length]
         unfold tK
         rw [List.length_map, List.length_take, len_ord]
         have : t.length ≤ 60 := fit _ hm
         exact len_small (by omega)
       have nk : (Sum.inr m : Key) ∉ es2.map (·.1) := by
         rw [tk2.keys, keys_tK, nms_take, nms_ord]
         exact fun z => nd_at ((srt_perm _).nodup_iff.mpr wft.1) hm2 (inr_mem.mp z)
       refine ⟨es2, .inr m, rfl, e2, l2, ?_, _, upd_same, ?_⟩
       · exact fun b o e => by
           have : b ≠ d2 := ne_of_none e hd2
           rw [upd_ne this]
           exact s2 b o e
       · rw [putK_fresh nk, take_more ho, tK_snoc]
         have tk3 := tk2.append (Tk.cons (k := Sum.inr m) (tvm.mono s2) .nil)
         exact tk3.upd e2 (fun _ z => nomatch z) (fun _ _ z => nomatch z) fun _ z => z.elim
     · rintro H2 ⟨s2, es2, e2, tk2⟩
       have hle : (ord t).take ((srt (nms t)).map V.str).length = ord t := by
         rw [List.length_map, (srt_perm _).length_eq, nms_len, ← len_ord t, List.take_length]
       rw [hle] at tk2
       have nn : n ∉ nms (cpH (h.take i)) := by
         rw [nms_cpH, nms_take]
         exact nd_at wf.nd (nms_at hn)
       have sd : Same H1 H2 := sp.trans s2
       have hd2' : Hl d2 = none := s1.free (sp.free hd2)
       obtain ⟨kvs2, k1, k2, k3⟩ := o1.push nn (sp.free hd2) hd2' sd e2 tk2
       have l3 : kvs2.length < sizeLine := by
         rw [k2]
         unfold cpH
         rw [List.length_map, List.length_take]
         exact len_small (by omega)
       refine ⟨kvs2, .inr n, rfl, k1, l3, ?_, ?_⟩
       · exact fun b o e => by
           have : b ≠ d := ne_of_none e hd
           rw [upd_ne this]
           exact sd b o (s1 b o e)
       · rw [cpH_take, take_more (cpH_at hn), ← cpH_take]
         exact k3
   · rintro H1 ⟨s1, o1⟩
     have e1 := s1 _ _ lkd.at_
     refine hQ' _ _ e1 ?_
     rw [hlen, List.take_length] at o1
     have na : ∀ b, Hl b = none → b ≠ a := fun b e z => by
       rw [z, lkd.at_] at e
       cases e
     exact hq d _ (lkd.same s1) ((lkd.own na e1 o1).imp fun b e => lkd.new.mp e)
  case len =>
   obtain ⟨N, a, h, rfl, _⟩ := h
   rfl

/-- change_tables(tables, edit) -/
def spCT (K : PySem.W.Frag) (C : Addr) : Sp := fun vs H Q E => ∃ (N : Addr → Prop) (a : Addr) (v : V) (h : Hs) (e : Ed), vs = [.ref a, v] ∧ Own K N H a h ∧ T K H ff v e.tr ∧ Wf h ∧ Fits 900 h ∧
  match app1 h e with
  | .ok h' => ∀ q es es', N q → H q = some (.dK es) → Own K N (upd H q (.dK es')) a h' → Q .non (upd H q (.dK es'))
  | .error (w, n) => XUnk C w n H E
theorem sc_change_tables : FnScope ["tables", "edit", "table"] ["tables", "edit"] (defScope s_change_tables) := ⟨rfl, rfl, rfl, by decide +kernel, rfl, by decide +kernel, by decide +kernel⟩
theorem d_change_tables (B : Bt mg) (F : TopF K mg "change_tables" s_change_tables ["tables", "edit"]) (D_check_edit : Df P w K mg base "check_edit" ["house", "edit"] 4 (spCE K C_Unknown)) : Df P w K mg base "change_tables" ["tables", "edit"] 5 (spCT K C_Unknown) := by
  refine F.df sc_change_tables (fun vs H Q E h => ?len) (fun f cdv A outer s H vs Q E hr h => ?body)
  case body =>
   have hu := hr.units
   refine ⟨_, (pss_cons (ps_expr (pe_df D_check_edit (hr.mono (by decide)) (fun σ => passAt (takes_of rfl rfl rfl rfl) σ) (pa_cons (pv 0) (pa_cons (pv 1) pa_nil))))
      (pss_cons (ps_set (i := 2) sc_change_tables.nd rfl (Or.inl rfl) (pe_ix (k_ix (K := K) rfl hu) (pv 0) (pe_ix (k_ix (K := K) rfl hu) (pv 1) pe_int (fun _ _ => rfl)) (fun _ _ => rfl)))
      (pss_one (ps_if (pt_cmpR (k_eq (K := K) rfl hu) (pe_ix (k_ix (K := K) rfl hu) (pv 1) pe_int (fun _ _ => rfl)) pe_str (nomark _))
      (pss_one (ps_asg (pe_ix (k_ix (K := K) rfl hu) (pv 1) pe_int (fun _ _ => rfl)) (pg_sub (pv 2) (pe_ix (k_ix (K := K) rfl hu) (pv 1) pe_int (fun _ _ => rfl)) (set_any hu))))
      (pss_one (ps_ddel (pv 2) (pe_ix (k_ix (K := K) rfl hu) (pv 1) pe_int (fun _ _ => rfl)))))))), ?_⟩
   obtain ⟨N, a, v, h, e, rfl, ho, he, wf, fit, hq⟩ := h
   walk_at "g"
   refine ⟨N, a, v, h, e, rfl, ho.T, he, ?_⟩
   cases e1 : lk h e.key with
   | none =>
     simp only [app1, e1] at hq ⊢
     exact hq
   | some t =>
     obtain ⟨kvs, q, es, h1, h2, h3, h4, nq, nr, ne, back⟩ := ho.at e1
     have hm := lk_mem e1
     have wt := wf.tab _ hm
     have ft : t.length ≤ 900 := fit _ hm
     have hl : es.length < sizeLine := by
       rw [h4.length]
       unfold tK
       rw [List.length_map]
       exact len_small (by omega)
     obtain ⟨b, rfl, he'⟩ := Ed.at he
     cases e with
     | put k n x =>
       obtain ⟨y, hs, ty⟩ := he'
       simp only [app1, e1] at hq ⊢
       walk_at "g"
       walk_at "ix"
       walk_at "g"
       refine q_ixK (.inr k) (.inl h1) h2 ?_
       walk_at "g"
       walk_at "ix"
       walk_at "g"
       rw [decide_eq_true rfl]
       walk_at "g"
       walk_at "ix"
       walk_at "g"
       walk_at "ix"
       refine q_setD (.inr n) h3 hl ?_
       refine hq q es _ nq h3 (back _ _ ?_)
       rw [← put_tK wt.1]
       exact h4.put ty
     | drop k n =>
       have hs := he'
       by_cases hn : n ∈ nms t
       · simp only [app1, e1, if_pos hn] at hq ⊢
         have hv : (valV es (.inr n)).isSome = true := by
           rw [h4.isSome, get_tK]
           cases e3 : lk t n with
           | none => exact absurd hn (lk_none.mp e3)
           | some _ => rfl
         walk_at "g"
         walk_at "ix"
         walk_at "g"
         refine q_ixK (.inr k) (.inl h1) h2 ?_
         walk_at "g"
         walk_at "ix"
         walk_at "g"
         rw [decide_eq_false (by decide)]
         walk_at "g"
         refine q_ddel ?_
         walk_at "g"
         walk_at "ix"
         refine ⟨q, es, .inr n, rfl, h3, rfl, hv, ?_⟩
         refine hq q es _ nq h3 (back _ _ ?_)
         rw [← del_tK wt.1]
         exact h4.del _
       · simp only [app1, e1, if_neg hn] at hq ⊢
         exact hq
  case len =>
   obtain ⟨N, a, b, h, e, rfl, _⟩ := h
   rfl
/-- apply_edits(house, edits) -/
def spAE (K : PySem.W.Frag) (C : Addr) : Sp := fun vs H Q E => ∃ (N : Addr → Prop) (a b : Addr) (h : Hs) (xs : List V) (es : List Ed), vs = [.ref a, .ref b] ∧ T K H N (.ref a) (.dic (hK h)) ∧ SqL K H b xs ∧ Ts K H ff xs (es.map Ed.tr) ∧
  Wf h ∧ (∀ e ∈ es, e.Imm) ∧ (∃ n, Fits n h ∧ n + es.length ≤ 60) ∧ h.length ≤ 900 ∧
  match appAll (cpH h) es with
  | .ok h' => ∀ r H', Same H H' → Own K (fun b => H b = none) H' r (cpH h') → Q (.ref r) H'
  | .error (w, n) => XUnk C w n H E
theorem sc_apply_edits : FnScope ["house", "edits", "tables", "edit"] ["house", "edits"] (defScope s_apply_edits) := ⟨rfl, rfl, rfl, by decide +kernel, rfl, by decide +kernel, by decide +kernel⟩
theorem d_apply_edits (B : Bt mg) (F : TopF K mg "apply_edits" s_apply_edits ["house", "edits"]) (D_copy_house : Df P w K mg base "copy_house" ["house"] 1 (spCH K)) (D_change_tables : Df P w K mg base "change_tables" ["tables", "edit"] 5 (spCT K C_Unknown)) : Df P w K mg base "apply_edits" ["house", "edits"] 6 (spAE K C_Unknown) := by
  refine F.df sc_apply_edits (fun vs H Q E h => ?len) (fun f cdv A outer s H vs Q E hr h => ?body)
  case body =>
   have hu := hr.units
   refine ⟨_, (pss_cons (ps_set (i := 2) sc_apply_edits.nd rfl (Or.inl rfl) (pe_df D_copy_house (hr.mono (by decide)) (fun σ => passAt (takes_of rfl rfl rfl rfl) σ) (pa_cons (pv 0) pa_nil)))
      (pss_cons (ps_lockU (ps_for (passes_of rfl) rfl (k_walk (K := K) rfl (pv 1)) (pg_name (i := 3) sc_apply_edits.nd rfl (Or.inl rfl))
      (pss_one (ps_expr (pe_df D_change_tables (hr.mono (by decide)) (fun σ => passAt (takes_of rfl rfl rfl rfl) σ) (pa_cons (pv 2) (pa_cons (pv 3) pa_nil)))))))
      (pss_one (ps_ret (pe_df D_copy_house (hr.mono (by decide)) (fun σ => passAt (takes_of rfl rfl rfl rfl) σ) (pa_cons (pv 2) pa_nil)))))), ?_⟩
   obtain ⟨N, a, b, h, xs, es, rfl, ha, hb, hxs, wf, im, ⟨n, fit, hn⟩, hl, hq⟩ := h
   walk_at "g"
   refine ⟨N, a, h, rfl, ha, wf, fun p hp => Nat.le_trans (fit p hp) (by omega), hl, fun r H1 s1 o1 => ?_⟩
   walk_at "g"
   refine .inl ?_
   walk_at "g"
   refine q_items ?_
   walk_at "g"
   refine q_itemsE (Sm.sqL s1 hb) ?_
   have hlen : xs.length = es.length := by rw [hxs.length, List.length_map]
   refine for_items (xs := xs) (fun i σ Hi => ∃ (v : Option V) (hi : Hs), σ = [some (.ref a), some (.ref b), some (.ref r), v] ∧ Same H Hi ∧ appAll (cpH h) (es.take i) = .ok hi ∧ Own K (fun b => H b = none) Hi r hi) ?_ ?_ ?_ ?_
   · exact ⟨none, cpH h, rfl, s1, rfl, o1⟩
   · rintro i σ Hi _ ⟨v, hi, rfl, si, _⟩
     exact Sm.sqL si hb
   · rintro i x σ Hi hx ⟨v, hi, rfl, si, ai, oi⟩
     obtain ⟨d, g1, g2⟩ := hxs.gets hx
     obtain ⟨e, he, rfl⟩ := map_at g1
     have imt : ∀ e ∈ es.take i, e.Imm := fun e m => im e (List.mem_of_mem_take m)
     obtain ⟨wi, fi, ni⟩ := appAll_ok wf.cp imt fit.cp ai
     have hlt : (es.take i).length ≤ es.length := by rw [List.length_take]; exact Nat.min_le_right _ _
     walk_at "g"
     refine ⟨_, r, x, hi, e, rfl, oi, g2.mono si, wi, fun p hp => Nat.le_trans (fi p hp) (by omega), ?_⟩
     cases q : app1 hi e with
     | ok h' =>
       intro q' es1 es2 nq eq o'
       refine ⟨_, h', rfl, ?_, ?_, o'⟩
       · intro z o ez
         rw [upd_ne (ne_of_none ez nq)]
         exact si z o ez
       · rw [appAll_more he ai, q]
     | error x =>
       obtain ⟨w1, n1⟩ := x
       rw [appAll_stop he ai q] at hq
       exact hq.mono si
   · rintro σ Hi ⟨v, hi, rfl, si, ai, oi⟩
     rw [hlen, List.take_length] at ai
     obtain ⟨wi, fi, ni⟩ := appAll_ok wf.cp im fit.cp ai
     rw [ai] at hq
     walk_at "g"
     refine ⟨_, r, hi, rfl, oi.T, wi, fun p hp => Nat.le_trans (fi p hp) hn, ?_, fun r2 H2 s2 o2 => hq r2 H2 (si.trans s2) (o2.imp fun b e => si.free e)⟩
     rw [len_of_nms ni, len_cp]
     exact hl
  case len =>
   obtain ⟨N, a, b, h, xs, es, rfl, _⟩ := h
   rfl
/-- apply_edit(house, edit) -/
def spA1 (K : PySem.W.Frag) (C : Addr) : Sp := fun vs H Q E => ∃ (N : Addr → Prop) (a : Addr) (v : V) (h : Hs) (e : Ed), vs = [.ref a, v] ∧ T K H N (.ref a) (.dic (hK h)) ∧ T K H ff v e.tr ∧
  Wf h ∧ e.Imm ∧ Fits 59 h ∧ h.length ≤ 900 ∧
  match app1 (cpH h) e with
  | .ok h' => ∀ r H', Same H H' → Own K (fun b => H b = none) H' r (cpH h') → Q (.ref r) H'
  | .error (w, n) => XUnk C w n H E
theorem sc_apply_edit : FnScope ["house", "edit"] ["house", "edit"] (defScope s_apply_edit) := ⟨rfl, rfl, rfl, by decide +kernel, rfl, by decide +kernel, by decide +kernel⟩
theorem d_apply_edit (B : Bt mg) (F : TopF K mg "apply_edit" s_apply_edit ["house", "edit"]) (D_apply_edits : Df P w K mg base "apply_edits" ["house", "edits"] 6 (spAE K C_Unknown)) : Df P w K mg base "apply_edit" ["house", "edit"] 7 (spA1 K C_Unknown) := by
  refine F.df sc_apply_edit (fun vs H Q E h => ?len) (fun f cdv A outer s H vs Q E hr h => ?body)
  case body =>
   have hu := hr.units
   refine ⟨_, (pss_one (ps_ret (pe_df D_apply_edits (hr.mono (by decide)) (fun σ => passAt (takes_of rfl rfl rfl rfl) σ) (pa_cons (pv 0) (pa_cons (pe_lst (pa_cons (pv 1) pa_nil)) pa_nil))))), ?_⟩
   obtain ⟨N, a, v, h, e, rfl, ha, he, wf, im, fit, hl, hq⟩ := h
   walk_at "g"
   intro p hp
   have s1 : Same H (upd H p (.lst [v])) := same_new hp
   walk_at "g"
   refine ⟨N, a, p, h, [v], [e], rfl, ha.mono s1, sq_new, .cons (he.mono s1) .nil, wf, fun x m => by rw [List.mem_singleton.mp m]; exact im, ⟨59, fit, Nat.le_refl 60⟩, hl, ?_⟩
   rw [appAll_one]
   cases q : app1 (cpH h) e with
   | ok h' =>
     rw [q] at hq
     exact fun r H' s o => hq r H' (s1.trans s) (o.imp fun b e => s1.free e)
   | error x =>
     rw [q] at hq
     exact XUnk.mono s1 hq
  case len =>
   obtain ⟨N, a, b, h, e, rfl, _⟩ := h
   rfl
/-- inverse(house, edit) -/
def spIV (K : PySem.W.Frag) (C : Addr) : Sp := fun vs H Q E => ∃ (N : Addr → Prop) (a : Addr) (v : V) (h : Hs) (e : Ed), vs = [.ref a, v] ∧ T K H N (.ref a) (.dic (hK h)) ∧ T K H ff v e.tr ∧ Wf h ∧
  match app1 h e with
  | .ok _ => ∀ u H', Same H H' → T K H' ff u (inv1 h e).tr → Q u H'
  | .error (w, n) => XUnk C w n H E
theorem sc_inverse : FnScope ["house", "edit", "key", "name"] ["house", "edit"] (defScope s_inverse) := ⟨rfl, rfl, rfl, by decide +kernel, rfl, by decide +kernel, by decide +kernel⟩
theorem d_inverse (B : Bt mg) (F : TopF K mg "inverse" s_inverse ["house", "edit"]) (D_check_edit : Df P w K mg base "check_edit" ["house", "edit"] 4 (spCE K C_Unknown)) : Df P w K mg base "inverse" ["house", "edit"] 5 (spIV K C_Unknown) := by
  refine F.df sc_inverse (fun vs H Q E h => ?len) (fun f cdv A outer s H vs Q E hr h => ?body)
  case body =>
   have hu := hr.units
   refine ⟨_, (pss_cons (ps_expr (pe_df D_check_edit (hr.mono (by decide)) (fun σ => passAt (takes_of rfl rfl rfl rfl) σ) (pa_cons (pv 0) (pa_cons (pv 1) pa_nil))))
      (pss_cons (ps_set (i := 2) sc_inverse.nd rfl (Or.inl rfl) (pe_ix (k_ix (K := K) rfl hu) (pv 1) pe_int (fun _ _ => rfl)))
      (pss_cons (ps_set (i := 3) sc_inverse.nd rfl (Or.inl rfl) (pe_ix (k_ix (K := K) rfl hu) (pv 1) pe_int (fun _ _ => rfl)))
      (pss_cons (ps_if (pt_cmpR (k_in (K := K) rfl hu) (pv 3) (pe_ix (k_ix (K := K) rfl hu) (pv 0) (pv 2) (fun _ _ => rfl)) (by rfl))
      (pss_one (ps_ret (pe_tup (pa_cons pe_str (pa_cons (pv 2) (pa_cons (pv 3) (pa_cons (pe_ix (k_ix (K := K) rfl hu) (pe_ix (k_ix (K := K) rfl hu) (pv 0) (pv 2) (fun _ _ => rfl)) (pv 3) (fun _ _ => rfl)) pa_nil)))))))
      pss_nil)
      (pss_one (ps_ret (pe_tup (pa_cons pe_str (pa_cons (pv 2) (pa_cons (pv 3) pa_nil)))))))))), ?_⟩
   obtain ⟨N, a, v, h, e, rfl, ha, he, wf, hq⟩ := h
   obtain ⟨a', kvs, ea, _, hr2, tk⟩ := ha.dicAt
   cases ea
   obtain ⟨b, rfl, he'⟩ := Ed.at he
   have hs : ∃ xs, SqT K H b (.str "put" :: .str e.key :: .str e.name :: xs) ∨ SqT K H b (.str "drop" :: .str e.key :: .str e.name :: xs) := by
     cases e with
     | put k n x =>
       obtain ⟨y, hs, _⟩ := he'
       exact ⟨[y], .inl hs⟩
     | drop k n => exact ⟨[], .inr he'⟩
   obtain ⟨ws, hw⟩ : ∃ ws, SqT K H b ws ∧ atI ws 1 = some (.str e.key) ∧ atI ws 2 = some (.str e.name) := by
     obtain ⟨xs, hs | hs⟩ := hs
     · exact ⟨_, hs, atI_nat (j := 1) rfl, atI_nat (j := 2) rfl⟩
     · exact ⟨_, hs, atI_nat (j := 1) rfl, atI_nat (j := 2) rfl⟩
   obtain ⟨hws, w1, w2⟩ := hw
   walk_at "g"
   refine ⟨N, a, .ref b, h, e, rfl, ha, he, ?_⟩
   cases q : app1 h e with
   | error x =>
     rw [q] at hq
     exact hq
   | ok h' =>
     rw [q] at hq
     cases e1 : lk h e.key with
     | none =>
       simp only [app1, e1] at q
       cases q
     | some t =>
       obtain ⟨q', es', h1, _, h2, h3⟩ := T.tab tk e1
       walk_at "g"
       refine q_ixT hws w1 ?_
       walk_at "g"
       refine q_ixT hws w2 ?_
       walk_at "g"
       refine q_ixK (.inr e.key) hr2 h1 ?_
       refine q_inD (.inr e.name) h2 ?_
       walk_at "g"
       cases e2 : lk t e.name with
       | some d =>
         obtain ⟨vd, g1, g2⟩ := h3.ent e2
         have tq : T K H ff vd d := g2.imm (immT_lk (wf.tab _ (lk_mem e1)).2 e2)
         rw [g1]
         walk_at "g"
         refine q_ixK (.inr e.key) hr2 h1 ?_
         walk_at "g"
         refine q_ixK (.inr e.name) h2 g1 ?_
         walk_at "g"
         intro p hp
         have s1 := same_new (o := .tup [.str "put", .str e.key, .str e.name, vd]) hp
         refine hq _ _ s1 ?_
         have ei : inv1 h e = .put e.key e.name d := by simp only [inv1, e1, e2]
         rw [ei]
         exact .tup st_new (.cons (.str _) (.cons (.str _) (.cons (.str _) (.cons (tq.mono s1) .nil))))
       | none =>
         have g1 := h3.nent e2
         rw [g1]
         walk_at "g"
         intro p hp
         have s1 := same_new (o := .tup [.str "drop", .str e.key, .str e.name]) hp
         refine hq _ _ s1 ?_
         have ei : inv1 h e = .drop e.key e.name := by simp only [inv1, e1, e2]
         rw [ei]
         exact .tup st_new (.cons (.str _) (.cons (.str _) (.cons (.str _) .nil)))
  case len =>
   obtain ⟨N, a, b, h, e, rfl, _⟩ := h
   rfl
/-- inverse_of(house, edits) -/
def spIO (K : PySem.W.Frag) (C : Addr) : Sp := fun vs H Q E => ∃ (N : Addr → Prop) (a b : Addr) (h : Hs) (xs : List V) (es : List Ed), vs = [.ref a, .ref b] ∧ T K H N (.ref a) (.dic (hK h)) ∧ SqL K H b xs ∧ Ts K H ff xs (es.map Ed.tr) ∧
  Wf h ∧ (∀ e ∈ es, e.Imm) ∧ (∃ n, Fits n h ∧ n + es.length ≤ 60) ∧ h.length ≤ 900 ∧
  match appAll (cpH h) es with
  | .ok _ => ∀ r H' ys, Same H H' → H r = none → H' r = some (.lst ys) → Ts K H' ff ys ((invs (cpH h) es).reverse.map Ed.tr) → Q (.ref r) H'
  | .error (w, n) => XUnk C w n H E
theorem sc_inverse_of : FnScope ["house", "edits", "tables", "found", "edit"] ["house", "edits"] (defScope s_inverse_of) := ⟨rfl, rfl, rfl, by decide +kernel, rfl, by decide +kernel, by decide +kernel⟩
theorem d_inverse_of (B : Bt mg) (F : TopF K mg "inverse_of" s_inverse_of ["house", "edits"]) (D_change_tables : Df P w K mg base "change_tables" ["tables", "edit"] 5 (spCT K C_Unknown)) (D_inverse : Df P w K mg base "inverse" ["house", "edit"] 5 (spIV K C_Unknown)) (D_copy_house : Df P w K mg base "copy_house" ["house"] 1 (spCH K)) : Df P w K mg base "inverse_of" ["house", "edits"] 6 (spIO K C_Unknown) := by
  refine F.df sc_inverse_of (fun vs H Q E h => ?len) (fun f cdv A outer s H vs Q E hr h => ?body)
  case body =>
   have hu := hr.units
   refine ⟨_, (pss_cons (ps_set (i := 2) sc_inverse_of.nd rfl (Or.inl rfl) (pe_df D_copy_house (hr.mono (by decide)) (fun σ => passAt (takes_of rfl rfl rfl rfl) σ) (pa_cons (pv 0) pa_nil)))
      (pss_cons (ps_set (i := 3) sc_inverse_of.nd rfl (Or.inl rfl) (pe_lst pa_nil))
      (pss_cons (ps_lockU (ps_for (passes_of rfl) rfl (k_walk (K := K) rfl (pv 1)) (pg_name (i := 4) sc_inverse_of.nd rfl (Or.inl rfl))
      (pss_cons (ps_expr (k_append (K := K) rfl (pv 3) (pa_cons (pe_df D_inverse (hr.mono (by decide)) (fun σ => passAt (takes_of rfl rfl rfl rfl) σ) (pa_cons (pv 2) (pa_cons (pv 4) pa_nil))) pa_nil)))
      (pss_one (ps_expr (pe_df D_change_tables (hr.mono (by decide)) (fun σ => passAt (takes_of rfl rfl rfl rfl) σ) (pa_cons (pv 2) (pa_cons (pv 4) pa_nil))))))))
      (pss_one (ps_ret (k_rev (K := K) rfl (pv 3))))))), ?_⟩
   obtain ⟨N, a, b, h, xs, es, rfl, ha, hb, hxs, wf, im, ⟨n, fit, hn⟩, hl, hq⟩ := h
   walk_at "g"
   refine ⟨N, a, h, rfl, ha, wf, fun p hp => Nat.le_trans (fit p hp) (by omega), hl, fun r H1 s1 o1' => ?_⟩
   have o1 := o1'.live
   walk_at "g"
   intro f hf
   have s2 : Same H1 (upd H1 f (.lst [])) := same_new hf
   have hf0 : H f = none := s1.free hf
   walk_at "g"
   refine .inl ?_
   walk_at "g"
   refine q_items ?_
   walk_at "g"
   refine q_itemsE (Sm.sqL (s1.trans s2) hb) ?_
   have hlen : xs.length = es.length := by rw [hxs.length, List.length_map]
   refine for_items (xs := xs) (fun i σ Hi => ∃ (v : Option V) (hi : Hs) (ys : List V), σ = [some (.ref a), some (.ref b), some (.ref r), some (.ref f), v] ∧ Same H Hi ∧ appAll (cpH h) (es.take i) = .ok hi ∧ Own K (fun b => H b = none ∧ H1 b ≠ none) Hi r hi ∧ Hi f = some (.lst ys) ∧
     Ts K Hi ff ys ((invs (cpH h) (es.take i)).map Ed.tr) ∧ ys.length = i) ?_ ?_ ?_ ?_
   · exact ⟨none, cpH h, [], rfl, s1.trans s2, rfl, o1.mono s2, upd_same, .nil, rfl⟩
   · rintro i σ Hi _ ⟨v, hi, ys, rfl, si, _⟩
     exact Sm.sqL si hb
   · rintro i x σ Hi hx ⟨v, hi, ys, rfl, si, ai, oi, fi, ti, li⟩
     obtain ⟨d, g1, g2⟩ := hxs.gets hx
     obtain ⟨e, he, rfl⟩ := map_at g1
     have imt : ∀ e ∈ es.take i, e.Imm := fun e m => im e (List.mem_of_mem_take m)
     obtain ⟨wi, fti, ni⟩ := appAll_ok wf.cp imt fit.cp ai
     have hlt : (es.take i).length ≤ es.length := by rw [List.length_take]; exact Nat.min_le_right _ _
     have hil : i < es.length := by
       rw [← hlen]
       exact (List.getElem?_eq_some_iff.mp hx).1
     walk_at "g"
     refine tyL fi ?_
     walk_at "g"
     refine ⟨_, r, x, hi, e, rfl, oi.T, g2.mono si, wi, ?_⟩
     cases q : app1 hi e with
     | error x =>
       obtain ⟨w1, n1⟩ := x
       rw [appAll_stop he ai q] at hq
       exact hq.mono si
     | ok h' =>
       intro u H2 s3 tu
       walk_at "g"
       refine q_append (s3 _ _ fi) (len_small (by omega)) ?_
       have nf : ∀ b, (H b = none ∧ H1 b ≠ none) → b ≠ f := fun b e z => e.2 (by rw [z]; exact hf)
       have o3 := (oi.mono s3).keep (keeps_upd (p := f) (o := .lst (ys ++ [u]))) (nt_of (s3 _ _ fi) (fun _ z => nomatch z) fun _ _ z => nomatch z) nf
       have t3 : Ts K (upd H2 f (.lst (ys ++ [u]))) ff (ys ++ [u]) ((invs (cpH h) (es.take (i + 1))).map Ed.tr) := by
         rw [invs_more he ai, List.map_append]
         exact ((ti.mono s3).append (.cons tu .nil)).upd (s3 _ _ fi) (fun _ z => nomatch z) (fun _ _ z => nomatch z) fun _ z => z.elim
       have sf : Same H (upd H2 f (.lst (ys ++ [u]))) := fun z o ez => by
         rw [upd_ne (ne_of_none ez hf0)]
         exact s3 _ _ (si z o ez)
       walk_at "g"
       refine ⟨_, r, x, hi, e, rfl, o3, g2.mono sf, wi, fun p hp => Nat.le_trans (fti p hp) (by omega), ?_⟩
       rw [q]
       intro q' es1 es2 nq eq o'
       have nqf : f ≠ q' := (nf q' nq).symm
       refine ⟨_, h', ys ++ [u], rfl, ?_, ?_, o', ?_, ?_, ?_⟩
       · intro z o ez
         rw [upd_ne (ne_of_none ez nq.1)]
         exact sf z o ez
       · rw [appAll_more he ai, q]
       · rw [upd_ne nqf, upd_same]
       · exact t3.upd eq (fun _ z => nomatch z) (fun _ _ z => nomatch z) fun _ z => z.elim
       · rw [List.length_append, li]
         rfl
   · rintro σ Hi ⟨v, hi, ys, rfl, si, ai, oi, fi, ti, li⟩
     rw [hlen, List.take_length] at ai ti
     rw [ai] at hq
     walk_at "g"
     refine q_rev ?_
     walk_at "g"
     refine ⟨f, ys, rfl, .inl (.inl fi), fun p hp => ?_⟩
     have s3 := same_new (o := .lst ys.reverse) hp
     refine hq p _ ys.reverse (si.trans s3) (si.free hp) upd_same ?_
     rw [List.map_reverse]
     exact (ti.mono s3).rev
  case len =>
   obtain ⟨N, a, b, h, xs, es, rfl, _⟩ := h
   rfl
/-- entry_in(house, key, name) -/
def spEI (K : PySem.W.Frag) (C : Addr) : Sp := fun vs H Q E => ∃ (N : Addr → Prop) (a : Addr) (k n : Str) (h : Hs), vs = [.ref a, .str k, .str n] ∧ T K H N (.ref a) (.dic (hK h)) ∧ Wf h ∧
  match lk h k with
  | some t => ∀ u H', Same H H' → T K H' ff u (match lk t n with | some d => .tup [.bl true, d] | none => .tup [.bl false, .non]) → Q u H'
  | none => XUnk C "table" k H E
theorem sc_entry_in : FnScope ["house", "key", "name"] ["house", "key", "name"] (defScope s_entry_in) := ⟨rfl, rfl, rfl, by decide +kernel, rfl, by decide +kernel, by decide +kernel⟩
theorem d_entry_in (B : Bt mg) (F : TopF K mg "entry_in" s_entry_in ["house", "key", "name"]) (D_check_key : Df P w K mg base "check_key" ["house", "key"] 3 (spCK C_Unknown)) : Df P w K mg base "entry_in" ["house", "key", "name"] 4 (spEI K C_Unknown) := by
  refine F.df sc_entry_in (fun vs H Q E h => ?len) (fun f cdv A outer s H vs Q E hr h => ?body)
  case body =>
   have hu := hr.units
   refine ⟨_, (pss_cons (ps_expr (pe_df D_check_key (hr.mono (by decide)) (fun σ => passAt (takes_of rfl rfl rfl rfl) σ) (pa_cons (pv 0) (pa_cons (pv 1) pa_nil))))
      (pss_cons (ps_if (pt_cmpR (k_in (K := K) rfl hu) (pv 2) (pe_ix (k_ix (K := K) rfl hu) (pv 0) (pv 1) (fun _ _ => rfl)) (by rfl))
      (pss_one (ps_ret (pe_tup (pa_cons pe_bl (pa_cons (pe_ix (k_ix (K := K) rfl hu) (pe_ix (k_ix (K := K) rfl hu) (pv 0) (pv 1) (fun _ _ => rfl)) (pv 2) (fun _ _ => rfl)) pa_nil)))))
      pss_nil)
      (pss_one (ps_ret (pe_tup (pa_cons pe_bl (pa_cons pe_non pa_nil))))))), ?_⟩
   obtain ⟨N, a, k, n, h, rfl, ha, wf, hq⟩ := h
   obtain ⟨a', kvs, ea, _, hr2, tk⟩ := ha.dicAt
   cases ea
   walk_at "g"
   refine ⟨a, kvs, k, rfl, hr2, fun hk => ?_, fun hk => ?_⟩
   · cases e1 : lk h k with
     | none =>
       rw [T.ntab tk e1] at hk
       cases hk
     | some t =>
       rw [e1] at hq
       obtain ⟨q', es', h1, _, h2, h3⟩ := T.tab tk e1
       walk_at "g"
       refine q_ixK (.inr k) hr2 h1 ?_
       refine q_inD (.inr n) h2 ?_
       walk_at "g"
       cases e2 : lk t n with
       | some d =>
         obtain ⟨vd, g1, g2⟩ := h3.ent e2
         have tq : T K H ff vd d := g2.imm (immT_lk (wf.tab _ (lk_mem e1)).2 e2)
         rw [g1]
         walk_at "g"
         refine q_ixK (.inr k) hr2 h1 ?_
         walk_at "g"
         refine q_ixK (.inr n) h2 g1 ?_
         walk_at "g"
         intro p hp
         have s1 := same_new (o := .tup [.bl true, vd]) hp
         refine hq _ _ s1 ?_
         rw [e2]
         exact .tup st_new (.cons (.bl _) (.cons (tq.mono s1) .nil))
       | none =>
         have g1 := h3.nent e2
         rw [g1]
         walk_at "g"
         intro p hp
         have s1 := same_new (o := .tup [.bl false, .non]) hp
         refine hq _ _ s1 ?_
         rw [e2]
         exact .tup st_new (.cons (.bl _) (.cons .non .nil))
   · cases e1 : lk h k with
     | none =>
       rw [e1] at hq
       exact hq
     | some t =>
       obtain ⟨q, es, h1, _⟩ := T.tab tk e1
       rw [h1] at hk
       cases hk
  case len =>
   obtain ⟨N, a, k, n, h, rfl, _⟩ := h
   rfl

/-- _law_jar(script): a list of numbers below 1000 -/
def spJar (K : PySem.W.Frag) : Sp := fun vs H Q _ => ∃ (a : Addr) (ns : List Int), vs = [.ref a] ∧ SqL K H a (ns.map V.int) ∧ ns.length ≤ 63 ∧
  ∀ (r : Addr) (H' : Hp) (ms : List Int), Same H H' → H r = none → H' r = some (.lst (ms.map V.int)) → ms.length ≤ 2000 → (∀ m ∈ ms, (0 : Int) ≤ m ∧ m < 1000) → Q (.ref r) H'
theorem cut_ints {ns : List Int} {lo hi : Option Int} {i : Nat} {x : V} (h : (cutV (ns.map V.int) lo hi)[i]? = some x) : ∃ n, x = .int n := by
  have m : x ∈ cutV (ns.map V.int) lo hi := mem_at h
  unfold cutV at m
  obtain ⟨n, _, e⟩ := List.mem_map.mp (List.mem_of_mem_drop (List.mem_of_mem_take m))
  exact ⟨n, e.symm⟩
theorem ints_snoc (ms : List Int) (x : Int) : ms.map V.int ++ [V.int x] = (ms ++ [x]).map V.int := by rw [List.map_append] <;> rfl
theorem snoc_bound {ms : List Int} {x : Int} (h : ∀ m ∈ ms, (0 : Int) ≤ m ∧ m < 1000) (hx : 0 ≤ x ∧ x < 1000) : ∀ m ∈ ms ++ [x], (0 : Int) ≤ m ∧ m < 1000 := fun m hm => by
  rcases List.mem_append.mp hm with q | q
  · exact h m q
  · rw [List.mem_singleton.mp q]
    exact hx
theorem sc_law_jar : FnScope ["script", "jar", "at", "cell", "number", "k", "low"] ["script"] (defScope s_law_jar) := ⟨rfl, rfl, rfl, by decide +kernel, rfl, by decide +kernel, by decide +kernel⟩
theorem d_law_jar (B : Bt mg) (F : TopF K mg "_law_jar" s_law_jar ["script"]) : Df P w K mg base "_law_jar" ["script"] 1 (spJar K) := by
  refine F.df sc_law_jar (fun vs H Q E h => ?len) (fun f cdv A outer s H vs Q E hr h => ?body)
  case body =>
   have hu := hr.units
   refine ⟨_, (pss_cons (ps_set (i := 1) sc_law_jar.nd rfl (Or.inl rfl) (pe_lst pa_nil))
      (pss_cons (ps_set (i := 2) sc_law_jar.nd rfl (Or.inl rfl) pe_int)
      (pss_cons (ps_lockU (ps_for (passes_of rfl) rfl (k_walk (K := K) rfl (pe_slice (k_sl (K := K) rfl) (pv 0) po_none (po_some pe_int))) (pg_name (i := 3) sc_law_jar.nd rfl (Or.inl rfl))
      (pss_cons (ps_set (i := 2) sc_law_jar.nd rfl (Or.inl rfl) (pe_op (k_add (K := K) rfl) (pv 2) pe_int))
      (pss_cons (ps_set (i := 4) sc_law_jar.nd rfl (Or.inl rfl) (pe_callB k_abs (by rfl) B.b_abs (by decide +kernel) (pa_cons (pe_callTy k_int (by rfl) B.b_int (by decide +kernel) (pa_cons (pv 3) pa_nil)) pa_nil)))
      (pss_one (ps_if (pt_cmpR op_ge (pv 4) pe_int (nomark _))
      (pss_one (ps_for (passes_of rfl) rfl (pi_range1 (by rfl) B.b_range (pa_cons pe_int pa_nil)) (pg_name (i := 5) sc_law_jar.nd rfl (Or.inl rfl))
      (pss_one (ps_if (pt_cmpR op_gt (pv 4) pe_int (nomark _))
      (pss_cons (ps_expr (k_append (K := K) rfl (pv 1) (pa_cons (pe_op op_modN (pv 4) pe_int) pa_nil)))
      (pss_one (ps_set (i := 4) sc_law_jar.nd rfl (Or.inl rfl) (pe_op op_fdivN (pv 4) pe_int))))
      pss_nil))))
      (pss_cons (ps_set (i := 6) sc_law_jar.nd rfl (Or.inl rfl) (pe_op op_modN (pv 4) pe_int))
      (pss_cons (ps_expr (k_append (K := K) rfl (pv 1) (pa_cons (pe_op op_modN (pv 6) pe_int) pa_nil)))
      (pss_cons (ps_expr (k_append (K := K) rfl (pv 1) (pa_cons (pe_op op_modN (pe_op op_mul (pv 6) (pe_op (k_add (K := K) rfl) (pv 6) (pe_op op_mul pe_int (pv 2)))) pe_int) pa_nil)))
      (pss_one (ps_expr (k_append (K := K) rfl (pv 1) (pa_cons (pe_op op_modN (pe_op op_fdivN (pe_op op_mul (pv 6) (pe_op (k_add (K := K) rfl) pe_int (pv 2))) pe_int) pe_int) pa_nil)))))))))))))
      (pss_one (ps_ret (pv 1)))))), ?_⟩
   obtain ⟨a, ns, rfl, ha, hns, hq⟩ := h
   walk_at "g"
   intro r hr1
   have s1 : Same H (upd H r (.lst [])) := same_new hr1
   walk_at "g"
   refine .inl ?_
   walk_at "g"
   refine q_items ?_
   walk_at "g"
   refine q_slL (Sm.sqL s1 ha) fun p hp => ?_
   generalize hxs : cutV (ns.map V.int) none (some 63) = xs
   have hxl : xs.length ≤ 63 := by
     rw [← hxs]
     have := cutV_length (ns.map V.int) none (some 63)
     rw [List.length_map] at this
     omega
   have hrp : r ≠ p := ne_of_none (H := upd H r (.lst [])) upd_same hp
   have s2 : Same (upd H r (.lst [])) (upd (upd H r (.lst [])) p (.lst xs)) := same_new hp
   refine q_itemsE sq_new ?_
   refine for_items (xs := xs) (fun i σ Hi => ∃ (v3 v4 v5 v6 : Option V) (ms : List Int), σ = [some (.ref a), some (.ref r), some (.int i), v3, v4, v5, v6] ∧ Same H Hi ∧ SqL K Hi p xs ∧ Hi r = some (.lst (ms.map V.int)) ∧ ms.length ≤ 20 * i ∧ ∀ m ∈ ms, (0 : Int) ≤ m ∧ m < 1000) ?_ ?_ ?_ ?_
   · exact ⟨none, none, none, none, [], rfl, s1.trans s2, sq_new, s2 _ _ upd_same, Nat.le_refl _, fun m hm => by cases hm⟩
   · rintro i σ Hi _ ⟨v3, v4, v5, v6, ms, rfl, si, sq, _⟩
     exact sq
   · rintro i x σ Hi hx ⟨v3, v4, v5, v6, ms, rfl, si, sq, er, hl, hb⟩
     obtain ⟨c, rfl⟩ : ∃ n, x = .int n := by
       rw [← hxs] at hx
       exact cut_ints hx
     have hi : i < 63 := Nat.lt_of_lt_of_le (List.getElem?_eq_some_iff.mp hx).1 hxl
     have step : ∀ {H2 : Hp} {o : HO}, Same H H2 → SqL K H2 p xs → H2 r = some o → (∀ u v, o ≠ .frz u v) → ∀ o', Same H (upd H2 r o') ∧ SqL K (upd H2 r o') p xs := fun {H2 o} s q e nf o' =>
       ⟨fun z u ez => by
         rw [upd_ne (ne_of_none ez hr1)]
         exact s z u ez, sqL_keep keeps_upd hrp.symm q⟩
     walk_at "g"
     refine q_intI ?_
     walk_at "g"
     refine q_abs ?_
     walk_at "g"
     generalize hn : (if c < 0 then -c else c) = n
     have hn0 : 0 ≤ n := by
       rw [← hn]
       split <;> omega
     refine q_dec (fun _ => ?_) (fun hlt => ?_)
     · -- a large number
       walk_at "g"
       refine ⟨20, rfl, by decide, by decide, ?_⟩
       refine for_rng (lo := 0) (n := 20) (fun k σ Hk => ∃ (n : Int) (v5 : Option V) (ms : List Int), σ = [some (.ref a), some (.ref r), some (.int (i + 1)), some (.int c), some (.int n), v5, v6] ∧ 0 ≤ n ∧ Same H Hk ∧ SqL K Hk p xs ∧ Hk r = some (.lst (ms.map V.int)) ∧ ms.length ≤ 20 * i + k ∧ ∀ m ∈ ms, (0 : Int) ≤ m ∧ m < 1000) ?_ ?_ ?_
       · exact ⟨n, v5, ms, rfl, hn0, si, sq, er, hl, hb⟩
       · rintro k σ Hk hk ⟨n, v5, ms, rfl, hn0, sk, sqk, ek, hlk, hbk⟩
         walk_at "g"
         refine q_dec (fun hpos => ?_) (fun _ => ?_)
         · walk_at "g"
           refine tyL ek ?_
           walk_at "g"
           refine q_I (by decide) ?_
           walk_at "g"
           refine q_append ek (by rw [List.length_map]; exact len_small (by omega)) ?_
           rw [ints_snoc]
           obtain ⟨z1, z2⟩ := step sk sqk ek (fun _ _ z => nomatch z) (.lst ((ms ++ [n.fmod 1000]).map V.int))
           walk_at "g"
           refine q_I ⟨by decide, by decide⟩ ?_
           walk_at "g"
           refine ⟨_, _, _, rfl, (fdiv_le (by decide) hn0).1, z1, z2, upd_same, ?_, snoc_bound hbk (fmod_lt (by decide))⟩
           rw [List.length_append]
           show ms.length + 1 ≤ _
           omega
         · walk_at "g"
           exact ⟨n, _, ms, rfl, hn0, sk, sqk, ek, by omega, hbk⟩
       · rintro σ Hk ⟨n, v5, ms, rfl, hn0, sk, sqk, ek, hlk, hbk⟩
         walk_at "g"
         exact ⟨some (.int c), some (.int n), v5, v6, ms, rfl, sk, sqk, ek, by omega, hbk⟩
     · walk_at "g"
       refine q_I (by decide) ?_
       walk_at "g"
       obtain ⟨l0, l1⟩ := fmod_lt (a := n) (b := 1000003) (by decide)
       generalize n.fmod 1000003 = low at l0 l1
       refine tyL er ?_
       walk_at "g"
       refine q_I (by decide) ?_
       walk_at "g"
       refine q_append er (by rw [List.length_map]; exact len_small (by omega)) ?_
       rw [ints_snoc]
       obtain ⟨z1, z2⟩ := step si sq er (fun _ _ z => nomatch z) (.lst ((ms ++ [low.fmod 1000]).map V.int))
       generalize hH1 : upd Hi r (.lst ((ms ++ [low.fmod 1000]).map V.int)) = Ha at z1 z2
       have ea : Ha r = some (.lst ((ms ++ [low.fmod 1000]).map V.int)) := by rw [← hH1]; exact upd_same
       have ba := snoc_bound hb (fmod_lt (a := low) (b := 1000) (by decide))
       have la : (ms ++ [low.fmod 1000]).length ≤ 20 * i + 1 := by
         rw [List.length_append]
         show ms.length + 1 ≤ _
         omega
       generalize ms ++ [low.fmod 1000] = msa at ea ba la
       walk_at "g"
       refine tyL ea ?_
       walk_at "g"
       refine q_I (.inl ⟨by decide, by decide⟩) ?_
       walk_at "g"
       refine q_I (.inl ⟨by omega, by omega⟩) ?_
       walk_at "g"
       refine q_I (by decide) ?_
       walk_at "g"
       obtain ⟨y0, y1⟩ := fmod_lt (a := low * (low + 7 * (i + 1))) (b := 991) (by decide)
       generalize (low * (low + 7 * (↑i + 1))).fmod 991 = y at y0 y1
       refine q_append ea (by rw [List.length_map]; exact len_small (by omega)) ?_
       rw [ints_snoc]
       obtain ⟨z3, z4⟩ := step z1 z2 ea (fun _ _ z => nomatch z) (.lst ((msa ++ [y]).map V.int))
       generalize hH2 : upd Ha r (.lst ((msa ++ [y]).map V.int)) = Hb at z3 z4
       have eb : Hb r = some (.lst ((msa ++ [y]).map V.int)) := by rw [← hH2]; exact upd_same
       have bb := snoc_bound ba (x := y) ⟨y0, by omega⟩
       have lb : (msa ++ [y]).length ≤ 20 * i + 2 := by
         rw [List.length_append]
         show msa.length + 1 ≤ _
         omega
       generalize msa ++ [y] = msb at eb bb lb
       walk_at "g"
       refine tyL eb ?_
       walk_at "g"
       refine q_I (.inl ⟨by omega, by omega⟩) ?_
       walk_at "g"
       refine q_I ⟨by decide, by decide⟩ ?_
       walk_at "g"
       refine q_I (by decide) ?_
       walk_at "g"
       obtain ⟨x0, x1⟩ := fmod_lt (a := (low * (31 + (i + 1))).fdiv 7) (b := 997) (by decide)
       generalize ((low * (31 + (↑i + 1))).fdiv 7).fmod 997 = x at x0 x1
       refine q_append eb (by rw [List.length_map]; exact len_small (by omega)) ?_
       rw [ints_snoc]
       obtain ⟨z5, z6⟩ := step z3 z4 eb (fun _ _ z => nomatch z) (.lst ((msb ++ [x]).map V.int))
       walk_at "g"
       refine ⟨_, _, _, _, msb ++ [x], rfl, z5, z6, upd_same, ?_, snoc_bound bb ⟨x0, by omega⟩⟩
       rw [List.length_append]
       show msb.length + 1 ≤ _
       omega
   · rintro σ Hi ⟨v3, v4, v5, v6, ms, rfl, si, sq, er, hl, hb⟩
     walk_at "g"
     exact hq r Hi ms si hr1 er (by omega) hb
  case len =>
   obtain ⟨a, ns, rfl, _⟩ := h
   rfl

abbrev lim : Int := 1000000000000
/-- _law_draw(jar, at, many): a number from 0 to many - 1, the place goes on -/
def spDraw : Sp := fun vs H Q _ => ∃ (j a : Addr) (p many : Int), vs = [.ref j, .ref a, .int many] ∧ Rnd H j a p ∧ p ≤ lim ∧ 0 < many ∧
  ∀ v p', 0 ≤ v → v < many → p ≤ p' → p' ≤ p + 1 → Q (.int v) (upd H a (.lst [.int p']))
theorem atI_int {ns : List Int} {p : Int} (h0 : 0 ≤ p) (h1 : p < ns.length) : ∃ n ∈ ns, atI (ns.map V.int) p = some (.int n) := by
  obtain ⟨k, rfl⟩ : ∃ k : Nat, p = k := ⟨p.toNat, by omega⟩
  have hk : k < ns.length := by omega
  exact ⟨ns[k], List.getElem_mem hk, atI_nat (by rw [List.getElem?_map, List.getElem?_eq_getElem hk]; rfl)⟩
theorem sc_law_draw : FnScope ["jar", "at", "many", "place"] ["jar", "at", "many"] (defScope s_law_draw) := ⟨rfl, rfl, rfl, by decide +kernel, rfl, by decide +kernel, by decide +kernel⟩
theorem d_law_draw (B : Bt mg) (F : TopF K mg "_law_draw" s_law_draw ["jar", "at", "many"]) : Df P w K mg base "_law_draw" ["jar", "at", "many"] 1 (spDraw) := by
  refine F.df sc_law_draw (fun vs H Q E h => ?len) (fun f cdv A outer s H vs Q E hr h => ?body)
  case body =>
   have hu := hr.units
   refine ⟨_, (pss_cons (ps_if (pt_cmpR (k_eq (K := K) rfl hu) (pe_callB (k_len (K := K) rfl) (by rfl) B.b_len (by decide +kernel) (pa_cons (pv 0) pa_nil)) pe_int (nomark _))
      (pss_one (ps_ret pe_int))
      pss_nil)
      (pss_cons (ps_set (i := 3) sc_law_draw.nd rfl (Or.inl rfl) (pe_ix (k_ix (K := K) rfl hu) (pv 1) pe_int (fun _ _ => rfl)))
      (pss_cons (ps_asg (pe_op (k_add (K := K) rfl) (pv 3) pe_int) (pg_sub (pv 1) pe_int (set_any hu)))
      (pss_cons (ps_if (pt_cmpR op_lt (pv 3) (pe_callB (k_len (K := K) rfl) (by rfl) B.b_len (by decide +kernel) (pa_cons (pv 0) pa_nil)) (nomark _))
      (pss_one (ps_ret (pe_op op_modN (pe_callTy k_int (by rfl) B.b_int (by decide +kernel) (pa_cons (pe_ix (k_ix (K := K) rfl hu) (pv 0) (pv 3) (fun _ _ => rfl)) pa_nil)) (pv 2))))
      pss_nil)
      (pss_one (ps_ret (pe_op op_modN (pe_op op_modN (pe_callTy k_int (by rfl) B.b_int (by decide +kernel) (pa_cons (pe_op (k_add (K := K) rfl) (pe_op (k_add (K := K) rfl) (pe_op op_mul (pe_ix (k_ix (K := K) rfl hu) (pv 0) (pe_op op_modN (pe_callTy k_int (by rfl) B.b_int (by decide +kernel) (pa_cons (pv 3) pa_nil)) (pe_callB (k_len (K := K) rfl) (by rfl) B.b_len (by decide +kernel) (pa_cons (pv 0) pa_nil))) (fun _ _ => rfl)) pe_int) (pe_op op_mul (pv 3) pe_int)) (pe_op op_mul (pe_op op_fdivN (pv 3) (pe_callB (k_len (K := K) rfl) (by rfl) B.b_len (by decide +kernel) (pa_cons (pv 0) pa_nil))) pe_int)) pa_nil)) pe_int) (pv 2)))))))), ?_⟩
   obtain ⟨j, a, p, many, rfl, hR, hp, hm, hq⟩ := h
   obtain ⟨ns, e1, l1, b1⟩ := hR.ex
   have p0 := hR.p0
   have ea := hR.at_
   walk_at "g"
   refine q_lenL (.inl (.inl e1)) ?_
   walk_at "g"
   rw [List.length_map]
   refine q_dec (fun h0 => ?_) (fun h0 => ?_)
   · walk_at "g"
     have := hq 0 p (Int.le_refl 0) hm (Int.le_refl p) (by omega)
     rw [upd_self ea] at this
     exact this
   · walk_at "g"
     refine q_ixL (.inl (.inl ea)) (atI_nat (j := 0) rfl) ?_
     walk_at "g"
     refine q_setL (j := 0) ea rfl ?_
     have hh := hq
     have e2 : (upd H a (.lst [.int (p + 1)])) j = some (.lst (ns.map V.int)) := by rw [upd_ne hR.ne]; exact e1
     walk_at "g"
     refine q_lenL (.inl (.inl e2)) ?_
     walk_at "g"
     rw [List.length_map]
     refine q_dec (fun h1 => ?_) (fun h1 => ?_)
     · obtain ⟨n, hn, hat⟩ := atI_int p0 h1
       walk_at "g"
       refine q_ixL (.inl (.inl e2)) hat ?_
       walk_at "g"
       refine q_intI ?_
       walk_at "g"
       refine q_I (show many ≠ 0 by omega) ?_
       obtain ⟨z1, z2⟩ := fmod_lt (a := n) hm
       exact hq _ (p + 1) z1 z2 (by omega) (by omega)
     · walk_at "g"
       refine q_intI ?_
       walk_at "g"
       refine q_lenL (.inl (.inl e2)) ?_
       have hl0 : (0 : Int) < ns.length := by omega
       walk_at "g"
       rw [List.length_map]
       refine q_I (show (ns.length : Int) ≠ 0 by omega) ?_
       walk_at "g"
       obtain ⟨z1, z2⟩ := fmod_lt (a := p) hl0
       obtain ⟨n, hn, hat⟩ := atI_int z1 z2
       have hb := b1 n hn
       refine q_ixL (.inl (.inl e2)) hat ?_
       walk_at "g"
       refine q_I (.inr ⟨by decide, by decide⟩) ?_
       walk_at "g"
       refine q_I (.inr ⟨by decide, by decide⟩) ?_
       walk_at "g"
       refine q_lenL (.inl (.inl e2)) ?_
       walk_at "g"
       rw [List.length_map]
       refine q_I ⟨show (ns.length : Int) ≠ 0 by omega, by omega⟩ ?_
       walk_at "g"
       refine q_I (.inr ⟨by decide, by decide⟩) ?_
       walk_at "g"
       refine q_intI ?_
       walk_at "g"
       refine q_I (by decide) ?_
       walk_at "g"
       refine q_I (show many ≠ 0 by omega) ?_
       generalize ((n * 61 + p * 37 + p.fdiv ↑(List.length ns) * 11).fmod 983) = y
       obtain ⟨z1, z2⟩ := fmod_lt (a := y) hm
       exact hq _ (p + 1) z1 z2 (by omega) (by omega)
  case len =>
   obtain ⟨j, a, p, many, rfl, _⟩ := h
   rfl
/-- an entry that is drawn -/
inductive Ent : Tr → Prop
  | int (i : Int) : 1 ≤ i → i ≤ 3 → Ent (.int i)
  | tup (k : Int) : 0 ≤ k → k < 3 → Ent (.tup [.str "b", .int k])
  | word : Ent (.str "word")
theorem Ent.imm {d : Tr} (h : Ent d) : imm d = true := by
  cases h <;> rfl
/-- _law_entry(jar, at) -/
def spEnt (K : PySem.W.Frag) : Sp := fun vs H Q _ => ∃ (j a : Addr) (p : Int), vs = [.ref j, .ref a] ∧ Rnd H j a p ∧ p + 1 ≤ lim ∧
  ∀ v d H' p', Ent d → Kp a H H' → Rnd H' j a p' → p ≤ p' → p' ≤ p + 2 → T K H' ff v d → Q v H'
theorem sc_law_entry : FnScope ["jar", "at", "pick"] ["jar", "at"] (defScope s_law_entry) := ⟨rfl, rfl, rfl, by decide +kernel, rfl, by decide +kernel, by decide +kernel⟩
theorem d_law_entry (B : Bt mg) (F : TopF K mg "_law_entry" s_law_entry ["jar", "at"]) (D_law_draw : Df P w K mg base "_law_draw" ["jar", "at", "many"] 1 (spDraw)) : Df P w K mg base "_law_entry" ["jar", "at"] 2 (spEnt K) := by
  refine F.df sc_law_entry (fun vs H Q E h => ?len) (fun f cdv A outer s H vs Q E hr h => ?body)
  case body =>
   have hu := hr.units
   refine ⟨_, (pss_cons (ps_set (i := 2) sc_law_entry.nd rfl (Or.inl rfl) (pe_df D_law_draw (hr.mono (by decide)) (fun σ => passAt (takes_of rfl rfl rfl rfl) σ) (pa_cons (pv 0) (pa_cons (pv 1) (pa_cons pe_int pa_nil)))))
      (pss_cons (ps_if (pt_cmpR op_lt (pv 2) pe_int (nomark _))
      (pss_one (ps_ret (pe_op (k_add (K := K) rfl) (pv 2) pe_int)))
      pss_nil)
      (pss_cons (ps_if (pt_cmpR (k_eq (K := K) rfl hu) (pv 2) pe_int (nomark _))
      (pss_one (ps_ret (pe_tup (pa_cons pe_str (pa_cons (pe_df D_law_draw (hr.mono (by decide)) (fun σ => passAt (takes_of rfl rfl rfl rfl) σ) (pa_cons (pv 0) (pa_cons (pv 1) (pa_cons pe_int pa_nil)))) pa_nil)))))
      pss_nil)
      (pss_one (ps_ret pe_str))))), ?_⟩
   obtain ⟨j, a, p, rfl, hR, hp, hq⟩ := h
   have p0 := hR.p0
   walk_at "g"
   refine ⟨j, a, p, 5, rfl, hR, by omega, by decide, fun v p1 v0 v1 h1 h2 => ?_⟩
   have R1 := hR.set (p' := p1) (by omega)
   have k1 : Kp a H (upd H a (.lst [.int p1])) := Kp.upd
   walk_at "g"
   refine q_dec (fun c => ?_) (fun c => ?_)
   · walk_at "g"
     exact hq _ (.int (v + 1)) _ p1 (.int _ (by omega) (by omega)) k1 R1 h1 (by omega) (.int _)
   · walk_at "g"
     refine q_dec (fun c2 => ?_) (fun c2 => ?_)
     · walk_at "g"
       refine ⟨j, a, p1, 3, rfl, R1, by omega, by decide, fun w p2 w0 w1 g1 g2 => ?_⟩
       have R2 := R1.set (p' := p2) (by omega)
       walk_at "g"
       intro t ht
       refine hq _ (.tup [.str "b", .int w]) _ p2 (.tup w w0 w1) ((k1.trans Kp.upd).new ?_) (R2.same (same_new ht)) (by omega) (by omega) (.tup st_new (.cons (.str _) (.cons (.int _) .nil)))
       cases z : H t with
       | none => rfl
       | some o =>
         by_cases hta : t = a
         · rw [hta, upd_same] at ht
           cases ht
         · rw [upd_ne hta, upd_ne hta, z] at ht
           cases ht
     · walk_at "g"
       exact hq _ (.str "word") _ p1 .word k1 R1 h1 (by omega) (.str _)
  case len =>
   obtain ⟨j, a, p, rfl, _⟩ := h
   rfl

-- _law_copy(house): as copy_house
theorem sc_law_copy : FnScope ["house", "found", "key", "name"] ["house"] (defScope s_law_copy) := ⟨rfl, rfl, rfl, by decide +kernel, rfl, by decide +kernel, by decide +kernel⟩
theorem d_law_copy (B : Bt mg) (F : TopF K mg "_law_copy" s_law_copy ["house"]) : Df P w K mg base "_law_copy" ["house"] 1 (spCH K) := by
  refine F.df sc_law_copy (fun vs H Q E h => ?len) (fun f cdv A outer s H vs Q E hr h => ?body)
  case body =>
   have hu := hr.units
   refine ⟨_, (pss_cons (ps_set (i := 1) sc_law_copy.nd rfl (Or.inl rfl) pe_dnewK)
      (pss_cons (ps_lockU (ps_for (passes_of rfl) rfl (k_walk (K := K) rfl (pv 0)) (pg_name (i := 2) sc_law_copy.nd rfl (Or.inl rfl))
      (pss_cons (ps_asg pe_dnewK (pg_sub (pv 1) (pv 2) (set_any hu)))
      (pss_one (ps_for (passes_of rfl) rfl (k_walk (K := K) rfl (pe_callB (k_sort (K := K) rfl rfl) (by rfl) B.b_sorted (by decide +kernel) (pa_cons (pe_ix (k_ix (K := K) rfl hu) (pv 0) (pv 2) (fun _ _ => rfl)) pa_nil))) (pg_name (i := 3) sc_law_copy.nd rfl (Or.inl rfl))
      (pss_one (ps_asg (pe_ix (k_ix (K := K) rfl hu) (pe_ix (k_ix (K := K) rfl hu) (pv 0) (pv 2) (fun _ _ => rfl)) (pv 3) (fun _ _ => rfl)) (pg_sub (pe_ix (k_ix (K := K) rfl hu) (pv 1) (pv 2) (fun _ _ => rfl)) (pv 3) (set_any hu)))))))))
      (pss_one (ps_ret (pv 1))))), ?_⟩
   obtain ⟨N, a, h, rfl, ha, wf, fit, hl, hq⟩ := h
   obtain ⟨a', kvs, ea, _, hrd, tk⟩ := ha.dicAt
   cases ea
   walk_at "g"
   intro r hr0
   have s0 : Same H (upd H r (.dK [])) := same_new hr0
   generalize hH0 : upd H r (.dK []) = Hz at s0
   have er0 : Hz r = some (.dK []) := by rw [← hH0]; exact upd_same
   walk_at "g"
   refine q_lockS (Sm.rd s0 hrd) fun Hl od un D' lkd hD' => ?_
   walk_at "g"
   refine q_keys ?_
   walk_at "g"
   refine q_keysE lkd.at_ ?_
   have hlen : kvs.length = h.length := by rw [tk.length]; unfold hK; rw [List.length_map]
   have L0 : Lk1 H a kvs od Hl := ⟨fun b o e n => lkd.l1.keep b o (s0 b o e) n, lkd.at_⟩
   have era : Hl r = some (.dK []) := by rw [lkd.el r (L0.ne hrd hr0)]; exact er0
   refine for_keysS (kvs := kvs) (fun i σ H1 => ∃ (v2 v3 : Option V), σ = [some (.ref a), some (.ref r), v2, v3] ∧ Lk1 H a kvs od H1 ∧ Own K (fun b => H b = none) H1 r (cpH (h.take i))) ?_ ?_ ?_ ?_
   · exact ⟨none, none, rfl, L0, by rw [List.take_zero]; exact Own.nil era hr0⟩
   · rintro i σ H1 _ ⟨v2, v3, rfl, l, _⟩
     exact l.at_
   · rintro i k v σ H1 hkv ⟨v2, v3, rfl, l1, o1⟩
     obtain ⟨d0, g1, g2⟩ := Tk.at tk hkv
     obtain ⟨n, t, hn, rfl, rfl⟩ := hK_at g1
     have hm := mem_at hn
     have wft := wf.tab _ hm
     have ft : t.length ≤ 60 := fit _ hm
     have hlk : lk h n = some t := lk_of_mem wf.nd hm
     obtain ⟨q', es', hv, _, hq2, tkq'⟩ := T.tab tk hlk
     have tkq := (tkq'.imm wft.2 : Tk K H ff es' (tK t))
     have nn : n ∉ nms (cpH (h.take i)) := by
       rw [nms_cpH, nms_take]
       exact nd_at wf.nd (nms_at hn)
     have hil : i < h.length := by
       rw [← hlen]
       exact (List.getElem?_eq_some_iff.mp hkv).1
     walk_at "g"
     intro q hqn
     have s2 : Same H1 (upd H1 q (.dK [])) := same_new hqn
     have hqf := l1.fresh hqn
     obtain ⟨kvs2, k1, k2, k3⟩ := o1.push (t := []) nn hqn hqf s2 upd_same .nil
     have l3 : kvs2.length < sizeLine := by
       rw [k2, len_cp, List.length_take]
       exact len_small (by omega)
     walk_at "g"
     refine q_setD (.inr n) k1 l3 ?_
     have l2 : Lk1 H a kvs od (upd (upd H1 q (.dK [])) r (.dK (putK kvs2 (.inr n) (.ref q)))) := (l1.upd hrd hqf).upd hrd hr0
     generalize hH2 : upd (upd H1 q (.dK [])) r (.dK (putK kvs2 (.inr n) (.ref q))) = H2 at k3 l2
     walk_at "g"
     refine q_items ?_
     walk_at "g"
     refine q_ixK (.inr n) (.inr ⟨od, l2.at_⟩) hv ?_
     walk_at "g"
     refine q_sortD (ks := nms t) ((l2.rs hrd).dk hq2) (by rw [tkq.keys, keys_tK]) (by rw [nms_len]; omega) fun p hp => ?_
     have s3 : Same H2 (upd H2 p (.lst ((srt (nms t)).map V.str))) := same_new hp
     generalize hH3 : upd H2 p (.lst ((srt (nms t)).map V.str)) = H3 at s3
     have ep3 : H3 p = some (.lst ((srt (nms t)).map V.str)) := by rw [← hH3]; exact upd_same
     have l3' := l2.same s3
     have hpf := l2.fresh hp
     refine q_itemsE (.inl (.inl ep3)) ?_
     have nn2 : n ∉ nms (cpH (h.take i)) := nn
     refine for_items (xs := (srt (nms t)).map V.str) (fun jj σ H4 => ∃ (v3 : Option V), σ = [some (.ref a), some (.ref r), some (.str n), v3] ∧ Lk1 H a kvs od H4 ∧ H4 p = some (.lst ((srt (nms t)).map V.str)) ∧ Own K (fun b => H b = none) H4 r (cpH (h.take i) ++ [(n, (ord t).take jj)])) ?_ ?_ ?_ ?_
     · exact ⟨v3, rfl, l3', ep3, by rw [List.take_zero]; exact k3.mono s3⟩
     · rintro jj σ H4 _ ⟨v3, rfl, l4, e4, o4⟩
       exact .inl (.inl e4)
     · rintro jj x σ H4 hx ⟨v3, rfl, l4, e4, o4⟩
       obtain ⟨m, hm2, rfl⟩ := srt_at hx
       obtain ⟨dm, ho, hlm⟩ := ord_at hm2
       obtain ⟨vm, hvm, tvm⟩ := tkq.ent hlm
       obtain ⟨kv4, q4, es4, c1, c2, c3, c4, c5, c6, c7, back⟩ := o4.at (lk_snoc nn)
       have hq4 : es4.length < sizeLine := by
         rw [c4.length]
         unfold tK
         rw [List.length_map, List.length_take, len_ord]
         exact len_small (by omega)
       walk_at "g"
       refine q_ixK (.inr n) (.inr ⟨od, l4.at_⟩) hv ?_
       walk_at "g"
       refine q_ixK (.inr m) ((l4.rs hrd).dk hq2) hvm ?_
       walk_at "g"
       refine q_ixK (.inr n) (.inl c1) c2 ?_
       walk_at "g"
       refine q_setD (.inr m) c3 hq4 ?_
       have nk : (Sum.inr m : Key) ∉ es4.map (·.1) := by
         rw [c4.keys, keys_tK, nms_take, nms_ord]
         exact fun z => nd_at ((srt_perm _).nodup_iff.mpr wft.1) hm2 (inr_mem.mp z)
       have tk5 : Tk K H4 ff (putK es4 (.inr m) vm) (tK ((ord t).take (jj + 1))) := by
         rw [putK_fresh nk, take_more ho, tK_snoc]
         exact c4.append (Tk.cons (k := Sum.inr m) (tvm.rs (l4.rs hrd)) .nil)
       have o5 := back _ _ tk5
       rw [put_snoc nn] at o5
       exact ⟨_, rfl, l4.upd hrd c5, sqL_dk c3 e4, o5⟩
     · rintro σ H4 ⟨v3, rfl, l4, e4, o4⟩
       have hle : (ord t).take ((srt (nms t)).map V.str).length = ord t := by
         rw [List.length_map, (srt_perm _).length_eq, nms_len, ← len_ord t, List.take_length]
       rw [hle] at o4
       refine ⟨some (.str n), v3, rfl, l4, ?_⟩
       rw [cpH_take, take_more (cpH_at hn), ← cpH_take]
       exact o4
   · rintro σ H1 ⟨v2, v3, rfl, l1, o1⟩
     refine hD'.nx _ _ l1.at_ ?_
     rw [hlen, List.take_length] at o1
     walk_at "g"
     exact hq r _ (l1.out lkd s0) (lkd.own (fun b e => l1.ne hrd e) l1.at_ o1)
  case len =>
   obtain ⟨N, a, h, rfl, _⟩ := h
   rfl

/-- _law_after(house, edit), the edit can be applied -/
def spAF (K : PySem.W.Frag) : Sp := fun vs H Q _ => ∃ (N : Addr → Prop) (a : Addr) (v : V) (h h' : Hs) (e : Ed), vs = [.ref a, v] ∧ T K H N (.ref a) (.dic (hK h)) ∧ T K H ff v e.tr ∧
  Wf h ∧ e.Imm ∧ Fits 59 h ∧ h.length ≤ 900 ∧ app1 (cpH h) e = .ok h' ∧ ∀ r H', Same H H' → Own K (fun b => H b = none) H' r (cpH h') → Q (.ref r) H'
theorem sc_law_after : FnScope ["house", "edit", "found"] ["house", "edit"] (defScope s_law_after) := ⟨rfl, rfl, rfl, by decide +kernel, rfl, by decide +kernel, by decide +kernel⟩
theorem d_law_after (B : Bt mg) (F : TopF K mg "_law_after" s_law_after ["house", "edit"]) (D_law_copy : Df P w K mg base "_law_copy" ["house"] 1 (spCH K)) : Df P w K mg base "_law_after" ["house", "edit"] 3 (spAF K) := by
  refine F.df sc_law_after (fun vs H Q E h => ?len) (fun f cdv A outer s H vs Q E hr h => ?body)
  case body =>
   have hu := hr.units
   refine ⟨_, (pss_cons (ps_set (i := 2) sc_law_after.nd rfl (Or.inl rfl) (pe_df D_law_copy (hr.mono (by decide)) (fun σ => passAt (takes_of rfl rfl rfl rfl) σ) (pa_cons (pv 0) pa_nil)))
      (pss_cons (ps_if (pt_cmpR (k_eq (K := K) rfl hu) (pe_ix (k_ix (K := K) rfl hu) (pv 1) pe_int (fun _ _ => rfl)) pe_str (nomark _))
      (pss_one (ps_asg (pe_ix (k_ix (K := K) rfl hu) (pv 1) pe_int (fun _ _ => rfl)) (pg_sub (pe_ix (k_ix (K := K) rfl hu) (pv 2) (pe_ix (k_ix (K := K) rfl hu) (pv 1) pe_int (fun _ _ => rfl)) (fun _ _ => rfl)) (pe_ix (k_ix (K := K) rfl hu) (pv 1) pe_int (fun _ _ => rfl)) (set_any hu))))
      (pss_one (ps_expr (pe_dpop1 (pe_ix (k_ix (K := K) rfl hu) (pv 2) (pe_ix (k_ix (K := K) rfl hu) (pv 1) pe_int (fun _ _ => rfl)) (fun _ _ => rfl)) (pe_ix (k_ix (K := K) rfl hu) (pv 1) pe_int (fun _ _ => rfl)) ⟨rfl, rfl, rfl, rfl⟩))))
      (pss_one (ps_ret (pe_df D_law_copy (hr.mono (by decide)) (fun σ => passAt (takes_of rfl rfl rfl rfl) σ) (pa_cons (pv 2) pa_nil)))))), ?_⟩
   obtain ⟨N, a, v, h, h', e, rfl, ha, he, wf, im, fit, hl, hap, hq⟩ := h
   obtain ⟨w', f', n'⟩ := app1_ok wf.cp im fit.cp hap
   walk_at "g"
   refine ⟨N, a, h, rfl, ha, wf, fun p hp => Nat.le_trans (fit p hp) (by decide), hl, fun r H1 s1 o1 => ?_⟩
   obtain ⟨b, rfl, he'⟩ := Ed.at (he.mono s1)
   cases e1 : lk (cpH h) e.key with
   | none =>
     simp only [app1, e1] at hap
     cases hap
   | some t =>
     obtain ⟨kvs, q, es, h1, h2, h3, h4, nq, nr, ne, back⟩ := o1.at e1
     have hm := lk_mem e1
     have wt := wf.cp.tab _ hm
     have ft : t.length ≤ 59 := fit.cp _ hm
     have hsz : es.length < sizeLine := by
       rw [h4.length]
       unfold tK
       rw [List.length_map]
       exact len_small (by omega)
     have fin : ∀ es', Own K (fun b => H b = none) (upd H1 q (.dK es')) r h' → tRet (tCallS (spCH K) (WE fun cls d _ H => E cls d H) (tCons (tVar 2) tNil)) { nx := fun _ H' => Q .non H', rt := Q } [some (.ref a), some (.ref b), some (.ref r)] (upd H1 q (.dK es')) := fun es' o' => by
       walk_at "g"
       refine ⟨_, r, h', rfl, o'.T, w', f', by rw [len_of_nms n', len_cp]; exact hl, fun r2 H2 s2 o2 => ?_⟩
       have sq : Same H (upd H1 q (.dK es')) := fun z o ez => by
         rw [upd_ne (ne_of_none ez nq)]
         exact s1 z o ez
       exact hq r2 H2 (sq.trans s2) (o2.imp fun b e => sq.free e)
     cases e with
     | put k n x =>
       obtain ⟨y, hs, ty⟩ := he'
       simp only [app1, e1] at hap
       cases hap
       walk_at "g"
       walk_at "ix"
       walk_at "g"
       rw [decide_eq_true rfl]
       walk_at "g"
       walk_at "ix"
       walk_at "g"
       walk_at "ix"
       walk_at "g"
       refine q_ixK (.inr k) (.inl h1) h2 ?_
       walk_at "g"
       walk_at "ix"
       refine q_setD (.inr n) h3 hsz ?_
       refine fin _ (back _ _ ?_)
       rw [← put_tK wt.1]
       exact h4.put ty
     | drop k n =>
       have hs := he'
       by_cases hn : n ∈ nms t
       · simp only [app1, e1, if_pos hn] at hap
         cases hap
         obtain ⟨d, e3⟩ : ∃ d, lk t n = some d := by
           cases e3 : lk t n with
           | none => exact absurd hn (lk_none.mp e3)
           | some d => exact ⟨d, rfl⟩
         obtain ⟨vd, g1, g2⟩ := h4.ent e3
         walk_at "g"
         walk_at "ix"
         walk_at "g"
         rw [decide_eq_false (by decide)]
         walk_at "g"
         refine q_dpop1 ?_
         walk_at "g"
         walk_at "ix"
         walk_at "g"
         refine q_ixK (.inr k) (.inl h1) h2 ?_
         refine ⟨q, rfl, .inl ⟨es, .inl h3⟩, ?_⟩
         walk_at "g"
         walk_at "ix"
         refine ⟨es, .inr n, vd, h3, rfl, g1, ?_⟩
         refine fin _ (back _ _ ?_)
         rw [← del_tK wt.1]
         exact h4.del _
       · simp only [app1, e1, if_neg hn] at hap
         cases hap
  case len =>
   obtain ⟨N, a, v, h, h', e, rfl, _⟩ := h
   rfl
/-- _law_back(house, edit) -/
def spLB (K : PySem.W.Frag) : Sp := fun vs H Q _ => ∃ (N : Addr → Prop) (a : Addr) (v : V) (h : Hs) (e : Ed) (t : Tab), vs = [.ref a, v] ∧ T K H N (.ref a) (.dic (hK h)) ∧ T K H ff v e.tr ∧ Wf h ∧ lk h e.key = some t ∧
  ∀ u H', Same H H' → T K H' ff u (inv1 h e).tr → Q u H'
theorem Ed.two {H : Hp} {v : V} {e : Ed} {N : Addr → Prop} (h : T K H N v e.tr) : ∃ b ws, v = .ref b ∧ SqT K H b ws ∧ atI ws 1 = some (.str e.key) ∧ atI ws 2 = some (.str e.name) := by
  obtain ⟨b, rfl, he⟩ := Ed.at h
  cases e with
  | put k n x =>
    obtain ⟨y, hs, _⟩ := he
    exact ⟨b, _, rfl, hs, atI_nat (j := 1) rfl, atI_nat (j := 2) rfl⟩
  | drop k n => exact ⟨b, _, rfl, he, atI_nat (j := 1) rfl, atI_nat (j := 2) rfl⟩
theorem sc_law_back : FnScope ["house", "edit"] ["house", "edit"] (defScope s_law_back) := ⟨rfl, rfl, rfl, by decide +kernel, rfl, by decide +kernel, by decide +kernel⟩
theorem d_law_back (B : Bt mg) (F : TopF K mg "_law_back" s_law_back ["house", "edit"]) : Df P w K mg base "_law_back" ["house", "edit"] 1 (spLB K) := by
  refine F.df sc_law_back (fun vs H Q E h => ?len) (fun f cdv A outer s H vs Q E hr h => ?body)
  case body =>
   have hu := hr.units
   refine ⟨_, (pss_cons (ps_if (pt_cmpR (k_in (K := K) rfl hu) (pe_ix (k_ix (K := K) rfl hu) (pv 1) pe_int (fun _ _ => rfl)) (pe_ix (k_ix (K := K) rfl hu) (pv 0) (pe_ix (k_ix (K := K) rfl hu) (pv 1) pe_int (fun _ _ => rfl)) (fun _ _ => rfl)) (by rfl))
      (pss_one (ps_ret (pe_tup (pa_cons pe_str (pa_cons (pe_ix (k_ix (K := K) rfl hu) (pv 1) pe_int (fun _ _ => rfl)) (pa_cons (pe_ix (k_ix (K := K) rfl hu) (pv 1) pe_int (fun _ _ => rfl)) (pa_cons (pe_ix (k_ix (K := K) rfl hu) (pe_ix (k_ix (K := K) rfl hu) (pv 0) (pe_ix (k_ix (K := K) rfl hu) (pv 1) pe_int (fun _ _ => rfl)) (fun _ _ => rfl)) (pe_ix (k_ix (K := K) rfl hu) (pv 1) pe_int (fun _ _ => rfl)) (fun _ _ => rfl)) pa_nil)))))))
      pss_nil)
      (pss_one (ps_ret (pe_tup (pa_cons pe_str (pa_cons (pe_ix (k_ix (K := K) rfl hu) (pv 1) pe_int (fun _ _ => rfl)) (pa_cons (pe_ix (k_ix (K := K) rfl hu) (pv 1) pe_int (fun _ _ => rfl)) pa_nil))))))), ?_⟩
   obtain ⟨N, a, v, h, e, t, rfl, ha, he, wf, e1, hq⟩ := h
   obtain ⟨a', kvs, ea, _, hr2, tk⟩ := ha.dicAt
   cases ea
   obtain ⟨b, ws, rfl, hws, w1, w2⟩ := Ed.two he
   obtain ⟨q', es', h1, _, h2, h3⟩ := T.tab tk e1
   walk_at "g"
   refine q_ixT hws w2 ?_
   walk_at "g"
   refine q_ixT hws w1 ?_
   refine q_ixK (.inr e.key) hr2 h1 ?_
   refine q_inD (.inr e.name) h2 ?_
   walk_at "g"
   cases e2 : lk t e.name with
   | some d =>
     obtain ⟨vd, g1, g2⟩ := h3.ent e2
     have tq : T K H ff vd d := g2.imm (immT_lk (wf.tab _ (lk_mem e1)).2 e2)
     rw [g1]
     walk_at "g"
     refine q_ixT hws w1 ?_
     walk_at "g"
     refine q_ixT hws w2 ?_
     walk_at "g"
     refine q_ixT hws w1 ?_
     refine q_ixK (.inr e.key) hr2 h1 ?_
     walk_at "g"
     refine q_ixT hws w2 ?_
     refine q_ixK (.inr e.name) h2 g1 ?_
     walk_at "g"
     intro p hp
     have s1 := same_new (o := .tup [.str "put", .str e.key, .str e.name, vd]) hp
     refine hq _ _ s1 ?_
     have ei : inv1 h e = .put e.key e.name d := by simp only [inv1, e1, e2]
     rw [ei]
     exact .tup st_new (.cons (.str _) (.cons (.str _) (.cons (.str _) (.cons (tq.mono s1) .nil))))
   | none =>
     have g1 := h3.nent e2
     rw [g1]
     walk_at "g"
     refine q_ixT hws w1 ?_
     walk_at "g"
     refine q_ixT hws w2 ?_
     walk_at "g"
     intro p hp
     have s1 := same_new (o := .tup [.str "drop", .str e.key, .str e.name]) hp
     refine hq _ _ s1 ?_
     have ei : inv1 h e = .drop e.key e.name := by simp only [inv1, e1, e2]
     rw [ei]
     exact .tup st_new (.cons (.str _) (.cons (.str _) (.cons (.str _) .nil)))
  case len =>
   obtain ⟨N, a, v, h, e, t, rfl, _⟩ := h
   rfl
/-- _law_same(told, house): True of one house twice, its tables in order -/
def spSame (K : PySem.W.Frag) : Sp := fun vs H Q _ => ∃ (N1 N2 : Addr → Prop) (a b : Addr) (h : Hs), vs = [.ref a, .ref b] ∧ T K H N1 (.ref a) (.dic (hK h)) ∧ T K H N2 (.ref b) (.dic (hK h)) ∧ Wf h ∧ Sml h ∧ AscH h ∧ Fits 60 h ∧ h.length ≤ 900 ∧
  ∀ H', Same H H' → Q (.bl true) H'
theorem sc_law_same : FnScope ["told", "house", "key"] ["told", "house"] (defScope s_law_same) := ⟨rfl, rfl, rfl, by decide +kernel, rfl, by decide +kernel, by decide +kernel⟩
theorem d_law_same (B : Bt mg) (F : TopF K mg "_law_same" s_law_same ["told", "house"]) : Df P w K mg base "_law_same" ["told", "house"] 1 (spSame K) := by
  refine F.df sc_law_same (fun vs H Q E h => ?len) (fun f cdv A outer s H vs Q E hr h => ?body)
  case body =>
   have hu := hr.units
   refine ⟨_, (pss_cons (ps_if (PW.pt (pw_or (pt_not (k_tr (K := K) rfl (pe_callB (k_isi (K := K) rfl) (by rfl) B.b_isinstance (by decide +kernel) (pa_cons (pv 0) (pa_cons (pe_bltn (v := .ty "dict") (by rfl) B.b_dict (by decide +kernel) rfl) pa_nil))))) (pw_or1 (pt_cmpR (k_ne (K := K) rfl hu) (pe_callTy (k_list (K := K) rfl rfl) (by rfl) B.b_list (by decide +kernel) (pa_cons (pv 0) pa_nil)) (pe_callTy (k_list (K := K) rfl rfl) (by rfl) B.b_list (by decide +kernel) (pa_cons (pv 1) pa_nil)) (nomark _)))))
      (pss_one (ps_ret pe_bl))
      pss_nil)
      (pss_cons (ps_lockU (ps_for (passes_of rfl) rfl (k_walk (K := K) rfl (pv 1)) (pg_name (i := 2) sc_law_same.nd rfl (Or.inl rfl))
      (pss_one (ps_if (PW.pt (pw_or (pt_not (k_tr (K := K) rfl (pe_callB (k_isi (K := K) rfl) (by rfl) B.b_isinstance (by decide +kernel) (pa_cons (pe_ix (k_ix (K := K) rfl hu) (pv 0) (pv 2) (fun _ _ => rfl)) (pa_cons (pe_bltn (v := .ty "dict") (by rfl) B.b_dict (by decide +kernel) rfl) pa_nil))))) (pw_or (pt_cmpR (k_ne (K := K) rfl hu) (pe_callTy (k_list (K := K) rfl rfl) (by rfl) B.b_list (by decide +kernel) (pa_cons (pe_ix (k_ix (K := K) rfl hu) (pv 0) (pv 2) (fun _ _ => rfl)) pa_nil)) (pe_callB (k_sort (K := K) rfl rfl) (by rfl) B.b_sorted (by decide +kernel) (pa_cons (pe_ix (k_ix (K := K) rfl hu) (pv 1) (pv 2) (fun _ _ => rfl)) pa_nil)) (nomark _)) (pw_or1 (pt_cmpR (k_ne (K := K) rfl hu) (pe_ix (k_ix (K := K) rfl hu) (pv 0) (pv 2) (fun _ _ => rfl)) (pe_ix (k_ix (K := K) rfl hu) (pv 1) (pv 2) (fun _ _ => rfl)) (nomark _))))))
      (pss_one (ps_ret pe_bl))
      pss_nil))))
      (pss_one (ps_ret pe_bl)))), ?_⟩
   obtain ⟨N1, N2, a, b, h, rfl, ha, hb, wf, sm, asc, fit, hl, hq⟩ := h
   obtain ⟨a', ka, ea, _, hra, tka⟩ := ha.dicAt
   cases ea
   obtain ⟨b', kb, eb, _, hrb, tkb⟩ := hb.dicAt
   cases eb
   have ka1 := tka.keys.trans (keys_hK h)
   have kb1 := tkb.keys.trans (keys_hK h)
   walk_at "g"
   refine q_isiD hra ?_
   walk_at "g"
   refine q_listK hra fun p hp => ?_
   have s1 := same_new (o := .lst (ka.map fun kv => kV kv.1)) hp
   walk_at "g"
   refine q_listK (Sm.rd s1 hrb) fun q hq1 => ?_
   have s2 := same_new (o := .lst (kb.map fun kv => kV kv.1)) hq1
   refine q_neStrs (ss := nms h) (by rw [← keysV ka1]; exact Sm.sqL s2 sq_new) (by rw [← keysV kb1]; exact sq_new) ?_
   have s3 := s1.trans s2
   generalize hHz : upd (upd H p (.lst (ka.map fun kv => kV kv.1))) q (.lst (kb.map fun kv => kV kv.1)) = Hz at s3
   walk_at "g"
   refine q_lockS (Sm.rd s3 hrb) fun Hl od un D' lkd hD' => ?_
   walk_at "g"
   refine q_keys ?_
   walk_at "g"
   refine q_keysE lkd.at_ ?_
   have hlen : kb.length = h.length := by rw [tkb.length]; unfold hK; rw [List.length_map]
   have L0 : Lk1 H b kb od Hl := ⟨fun c o e n => lkd.l1.keep c o (s3 c o e) n, lkd.at_⟩
   refine for_keysS (kvs := kb) (fun i σ H1 => ∃ (v2 : Option V), σ = [some (.ref a), some (.ref b), v2] ∧ Lk1 H b kb od H1) ?_ ?_ ?_ ?_
   · exact ⟨none, rfl, L0⟩
   · rintro i σ H1 _ ⟨v2, rfl, l⟩
     exact l.at_
   · rintro i k v σ H1 hkv ⟨v2, rfl, l1⟩
     obtain ⟨d0, g1, g2⟩ := Tk.at tkb hkv
     obtain ⟨n, t, hn, rfl, rfl⟩ := hK_at g1
     have hm := mem_at hn
     have wft := wf.tab _ hm
     have ft : t.length ≤ 60 := fit _ hm
     have hlk : lk h n = some t := lk_of_mem wf.nd hm
     obtain ⟨qa, ea, hva, _, hqa, tqa⟩ := T.tab tka hlk
     obtain ⟨qb, eb, hvb, _, hqb, tqb⟩ := T.tab tkb hlk
     have rs := l1.rs hrb
     walk_at "g"
     refine q_ixK (.inr n) (rs.dk hra) hva ?_
     walk_at "g"
     refine q_isiD (rs.dk hqa) ?_
     walk_at "g"
     refine q_ixK (.inr n) (rs.dk hra) hva ?_
     walk_at "g"
     refine q_listK (rs.dk hqa) fun p hp => ?_
     have s4 := same_new (o := .lst (ea.map fun kv => kV kv.1)) hp
     have rs4 := rs.trans (RS.of s4)
     walk_at "g"
     refine q_ixK (.inr n) (rs4.dk hrb) hvb ?_
     walk_at "g"
     refine q_sortD (ks := nms t) (rs4.dk hqb) (by rw [tqb.keys, keys_tK]) (by rw [nms_len]; omega) fun q hq2 => ?_
     have s5 := same_new (o := .lst ((srt (nms t)).map V.str)) hq2
     have rs5 := rs4.trans (RS.of s5)
     refine q_neStrs (ss := nms t) (by rw [← keysV (tqa.keys.trans (keys_tK t))]; exact Sm.sqL s5 sq_new) (by rw [srt_of_asc (asc _ hm)]; exact sq_new) ?_
     walk_at "g"
     refine q_ixK (.inr n) (rs5.dk hra) hva ?_
     walk_at "g"
     refine q_ixK (.inr n) (rs5.dk hrb) hvb ?_
     refine q_neTab (rs5.dk hqa) (rs5.dk hqb) (tqa.rs rs5) (tqb.rs rs5) wft.1 (wf.ent sm hm) ?_
     walk_at "g"
     exact ⟨_, rfl, (l1.same s4).same s5⟩
   · rintro σ H1 ⟨v2, rfl, l1⟩
     refine hD'.nx _ _ l1.at_ ?_
     walk_at "g"
     exact hq _ (l1.out lkd s3)
  case len =>
   obtain ⟨N1, N2, a, b, h, rfl, _⟩ := h
   rfl

abbrev keysL : List Str := ["t", "lanes", "a0"]
abbrev namesL : List Str := ["c", "a", "b10", "b9"]
/-- a house that is drawn -/
structure HG (h : Hs) : Prop where
  wf : Wf h
  keys : ∃ n, 1 ≤ n ∧ n ≤ 3 ∧ nms h = keysL.take n
  ent : ∀ q ∈ h, q.2.length ≤ 4 ∧ ∀ x ∈ q.2, x.1 ∈ namesL ∧ Ent x.2
/-- _law_house(jar, at) -/
def spHouse (K : PySem.W.Frag) : Sp := fun vs H Q _ => ∃ (j a : Addr) (p : Int), vs = [.ref j, .ref a] ∧ Rnd H j a p ∧ p + 200 ≤ lim ∧
  ∀ r h H' p', Kp a H H' → Rnd H' j a p' → p ≤ p' → p' ≤ p + 200 → H r = none → Own K (fun b => H b = none) H' r h → HG h → Q (.ref r) H'
theorem keysL_nd : keysL.Nodup := by decide +kernel
theorem namesL_nd : namesL.Nodup := by decide +kernel
theorem sc_law_house : FnScope ["jar", "at", "house", "key", "name"] ["jar", "at"] (defScope s_law_house) := ⟨rfl, rfl, rfl, by decide +kernel, rfl, by decide +kernel, by decide +kernel⟩
theorem d_law_house (B : Bt mg) (F : TopF K mg "_law_house" s_law_house ["jar", "at"]) (D_law_draw : Df P w K mg base "_law_draw" ["jar", "at", "many"] 1 (spDraw)) (D_law_entry : Df P w K mg base "_law_entry" ["jar", "at"] 2 (spEnt K)) : Df P w K mg base "_law_house" ["jar", "at"] 3 (spHouse K) := by
  refine F.df sc_law_house (fun vs H Q E h => ?len) (fun f cdv A outer s H vs Q E hr h => ?body)
  case body =>
   have hu := hr.units
   refine ⟨_, (pss_cons (ps_set (i := 2) sc_law_house.nd rfl (Or.inl rfl) pe_dnewK)
      (pss_cons (ps_lockU (ps_for (passes_of rfl) rfl (k_walk (K := K) rfl (pe_slice (k_sl (K := K) rfl) (pe_lst (pa_cons pe_str (pa_cons pe_str (pa_cons pe_str pa_nil)))) po_none (po_some (pe_op (k_add (K := K) rfl) pe_int (pe_df D_law_draw (hr.mono (by decide)) (fun σ => passAt (takes_of rfl rfl rfl rfl) σ) (pa_cons (pv 0) (pa_cons (pv 1) (pa_cons pe_int pa_nil)))))))) (pg_name (i := 3) sc_law_house.nd rfl (Or.inl rfl))
      (pss_cons (ps_asg pe_dnewK (pg_sub (pv 2) (pv 3) (set_any hu)))
      (pss_one (ps_lockU (ps_for (passes_of rfl) rfl (k_walk (K := K) rfl (pe_lst (pa_cons pe_str (pa_cons pe_str (pa_cons pe_str (pa_cons pe_str pa_nil)))))) (pg_name (i := 4) sc_law_house.nd rfl (Or.inl rfl))
      (pss_one (ps_if (pt_cmpR (k_eq (K := K) rfl hu) (pe_df D_law_draw (hr.mono (by decide)) (fun σ => passAt (takes_of rfl rfl rfl rfl) σ) (pa_cons (pv 0) (pa_cons (pv 1) (pa_cons pe_int pa_nil)))) pe_int (nomark _))
      (pss_one (ps_asg (pe_df D_law_entry (hr.mono (by decide)) (fun σ => passAt (takes_of rfl rfl rfl rfl) σ) (pa_cons (pv 0) (pa_cons (pv 1) pa_nil))) (pg_sub (pe_ix (k_ix (K := K) rfl hu) (pv 2) (pv 3) (fun _ _ => rfl)) (pv 4) (set_any hu))))
      pss_nil))))))))
      (pss_one (ps_ret (pv 2))))), ?_⟩
   obtain ⟨j, a, p, rfl, hR, hp, hq⟩ := h
   have p0 := hR.p0
   walk_at "g"
   intro r hr0
   obtain ⟨rj, ra⟩ := hR.ja hr0
   have s1 : Same H (upd H r (.dK [])) := same_new hr0
   walk_at "g"
   refine .inl ?_
   walk_at "g"
   refine q_items ?_
   walk_at "g"
   intro pl0 hpl0
   rw [show [V.str (PySem.Str.ofString "t"), V.str (PySem.Str.ofString "lanes"), V.str (PySem.Str.ofString "a0")] = keysL.map V.str from rfl]
   have s2 : Same (upd H r (.dK [])) (upd (upd H r (.dK [])) pl0 (.lst (keysL.map V.str))) := same_new hpl0
   have hpl0' : H pl0 = none := s1.free hpl0
   walk_at "g"
   refine ⟨j, a, p, 3, rfl, hR.same (s1.trans s2), by omega, by decide, fun v p1 v0 v1 h1 h2 => ?_⟩
   have R2 := (hR.same (s1.trans s2)).set (p' := p1) (by omega)
   walk_at "g"
   have e3 : (upd (upd (upd H r (.dK [])) pl0 (.lst (keysL.map V.str))) a (.lst [.int p1])) pl0 = some (.lst (keysL.map V.str)) := by
     rw [upd_ne (hR.ja hpl0').2, upd_same]
   have k2 : Kp a H (upd (upd (upd H r (.dK [])) pl0 (.lst (keysL.map V.str))) a (.lst [.int p1])) := (Kp.of (s1.trans s2)).trans Kp.upd
   have er : (upd (upd (upd H r (.dK [])) pl0 (.lst (keysL.map V.str))) a (.lst [.int p1])) r = some (.dK []) := by
     rw [upd_ne ra]
     exact s2 _ _ upd_same
   generalize upd (upd (upd H r (.dK [])) pl0 (.lst (keysL.map V.str))) a (.lst [.int p1]) = Hb at R2 e3 k2 er
   refine q_slL (.inl (.inl e3)) fun pl hpl => ?_
   obtain ⟨n, hn1, hn3, hcut⟩ : ∃ n, 1 ≤ n ∧ n ≤ 3 ∧ cutV (keysL.map V.str) none (some (1 + v)) = (keysL.take n).map V.str := by
     refine ⟨(1 + v).toNat, by omega, by omega, ?_⟩
     have : (1 + v) = (((1 + v).toNat : Nat) : Int) := by omega
     rw [this]
     exact cutV_take (by show (1 + v).toNat ≤ 3; omega)
   rw [hcut]
   have s4 : Same Hb (upd Hb pl (.lst ((keysL.take n).map V.str))) := same_new hpl
   have hplf : H pl = none := k2.fresh R2.at_ hpl
   have R3 := R2.same s4
   have k3 := k2.trans (Kp.of s4)
   have e4 := s4 _ _ er
   have e5 : (upd Hb pl (.lst ((keysL.take n).map V.str))) pl = some (.lst ((keysL.take n).map V.str)) := upd_same
   generalize upd Hb pl (.lst ((keysL.take n).map V.str)) = Hc at R3 k3 e4 e5
   have hNa : ∀ b, H b = none → b ≠ a := fun b e z => (hR.ja e).2 z
   have klen : (keysL.take n).length = n := by rw [List.length_take]; show min n 3 = n; omega
   refine q_itemsE (.inl (.inl e5)) ?_
   refine for_items (xs := (keysL.take n).map V.str) (fun i σ Hi => ∃ (v3 v4 : Option V) (hi : Hs) (pi : Int), σ = [some (.ref j), some (.ref a), some (.ref r), v3, v4] ∧ Kp a H Hi ∧ Rnd Hi j a pi ∧ p ≤ pi ∧ pi ≤ p + 1 + i * 20 ∧ Hi pl = some (.lst ((keysL.take n).map V.str)) ∧
     Own K (fun b => H b = none) Hi r hi ∧ nms hi = keysL.take i ∧ Wf hi ∧ ∀ q ∈ hi, q.2.length ≤ 4 ∧ ∀ x ∈ q.2, x.1 ∈ namesL ∧ Ent x.2) ?_ ?_ ?_ ?_
   · exact ⟨none, none, [], p1, rfl, k3, R3, h1, by omega, e5, Own.nil e4 hr0, rfl, ⟨List.nodup_nil, fun p hp => nomatch hp⟩, fun q hq => nomatch hq⟩
   · rintro i σ Hi _ ⟨v3, v4, hi, pi, rfl, _, _, _, _, e, _⟩
     exact .inl (.inl e)
   · rintro i x σ Hi hx ⟨v3, v4, hi, pi, rfl, ki, Ri, g1, g2, ei, oi, nmi, wfi, enti⟩
     obtain ⟨key, hkey, rfl⟩ := hlist_at hx
     have hin : i < n := by
       have := (List.getElem?_eq_some_iff.mp hkey).1
       rw [klen] at this
       exact this
     have hkey2 : keysL[i]? = some key := by
       rw [List.getElem?_take_of_lt hin] at hkey
       exact hkey
     have nk : key ∉ nms hi := by
       rw [nmi]
       exact nd_at keysL_nd hkey2
     have hil : hi.length ≤ 3 := by rw [← nms_len, nmi, List.length_take]; exact Nat.min_le_right _ _
     walk_at "g"
     intro q hqn
     have hqf : H q = none := ki.fresh Ri.at_ hqn
     obtain ⟨kvs2, c1, c2, c3⟩ := oi.push (t := []) nk hqn hqf (same_new hqn) upd_same .nil
     walk_at "g"
     refine q_setD (.inr key) c1 (by rw [c2]; exact len_small (by omega)) ?_
     have kj : Kp a H (upd (upd Hi q (.dK [])) r (.dK (putK kvs2 (.inr key) (.ref q)))) := (ki.trans (Kp.of (same_new hqn))).new hr0
     have Rj : Rnd (upd (upd Hi q (.dK [])) r (.dK (putK kvs2 (.inr key) (.ref q)))) j a pi := (Ri.same (same_new hqn)).upd c1 rj ra
     have ej : (upd (upd Hi q (.dK [])) r (.dK (putK kvs2 (.inr key) (.ref q)))) pl = some (.lst ((keysL.take n).map V.str)) := sq_ne (same_new (o := .dK []) hqn _ _ ei) c1 (fun z => nomatch z)
     generalize upd (upd Hi q (.dK [])) r (.dK (putK kvs2 (.inr key) (.ref q))) = Hj at c3 kj Rj ej
     walk_at "g"
     refine .inl ?_
     walk_at "g"
     refine q_items ?_
     walk_at "g"
     intro p2 hp2
     have s6 : Same Hj (upd Hj p2 (.lst (namesL.map V.str))) := same_new hp2
     have hp2f := kj.fresh Rj.at_ hp2
     refine q_itemsE (xs := namesL.map V.str) sq_new ?_
     refine for_items (xs := namesL.map V.str) (fun k σ Hk => ∃ (v4 : Option V) (tk : Tab) (pk : Int), σ = [some (.ref j), some (.ref a), some (.ref r), some (.str key), v4] ∧ Kp a H Hk ∧ Rnd Hk j a pk ∧ p ≤ pk ∧ pk ≤ p + 1 + i * 20 + k * 4 ∧ Hk pl = some (.lst ((keysL.take n).map V.str)) ∧
       Hk p2 = some (.lst (namesL.map V.str)) ∧ Own K (fun b => H b = none) Hk r (hi ++ [(key, tk)]) ∧ (nms tk).Sublist (namesL.take k) ∧ ∀ x ∈ tk, x.1 ∈ namesL ∧ Ent x.2) ?_ ?_ ?_ ?_
     · exact ⟨v4, [], pi, rfl, kj.trans (Kp.of s6), Rj.same s6, g1, by omega, s6 _ _ ej, upd_same, c3.mono s6, List.nil_sublist _, fun x hx => nomatch hx⟩
     · rintro k σ Hk _ ⟨v4, tk, pk, rfl, _, _, _, _, _, e, _⟩
       exact .inl (.inl e)
     · rintro k x σ Hk hx2 ⟨v4, tk, pk, rfl, kk, Rk, d1, d2, ek, ek2, ok, sub, enk⟩
       obtain ⟨m, hm, rfl⟩ := hlist_at hx2
       have hk4 : k < 4 := (List.getElem?_eq_some_iff.mp hm).1
       walk_at "g"
       refine ⟨j, a, pk, 2, rfl, Rk, by omega, by decide, fun w p4 w0 w1 d3 d4 => ?_⟩
       have R5 := Rk.set (p' := p4) (by omega)
       have k5 : Kp a H (upd Hk a (.lst [.int p4])) := kk.trans Kp.upd
       have o5 := ok.kp (Kp.upd (a := a) (o := .lst [.int p4])) Rk.at_ hNa
       have e5 : (upd Hk a (.lst [.int p4])) pl = some (.lst ((keysL.take n).map V.str)) := by
         rw [upd_ne (hNa pl hplf)]
         exact ek
       have e6 : (upd Hk a (.lst [.int p4])) p2 = some (.lst (namesL.map V.str)) := by
         rw [upd_ne (hNa p2 hp2f)]
         exact ek2
       generalize upd Hk a (.lst [.int p4]) = Hm at R5 k5 o5 e5 e6
       have sub' : (nms tk).Sublist (namesL.take (k + 1)) := sub.trans (by rw [take_more hm]; exact List.sublist_append_left _ _)
       walk_at "g"
       refine q_dec (fun _ => ?_) (fun _ => ?_)
       · walk_at "g"
         refine ⟨j, a, p4, rfl, R5, by omega, fun vd d H7 p7 hent k7 R7 f1 f2 td => ?_⟩
         have o7 := o5.kp k7 R5.at_ hNa
         obtain ⟨kv7, q7, es7, a1, a2, a3, a4, a5, a6, a7, back⟩ := o7.at (lk_snoc nk)
         have nm : m ∉ nms tk := fun z => nd_at namesL_nd hm (sub.subset z)
         have hlt : tk.length ≤ 4 := by
           have := sub.length_le
           rw [nms_len, List.length_take] at this
           omega
         walk_at "g"
         refine q_ixK (.inr key) (.inl a1) a2 ?_
         walk_at "g"
         refine q_setD (.inr m) a3 ?_ ?_
         · rw [a4.length]
           unfold tK
           rw [List.length_map]
           exact len_small (by omega)
         have nk7 : (Sum.inr m : Key) ∉ es7.map (·.1) := by
           rw [a4.keys, keys_tK]
           exact fun z => nm (inr_mem.mp z)
         have t8 : Tk K H7 ff (putK es7 (.inr m) vd) (tK (tk ++ [(m, d)])) := by
           rw [putK_fresh nk7, tK_snoc]
           exact a4.append (Tk.cons (k := Sum.inr m) td .nil)
         have o8 := back _ _ t8
         rw [put_snoc nk] at o8
         have e8 := k7 _ _ (hNa pl hplf) e5
         have e9 := k7 _ _ (hNa p2 hp2f) e6
         obtain ⟨qj, qa⟩ := hR.ja a5
         refine ⟨_, tk ++ [(m, d)], p7, rfl, (k5.trans k7).new a5, R7.upd a3 qj qa, by omega, by omega, sqL_dk a3 e8, sqL_dk a3 e9, o8, ?_, fun x hx => ?_⟩
         · rw [nms_append, take_more hm]
           exact sub.append (List.Sublist.refl _)
         · rcases List.mem_append.mp hx with hx | hx
           · exact enk x hx
           · rw [List.mem_singleton.mp hx]
             exact ⟨mem_at hm, hent⟩
       · walk_at "g"
         exact ⟨_, tk, p4, rfl, k5, R5, by omega, by omega, e5, e6, o5, sub', enk⟩
     · rintro σ Hk ⟨v4, tk, pk, rfl, kk, Rk, d1, d2, ek, ek2, ok, sub, enk⟩
       have d2' : pk ≤ p + 1 + i * 20 + 4 * 4 := d2
       have hlt : tk.length ≤ 4 := by
         have := sub.length_le
         rw [nms_len, List.length_take] at this
         exact Nat.le_trans this (Nat.min_le_right _ _)
       refine ⟨some (.str key), v4, hi ++ [(key, tk)], pk, rfl, kk, Rk, d1, by omega, ek, ok, ?_, ⟨?_, fun q hq => ?_⟩, fun q hq => ?_⟩
       · rw [nms_append, nmi, take_more hkey2]
         rfl
       · have z : nms (hi ++ [(key, tk)]) = keysL.take (i + 1) := by
           rw [nms_append, nmi, take_more hkey2]
           rfl
         rw [z]
         exact keysL_nd.sublist (List.take_sublist _ _)
       · rcases List.mem_append.mp hq with hq | hq
         · exact wfi.tab q hq
         · rw [List.mem_singleton.mp hq]
           exact ⟨(namesL_nd.sublist (List.take_sublist _ _)).sublist sub, fun x hx => (enk x hx).2.imm⟩
       · rcases List.mem_append.mp hq with hq | hq
         · exact enti q hq
         · rw [List.mem_singleton.mp hq]
           exact ⟨hlt, enk⟩
   · rintro σ Hi ⟨v3, v4, hi, pi, rfl, ki, Ri, g1, g2, ei, oi, nmi, wfi, enti⟩
     rw [List.length_map, klen] at nmi g2
     walk_at "g"
     exact hq r hi Hi pi ki Ri g1 (by omega) hr0 oi ⟨wfi, ⟨n, hn1, hn3, nmi⟩, enti⟩
  case len =>
   obtain ⟨j, a, p, rfl, _⟩ := h
   rfl

abbrev names5 : List Str := ["c", "a", "b10", "b9", "e"]
theorem names5_nd : names5.Nodup := by decide +kernel
/-- an edit that is drawn for a house -/
structure EdG (h : Hs) (e : Ed) : Prop where
  key : e.key ∈ nms h
  name : e.name ∈ names5
  ent : ∀ k n x, e = .put k n x → Ent x
theorem EdG.imm {h : Hs} {e : Ed} (g : EdG h e) : e.Imm := by
  cases e with
  | put k n x => exact (g.ent k n x rfl).imm
  | drop k n => trivial
/-- _law_edits(jar, at, house, many) -/
def spEds (K : PySem.W.Frag) : Sp := fun vs H Q _ => ∃ (N : Addr → Prop) (j a r : Addr) (p : Int) (h : Hs) (many : Nat), vs = [.ref j, .ref a, .ref r, .int many] ∧ Rnd H j a p ∧ p + 100 ≤ lim ∧ many ≤ 8 ∧ (∀ b, N b → b ≠ a) ∧ Own K N H r h ∧ HG h ∧
  ∀ l H' p' xs es, Kp a H H' → Rnd H' j a p' → p ≤ p' → H l = none → H' l = some (.lst xs) → Ts K H' ff xs (es.map Ed.tr) → es.length = many → (∀ e ∈ es, EdG h e) → (∃ f, appAll (cpH h) es = .ok f) → Q (.ref l) H'
theorem HG.fit {h : Hs} (g : HG h) : Fits 4 h := fun q hq => (g.ent q hq).1
theorem HG.len {h : Hs} (g : HG h) : 1 ≤ h.length ∧ h.length ≤ 3 := by
  obtain ⟨n, h1, h2, h3⟩ := g.keys
  have : h.length = min n 3 := by rw [← nms_len, h3, List.length_take]; rfl
  omega
theorem sc_law_edits : FnScope ["jar", "at", "house", "many", "edits", "shape", "k", "keys", "key", "name"] ["jar", "at", "house", "many"] (defScope s_law_edits) := ⟨rfl, rfl, rfl, by decide +kernel, rfl, by decide +kernel, by decide +kernel⟩
theorem d_law_edits (B : Bt mg) (F : TopF K mg "_law_edits" s_law_edits ["jar", "at", "house", "many"]) (D_law_after : Df P w K mg base "_law_after" ["house", "edit"] 3 (spAF K)) (D_law_draw : Df P w K mg base "_law_draw" ["jar", "at", "many"] 1 (spDraw)) (D_law_entry : Df P w K mg base "_law_entry" ["jar", "at"] 2 (spEnt K)) (D_law_copy : Df P w K mg base "_law_copy" ["house"] 1 (spCH K)) : Df P w K mg base "_law_edits" ["jar", "at", "house", "many"] 4 (spEds K) := by
  refine F.df sc_law_edits (fun vs H Q E h => ?len) (fun f cdv A outer s H vs Q E hr h => ?body)
  case body =>
   have hu := hr.units
   refine ⟨_, (pss_cons (ps_set (i := 4) sc_law_edits.nd rfl (Or.inl rfl) (pe_lst pa_nil))
      (pss_cons (ps_set (i := 5) sc_law_edits.nd rfl (Or.inl rfl) (pe_df D_law_copy (hr.mono (by decide)) (fun σ => passAt (takes_of rfl rfl rfl rfl) σ) (pa_cons (pv 2) pa_nil)))
      (pss_cons (ps_for (passes_of rfl) rfl (pi_range1 (by rfl) B.b_range (pa_cons (pv 3) pa_nil)) (pg_name (i := 6) sc_law_edits.nd rfl (Or.inl rfl))
      (pss_cons (ps_set (i := 7) sc_law_edits.nd rfl (Or.inl rfl) (pe_callTy (k_list (K := K) rfl rfl) (by rfl) B.b_list (by decide +kernel) (pa_cons (pv 2) pa_nil)))
      (pss_cons (ps_set (i := 8) sc_law_edits.nd rfl (Or.inl rfl) (pe_ix (k_ix (K := K) rfl hu) (pv 7) (pe_df D_law_draw (hr.mono (by decide)) (fun σ => passAt (takes_of rfl rfl rfl rfl) σ) (pa_cons (pv 0) (pa_cons (pv 1) (pa_cons (pe_callB (k_len (K := K) rfl) (by rfl) B.b_len (by decide +kernel) (pa_cons (pv 7) pa_nil)) pa_nil)))) (fun _ _ => rfl)))
      (pss_cons (ps_set (i := 9) sc_law_edits.nd rfl (Or.inl rfl) (pe_ix (k_ix (K := K) rfl hu) (pe_lst (pa_cons pe_str (pa_cons pe_str (pa_cons pe_str (pa_cons pe_str (pa_cons pe_str pa_nil)))))) (pe_df D_law_draw (hr.mono (by decide)) (fun σ => passAt (takes_of rfl rfl rfl rfl) σ) (pa_cons (pv 0) (pa_cons (pv 1) (pa_cons pe_int pa_nil)))) (fun _ _ => rfl)))
      (pss_cons (ps_if (PW.pt (pw_and (pt_cmpR (k_eq (K := K) rfl hu) (pe_df D_law_draw (hr.mono (by decide)) (fun σ => passAt (takes_of rfl rfl rfl rfl) σ) (pa_cons (pv 0) (pa_cons (pv 1) (pa_cons pe_int pa_nil)))) pe_int (nomark _)) (pw_and1 (pt_cmpR (k_in (K := K) rfl hu) (pv 9) (pe_ix (k_ix (K := K) rfl hu) (pv 5) (pv 8) (fun _ _ => rfl)) (by rfl)))))
      (pss_one (ps_expr (k_append (K := K) rfl (pv 4) (pa_cons (pe_tup (pa_cons pe_str (pa_cons (pv 8) (pa_cons (pv 9) pa_nil)))) pa_nil))))
      (pss_one (ps_expr (k_append (K := K) rfl (pv 4) (pa_cons (pe_tup (pa_cons pe_str (pa_cons (pv 8) (pa_cons (pv 9) (pa_cons (pe_df D_law_entry (hr.mono (by decide)) (fun σ => passAt (takes_of rfl rfl rfl rfl) σ) (pa_cons (pv 0) (pa_cons (pv 1) pa_nil))) pa_nil))))) pa_nil)))))
      (pss_one (ps_set (i := 5) sc_law_edits.nd rfl (Or.inl rfl) (pe_df D_law_after (hr.mono (by decide)) (fun σ => passAt (takes_of rfl rfl rfl rfl) σ) (pa_cons (pv 5) (pa_cons (pe_ix (k_ix (K := K) rfl hu) (pv 4) (pe_op op_sub (pe_callB (k_len (K := K) rfl) (by rfl) B.b_len (by decide +kernel) (pa_cons (pv 4) pa_nil)) pe_int) (fun _ _ => rfl)) pa_nil))))))))))
      (pss_one (ps_ret (pv 4)))))), ?_⟩
   obtain ⟨N, j, a, r, p, h, many, rfl, hR, hp, hmany, hNa, ho, hG, hq⟩ := h
   have p0 := hR.p0
   obtain ⟨hl1, hl3⟩ := hG.len
   walk_at "g"
   intro l hl
   have s1 : Same H (upd H l (.lst [])) := same_new hl
   walk_at "g"
   refine ⟨N, r, h, rfl, (ho.mono s1).T, hG.wf, fun q hq => Nat.le_trans (hG.fit q hq) (by decide), by omega, fun sh H1 s2 o1 => ?_⟩
   have el : H1 l = some (.lst []) := s2 _ _ upd_same
   have o1' := o1.imp (N' := fun b => H b = none ∧ b ≠ l) fun b e => ⟨s1.free e, fun z => by
     rw [z, upd_same] at e
     cases e⟩
   have s12 := s1.trans s2
   have hja := hR.ja hl
   have hlen : (nms h).length = h.length := nms_len h
   walk_at "g"
   refine ⟨.int many, rfl, many, rfl, ?_, ?_, ?_⟩
   · omega
   · omega
   refine for_rng (lo := 0) (n := many) (fun i σ Hi => ∃ (g : Addr) (v6 v7 v8 v9 : Option V) (pi : Int) (xs : List V) (es : List Ed) (f : Hs), σ = [some (.ref j), some (.ref a), some (.ref r), some (.int many), some (.ref l), some (.ref g), v6, v7, v8, v9] ∧ Kp a H Hi ∧ Rnd Hi j a pi ∧ p ≤ pi ∧ pi ≤ p + 10 * i ∧
     Hi l = some (.lst xs) ∧ Ts K Hi ff xs (es.map Ed.tr) ∧ es.length = i ∧ (∀ e ∈ es, EdG h e) ∧ Own K (fun b => H b = none ∧ b ≠ l) Hi g (cpH f) ∧ appAll (cpH h) es = .ok f) ?_ ?_ ?_
   · exact ⟨sh, none, none, none, none, p, [], [], cpH h, rfl, Kp.of s12, hR.same s12, by omega, by omega, el, .nil, rfl, (fun e m => nomatch m), by rw [cp_cp hG.wf]; exact o1', rfl⟩
   · rintro i σ Hi hi ⟨g, v6, v7, v8, v9, pi, xs, es, f, rfl, ki, Ri, g1, g2, ei, ti, li, hes, oi, ai⟩
     obtain ⟨wf, ft, nf⟩ := appAll_ok hG.wf.cp (fun e m => (hes e m).imm) hG.fit.cp ai
     rw [nms_cp] at nf
     have hxl : xs.length = i := by rw [ti.length, List.length_map, li]
     have fin : ∀ {Hx : Hp} {e : Ed} {u : V} {Q5 : VK} {E5 : XK}, Own K (fun b => H b = none ∧ b ≠ l) Hx g (cpH f) → T K Hx ff u e.tr → EdG h e → (∃ f', app1 f e = .ok f') →
         (∀ f' r2 H2, app1 f e = .ok f' → Same Hx H2 → Own K (fun b => Hx b = none) H2 r2 (cpH f') → Q5 (.ref r2) H2) → spAF K [.ref g, u] Hx Q5 E5 := fun {Hx e u Q5 E5} o tu eg ⟨f', hf'⟩ hk => by
       obtain ⟨g', hg', hc⟩ := app1_cp wf wf.cp (cp_cp wf).symm hf'
       exact ⟨_, g, u, cpH f, g', e, rfl, o.T, tu, wf.cp, eg.imm, fun q hq => Nat.le_trans (ft.cp q hq) (by omega), by rw [len_cp, len_of_nms nf]; omega, by rw [cp_cp wf]; exact hg', fun r2 H2 s2 o2 => hk f' r2 H2 hf' s2 (by rw [hc]; exact o2)⟩
     obtain ⟨kvs, er, ek⟩ := (ho.kp ki hR.at_ hNa).key
     walk_at "g"
     refine q_listK (.inl er) fun q hq1 => ?_
     rw [keysV ek]
     have s3 : Same Hi (upd Hi q (.lst ((nms h).map V.str))) := same_new hq1
     have hqH : H q = none := ki.fresh Ri.at_ hq1
     walk_at "g"
     refine q_lenL sq_new ?_
     walk_at "g"
     rw [List.length_map]
     refine ⟨j, a, pi, _, rfl, Ri.same s3, by omega, by omega, fun v p1 v0 v1 h1 h2 => ?_⟩
     have R2 := (Ri.same s3).set (p' := p1) (by omega)
     have k2 : Kp a H (upd (upd Hi q (.lst ((nms h).map V.str))) a (.lst [.int p1])) := (ki.trans (Kp.of s3)).trans Kp.upd
     have e2 : (upd (upd Hi q (.lst ((nms h).map V.str))) a (.lst [.int p1])) q = some (.lst ((nms h).map V.str)) := by rw [upd_ne (hR.ja hqH).2, upd_same]
     have el2 : (upd (upd Hi q (.lst ((nms h).map V.str))) a (.lst [.int p1])) l = some (.lst xs) := by rw [upd_ne hja.2]; exact s3 _ _ ei
     have t2 := (ti.mono s3).kp (N' := ff) (Kp.upd (a := a) (o := .lst [.int p1])) (s3 _ _ Ri.at_) fun _ z => z.elim
     have o2 := (oi.mono s3).kp (Kp.upd (a := a) (o := .lst [.int p1])) (s3 _ _ Ri.at_) fun b z => (hR.ja z.1).2
     generalize upd (upd Hi q (.lst ((nms h).map V.str))) a (.lst [.int p1]) = Ha at R2 k2 e2 el2 t2 o2
     obtain ⟨key, hkey, hat⟩ := atS v0 v1
     refine q_ixL (.inl (.inl e2)) hat ?_
     walk_at "g"
     intro q5 hq5
     rw [show [V.str (PySem.Str.ofString "c"), V.str (PySem.Str.ofString "a"), V.str (PySem.Str.ofString "b10"), V.str (PySem.Str.ofString "b9"), V.str (PySem.Str.ofString "e")] = names5.map V.str from rfl]
     have s4 : Same Ha (upd Ha q5 (.lst (names5.map V.str))) := same_new hq5
     have hq5H : H q5 = none := k2.fresh R2.at_ hq5
     walk_at "g"
     refine ⟨j, a, p1, 5, rfl, R2.same s4, by omega, by decide, fun v' p2 w0 w1 h3 h4 => ?_⟩
     have R3 := (R2.same s4).set (p' := p2) (by omega)
     have k3 : Kp a H (upd (upd Ha q5 (.lst (names5.map V.str))) a (.lst [.int p2])) := (k2.trans (Kp.of s4)).trans Kp.upd
     have e3 : (upd (upd Ha q5 (.lst (names5.map V.str))) a (.lst [.int p2])) q5 = some (.lst (names5.map V.str)) := by rw [upd_ne (hR.ja hq5H).2, upd_same]
     have el3 : (upd (upd Ha q5 (.lst (names5.map V.str))) a (.lst [.int p2])) l = some (.lst xs) := by rw [upd_ne hja.2]; exact s4 _ _ el2
     have t3 := (t2.mono s4).kp (N' := ff) (Kp.upd (a := a) (o := .lst [.int p2])) (s4 _ _ R2.at_) fun _ z => z.elim
     have o3 := (o2.mono s4).kp (Kp.upd (a := a) (o := .lst [.int p2])) (s4 _ _ R2.at_) fun b z => (hR.ja z.1).2
     generalize upd (upd Ha q5 (.lst (names5.map V.str))) a (.lst [.int p2]) = Hb at R3 k3 e3 el3 t3 o3
     obtain ⟨name, hname, hat2⟩ := atS (ss := names5) w0 w1
     refine q_ixL (.inl (.inl e3)) hat2 ?_
     walk_at "g"
     refine ⟨j, a, p2, 3, rfl, R3, by omega, by decide, fun v3 p3 x0 x1 h5 h6 => ?_⟩
     have R4 := R3.set (p' := p3) (by omega)
     have k4 : Kp a H (upd Hb a (.lst [.int p3])) := k3.trans Kp.upd
     have el4 : (upd Hb a (.lst [.int p3])) l = some (.lst xs) := by rw [upd_ne hja.2]; exact el3
     have t4 := t3.kp (N' := ff) (Kp.upd (a := a) (o := .lst [.int p3])) R3.at_ fun _ z => z.elim
     have o4 := o3.kp (Kp.upd (a := a) (o := .lst [.int p3])) R3.at_ fun b z => (hR.ja z.1).2
     generalize upd Hb a (.lst [.int p3]) = Hc at R4 k4 el4 t4 o4
     have hkf : key ∈ nms f := by rw [nf]; exact hkey
     obtain ⟨t, hlk⟩ := lk_mem_nms hkf
     have hlc : lk (cpH f) key = some (ord t) := by rw [lk_cp, hlk]; rfl
     have put_ok : ∀ x, ∃ f', app1 f (.put key name x) = .ok f' := fun x => by
       unfold app1
       rw [show (Ed.put key name x).key = key from rfl, hlk]
       exact ⟨_, rfl⟩
     have last : ∀ {Hx : Hp} {u : V} {e : Ed} {px : Int}, Kp a H Hx → Rnd Hx j a px → Hx l = some (.lst xs) → Ts K Hx ff xs (es.map Ed.tr) → Own K (fun b => H b = none ∧ b ≠ l) Hx g (cpH f) → T K Hx ff u e.tr →
         Kp a H (upd Hx l (.lst (xs ++ [u]))) ∧ Rnd (upd Hx l (.lst (xs ++ [u]))) j a px ∧ Ts K (upd Hx l (.lst (xs ++ [u]))) ff (xs ++ [u]) ((es ++ [e]).map Ed.tr) ∧ Own K (fun b => H b = none ∧ b ≠ l) (upd Hx l (.lst (xs ++ [u]))) g (cpH f) ∧ T K (upd Hx l (.lst (xs ++ [u]))) ff u e.tr := fun {Hx u e px} k R e1 tx o tu => by
       refine ⟨k.new hl, R.upd e1 hja.1 hja.2, ?_, o.keep (keeps_upd (p := l)) (nt_of e1 (fun _ z => nomatch z) fun _ _ z => nomatch z) (fun b z => z.2), tu.upd e1 (fun _ z => nomatch z) (fun _ _ z => nomatch z) fun _ z => z.elim⟩
       rw [List.map_append]
       exact (tx.append (.cons tu .nil)).upd e1 (fun _ z => nomatch z) (fun _ _ z => nomatch z) fun _ z => z.elim
     have grow : ∀ {e : Ed}, EdG h e → (es ++ [e]).length = i + 1 ∧ ∀ x ∈ es ++ [e], EdG h x := fun {e} eg => by
       refine ⟨by rw [List.length_append, li]; rfl, fun x m => ?_⟩
       rcases List.mem_append.mp m with m | m
       · exact hes x m
       · rw [List.mem_singleton.mp m]
         exact eg
     have app : ∀ {e : Ed} {f' : Hs}, app1 f e = .ok f' → appAll (cpH h) (es ++ [e]) = .ok f' := fun {e f'} he => by
       rw [appAll_append, ai]
       exact (appAll_one f e).trans he
     obtain ⟨kg, qg, eg, y1, y2, y3, y4, _⟩ := o4.at hlc
     walk_at "g"
     refine q_two (PP := fun b => b = true → name ∈ nms t) (fun b hb => ?_) (fun _ => ⟨(valV eg (.inr name)).isSome, fun hs => ?_, fun hr => ?_⟩) (fun _ z => by cases z)
     · refine q_ite (fun hbt => ?_) (fun _ => ?_)
       · have hin := hb hbt
         have eG : EdG h (.drop key name) := ⟨hkey, hname, fun _ _ _ z => by cases z⟩
         walk_at "g"
         refine tyL el4 ?_
         walk_at "g"
         intro q9 hq9
         have s9 := same_new (o := .tup [.str "drop", .str key, .str name]) hq9
         have tu : T K (upd Hc q9 (.tup [.str "drop", .str key, .str name])) ff (.ref q9) (Ed.drop key name).tr := .tup st_new (.cons (.str _) (.cons (.str _) (.cons (.str _) .nil)))
         obtain ⟨z1, z2, z3, z4, z5⟩ := last (k4.trans (Kp.of s9)) (R4.same s9) (s9 _ _ el4) (t4.mono s9) (o4.mono s9) tu
         walk_at "g"
         refine q_append (s9 _ _ el4) (len_small (by omega)) ?_
         generalize hHd : upd (upd Hc q9 (.tup [.str "drop", .str key, .str name])) l (.lst (xs ++ [.ref q9])) = Hd at z1 z2 z3 z4 z5
         have el5 : Hd l = some (.lst (xs ++ [.ref q9])) := by rw [← hHd]; exact upd_same
         walk_at "g"
         refine q_lenL (.inl (.inl el5)) ?_
         walk_at "g"
         refine q_ixL (.inl (.inl el5)) atI_last ?_
         walk_at "g"
         refine fin z4 z5 eG ?_ fun f' r2 H2 hf' s5 o5 => ?_
         · unfold app1
           rw [show (Ed.drop key name).key = key from rfl, hlk]
           exact ⟨_, if_pos hin⟩
         · refine ⟨r2, _, _, _, _, p3, _, es ++ [.drop key name], f', rfl, z1.trans (Kp.of s5), z2.same s5, by omega, by omega, s5 _ _ el5, z3.mono s5, (grow eG).1, (grow eG).2, o5.imp fun b e => ⟨z1.fresh z2.at_ e, fun z => ?_⟩, app hf'⟩
           rw [z, el5] at e
           cases e
       · walk_at "g"
         refine tyL el4 ?_
         walk_at "g"
         refine ⟨j, a, p3, rfl, R4, by omega, fun vd d He p4 hent k5 R5 g5 g6 td => ?_⟩
         have el6 : He l = some (.lst xs) := k5 l _ hja.2 el4
         have t6 := t4.kp (N' := ff) k5 R4.at_ fun _ z => z.elim
         have o6 := o4.kp k5 R4.at_ fun b z => (hR.ja z.1).2
         have k6 := k4.trans k5
         have eG : EdG h (.put key name d) := ⟨hkey, hname, fun _ _ _ z => by cases z; exact hent⟩
         walk_at "g"
         intro q9 hq9
         have s9 := same_new (o := .tup [.str "put", .str key, .str name, vd]) hq9
         have tu : T K (upd He q9 (.tup [.str "put", .str key, .str name, vd])) ff (.ref q9) (Ed.put key name d).tr := .tup st_new (.cons (.str _) (.cons (.str _) (.cons (.str _) (.cons (td.mono s9) .nil))))
         obtain ⟨z1, z2, z3, z4, z5⟩ := last (k6.trans (Kp.of s9)) (R5.same s9) (s9 _ _ el6) (t6.mono s9) (o6.mono s9) tu
         walk_at "g"
         refine q_append (s9 _ _ el6) (len_small (by omega)) ?_
         generalize hHd : upd (upd He q9 (.tup [.str "put", .str key, .str name, vd])) l (.lst (xs ++ [.ref q9])) = Hd at z1 z2 z3 z4 z5
         have el5 : Hd l = some (.lst (xs ++ [.ref q9])) := by rw [← hHd]; exact upd_same
         walk_at "g"
         refine q_lenL (.inl (.inl el5)) ?_
         walk_at "g"
         refine q_ixL (.inl (.inl el5)) atI_last ?_
         walk_at "g"
         refine fin z4 z5 eG (put_ok d) fun f' r2 H2 hf' s5 o5 => ?_
         refine ⟨r2, _, _, _, _, p4, _, es ++ [.put key name d], f', rfl, z1.trans (Kp.of s5), z2.same s5, by omega, by omega, s5 _ _ el5, z3.mono s5, (grow eG).1, (grow eG).2, o5.imp fun b e => ⟨z1.fresh z2.at_ e, fun z => ?_⟩, app hf'⟩
         rw [z, el5] at e
         cases e
     · cases e2 : lk t name with
       | none =>
         have := y4.nent (n := name) (by rw [lk_ord]; exact e2)
         rw [this] at hs
         cases hs
       | some d => exact mem_nms (lk_mem e2)
     · walk_at "g"
       refine q_ixK (.inr key) (.inl y1) y2 ?_
       refine q_inD (.inr name) (.inl y3) ?_
       exact ⟨_, rfl, hr⟩
   · rintro σ Hi ⟨g, v6, v7, v8, v9, pi, xs, es, f, rfl, ki, Ri, g1, g2, ei, ti, li, hes, oi, ai⟩
     walk_at "g"
     exact hq l Hi pi xs es ki Ri g1 hl ei ti li hes ⟨f, ai⟩
  case len =>
   obtain ⟨N, j, a, r, p, h, many, rfl, _⟩ := h
   rfl

def spRef (K : PySem.W.Frag) : Sp := fun vs H Q _ => ∃ (N : Addr → Prop) (a b : Addr) (h : Hs) (xs : List V) (es : List Ed) (how : Int), vs = [.ref a, .ref b, .int how] ∧ T K H N (.ref a) (.dic (hK h)) ∧ SqL K H b xs ∧ Ts K H ff xs (es.map Ed.tr) ∧
  Wf h ∧ (∀ e ∈ es, e.Imm) ∧ Fits 40 h ∧ es.length ≤ 10 ∧ (how = 2 ∨ how = 3 → 1 ≤ es.length) ∧ h.length ≤ 900 ∧ ∀ p H', Same H H' → H' p = some (.tup [.str (refOf h es how).1, .str (refOf h es how).2]) → Q (.ref p) H'
theorem sc_law_refusal : FnScope ["house", "edits", "how", "error"] ["house", "edits", "how"] (defScope s_law_refusal) := ⟨rfl, rfl, rfl, by decide +kernel, rfl, by decide +kernel, by decide +kernel⟩
theorem d_law_refusal (B : Bt mg) (F : TopF K mg "_law_refusal" s_law_refusal ["house", "edits", "how"]) (X_Unknown : Xc P w K mg base "Unknown" ["what", "name"] C_Unknown) (D_apply_edits : Df P w K mg base "apply_edits" ["house", "edits"] 6 (spAE K C_Unknown)) (D_inverse_of : Df P w K mg base "inverse_of" ["house", "edits"] 6 (spIO K C_Unknown)) (D_apply_edit : Df P w K mg base "apply_edit" ["house", "edit"] 7 (spA1 K C_Unknown)) (D_inverse : Df P w K mg base "inverse" ["house", "edit"] 5 (spIV K C_Unknown)) (D_entry_in : Df P w K mg base "entry_in" ["house", "key", "name"] 4 (spEI K C_Unknown)) : Df P w K mg base "_law_refusal" ["house", "edits", "how"] 8 (spRef K) := by
  refine F.df sc_law_refusal (fun vs H Q E h => ?len) (fun f cdv A outer s H vs Q E hr h => ?body)
  case body =>
   have hu := hr.units
   refine ⟨_, (pss_cons (ps_try_as (i := 3) rfl rfl sc_law_refusal.nd rfl rfl ⟨rfl, by decide, .inl X_Unknown.g⟩ (takes_of rfl rfl rfl rfl) (fun W pn xe tk po => (pss_one (ps_if (pt_cmpR (k_eq (K := K) rfl hu) (pv 2) pe_int (nomark _))
      (pss_one (ps_expr (pe_df D_apply_edits (hr.mono (by decide)) (fun σ => passAt tk σ) (pa_cons (pv 0) (pa_cons (pv 1) pa_nil)))))
      (pss_one (ps_if (pt_cmpR (k_eq (K := K) rfl hu) (pv 2) pe_int (nomark _))
      (pss_one (ps_expr (pe_df D_inverse_of (hr.mono (by decide)) (fun σ => passAt tk σ) (pa_cons (pv 0) (pa_cons (pv 1) pa_nil)))))
      (pss_one (ps_if (pt_cmpR (k_eq (K := K) rfl hu) (pv 2) pe_int (nomark _))
      (pss_one (ps_expr (pe_df D_apply_edit (hr.mono (by decide)) (fun σ => passAt tk σ) (pa_cons (pv 0) (pa_cons (pe_ix (k_ix (K := K) rfl hu) (pv 1) (pe_op op_sub (pe_callB (k_len (K := K) rfl) (by rfl) B.b_len (by decide +kernel) (pa_cons (pv 1) pa_nil)) pe_int) (fun _ _ => rfl)) pa_nil)))))
      (pss_one (ps_if (pt_cmpR (k_eq (K := K) rfl hu) (pv 2) pe_int (nomark _))
      (pss_one (ps_expr (pe_df D_inverse (hr.mono (by decide)) (fun σ => passAt tk σ) (pa_cons (pv 0) (pa_cons (pe_ix (k_ix (K := K) rfl hu) (pv 1) (pe_op op_sub (pe_callB (k_len (K := K) rfl) (by rfl) B.b_len (by decide +kernel) (pa_cons (pv 1) pa_nil)) pe_int) (fun _ _ => rfl)) pa_nil)))))
      (pss_one (ps_expr (pe_df D_entry_in (hr.mono (by decide)) (fun σ => passAt tk σ) (pa_cons (pv 0) (pa_cons pe_str (pa_cons pe_str pa_nil)))))))))))))))
      (fun a oe cls d pn hz hf => (pss_one (ps_ret (pe_tup (pa_cons (pe_xf X_Unknown.xf (X_Unknown.no _ (by decide)) hz hf (pv 3)) (pa_cons (pe_xf X_Unknown.xf (X_Unknown.no _ (by decide)) hz hf (pv 3)) pa_nil)))))))
      (pss_one (ps_ret (pe_tup (pa_cons pe_str (pa_cons pe_str pa_nil)))))), ?_⟩
   obtain ⟨N, a, b, h, xs, es, how, rfl, ha, hb, hxs, wf, im, fit, hes, hes1, hl, hq⟩ := h
   have hxl : xs.length = es.length := by rw [hxs.length, List.length_map]
   have done : ∀ {w n : Str} (p : Addr) (H' : Hp), refOf h es how = (w, n) → Same H H' → H' p = some (.tup [.str w, .str n]) → Q (.ref p) H' := fun {w n} p H' e s c => hq p H' s (by rw [e]; exact c)
   walk_at "g"
   refine q_dec (fun c0 => ?_) (fun c0 => ?_)
   · walk_at "g"
     refine ⟨N, a, b, h, xs, es, rfl, ha, hb, hxs, wf, im, ⟨40, fit, by omega⟩, hl, ?_⟩
     have hr0 : refOf h es how = _ := if_pos (.inl c0)
     cases q : appAll (cpH h) es with
     | error x =>
       rw [q] at hr0
       exact catchU X_Unknown.te (show 3 < 4 by decide) fun p H' s c => done p H' hr0 s c
     | ok h' =>
       rw [q] at hr0
       intro r H1 s1 o1
       walk_at "g"
       intro p hp
       exact done p _ hr0 (s1.trans (same_new hp)) upd_same
   · walk_at "g"
     refine q_dec (fun c1 => ?_) (fun c1 => ?_)
     · walk_at "g"
       refine ⟨N, a, b, h, xs, es, rfl, ha, hb, hxs, wf, im, ⟨40, fit, by omega⟩, hl, ?_⟩
       have hr0 : refOf h es how = _ := if_pos (.inr c1)
       cases q : appAll (cpH h) es with
       | error x =>
         rw [q] at hr0
         exact catchU X_Unknown.te (show 3 < 4 by decide) fun p H' s c => done p H' hr0 s c
       | ok h' =>
         rw [q] at hr0
         intro r H1 ys s1 _ _ _
         walk_at "g"
         intro p hp
         exact done p _ hr0 (s1.trans (same_new hp)) upd_same
     · have hr1 : refOf h es how = _ := if_neg (fun z => z.elim c0 c1)
       walk_at "g"
       refine q_dec (fun c2 => ?_) (fun c2 => ?_)
       · obtain ⟨u, e, hat, hlast, tu⟩ := last_of hxs (hes1 (.inl c2))
         rw [if_pos (.inl c2), hlast] at hr1
         walk_at "g"
         refine q_lenL hb ?_
         walk_at "g"
         refine q_ixL hb hat ?_
         walk_at "g"
         refine ⟨N, a, u, h, e, rfl, ha, tu, wf, im e (List.mem_of_getLast? hlast), fun p hp => Nat.le_trans (fit p hp) (by decide), hl, ?_⟩
         cases q : app1 (cpH h) e with
         | error x =>
           simp only [q] at hr1
           exact catchU X_Unknown.te (show 3 < 4 by decide) fun p H' s c => done p H' hr1 s c
         | ok h' =>
           simp only [q] at hr1
           intro r H1 s1 o1
           walk_at "g"
           intro p hp
           exact done p _ hr1 (s1.trans (same_new hp)) upd_same
       · walk_at "g"
         refine q_dec (fun c3 => ?_) (fun c3 => ?_)
         · obtain ⟨u, e, hat, hlast, tu⟩ := last_of hxs (hes1 (.inr c3))
           rw [if_pos (.inr c3), hlast] at hr1
           walk_at "g"
           refine q_lenL hb ?_
           walk_at "g"
           refine q_ixL hb hat ?_
           walk_at "g"
           refine ⟨N, a, u, h, e, rfl, ha, tu, wf, ?_⟩
           cases q : app1 h e with
           | error x =>
             have q2 : app1 (cpH h) e = .error x := app1_err wf q
             simp only [q2] at hr1
             exact catchU X_Unknown.te (show 3 < 4 by decide) fun p H' s c => done p H' hr1 s c
           | ok h' =>
             obtain ⟨h2, q2, _⟩ := app1_cp wf wf.cp (cp_cp wf).symm q
             simp only [q2] at hr1
             intro v H1 s1 _
             walk_at "g"
             intro p hp
             exact done p _ hr1 (s1.trans (same_new hp)) upd_same
         · rw [if_neg (fun z => z.elim c2 c3)] at hr1
           walk_at "g"
           refine ⟨N, a, "x9", "a", h, rfl, ha, wf, ?_⟩
           cases q : lk h "x9" with
           | none =>
             rw [q] at hr1
             exact catchU X_Unknown.te (show 3 < 4 by decide) fun p H' s c => done p H' hr1 s c
           | some t =>
             rw [q] at hr1
             intro v H1 s1 _
             walk_at "g"
             intro p hp
             exact done p _ hr1 (s1.trans (same_new hp)) upd_same
  case len =>
   obtain ⟨N, a, b, h, xs, es, how, rfl, _⟩ := h
   rfl

theorem keysL_x9 : ("x9" : Str) ∉ keysL := by decide +kernel
theorem names5_x8 : ("x8" : Str) ∉ names5 := by decide +kernel
theorem HG.nam {h : Hs} (g : HG h) : Nam names5 h := fun q hq x hx => by
  have := ((g.ent q hq).2 x hx).1
  have sub : ∀ n ∈ namesL, n ∈ names5 := by decide +kernel
  exact sub _ this
theorem HG.x9 {h : Hs} (g : HG h) : ("x9" : Str) ∉ nms h := by
  obtain ⟨n, _, _, e⟩ := g.keys
  rw [e]
  exact fun m => keysL_x9 (List.mem_of_mem_take m)
theorem HG.head {h : Hs} (g : HG h) : ∃ k rest, nms h = k :: rest := by
  have := g.len
  cases e : nms h with
  | nil =>
    have e2 := nms_len h
    rw [e] at e2
    have : h.length = 0 := e2.symm
    omega
  | cons k rest => exact ⟨k, rest, rfl⟩
/-- _law_refusals_right(house, edits) -/
def spRR (K : PySem.W.Frag) : Sp := fun vs H Q _ => ∃ (N : Addr → Prop) (a b : Addr) (h : Hs) (xs : List V) (es : List Ed), vs = [.ref a, .ref b] ∧ T K H N (.ref a) (.dic (hK h)) ∧ H b = some (.lst xs) ∧ Ts K H ff xs (es.map Ed.tr) ∧
  HG h ∧ es.length ≤ 8 ∧ (∀ e ∈ es, EdG h e) ∧ (∃ f, appAll (cpH h) es = .ok f) ∧ ∀ H', Same H H' → Q (.bl true) H'
theorem sc_law_refusals_right : FnScope ["house", "edits", "key", "how"] ["house", "edits"] (defScope s_law_refusals_right) := ⟨rfl, rfl, rfl, by decide +kernel, rfl, by decide +kernel, by decide +kernel⟩
theorem d_law_refusals_right (B : Bt mg) (F : TopF K mg "_law_refusals_right" s_law_refusals_right ["house", "edits"]) (D_law_refusal : Df P w K mg base "_law_refusal" ["house", "edits", "how"] 8 (spRef K)) : Df P w K mg base "_law_refusals_right" ["house", "edits"] 9 (spRR K) := by
  refine F.df sc_law_refusals_right (fun vs H Q E h => ?len) (fun f cdv A outer s H vs Q E hr h => ?body)
  case body =>
   have hu := hr.units
   refine ⟨_, (pss_cons (ps_set (i := 2) sc_law_refusals_right.nd rfl (Or.inl rfl) (pe_ix (k_ix (K := K) rfl hu) (pe_callTy (k_list (K := K) rfl rfl) (by rfl) B.b_list (by decide +kernel) (pa_cons (pv 0) pa_nil)) pe_int (fun _ _ => rfl)))
      (pss_cons (ps_for (passes_of rfl) rfl (pi_range1 (by rfl) B.b_range (pa_cons pe_int pa_nil)) (pg_name (i := 3) sc_law_refusals_right.nd rfl (Or.inl rfl))
      (pss_cons (ps_if (pt_cmpR (k_ne (K := K) rfl hu) (pe_df D_law_refusal (hr.mono (by decide)) (fun σ => passAt (takes_of rfl rfl rfl rfl) σ) (pa_cons (pv 0) (pa_cons (pe_op (k_add (K := K) rfl) (pv 1) (pe_lst (pa_cons (pe_tup (pa_cons pe_str (pa_cons (pv 2) (pa_cons pe_str pa_nil)))) pa_nil))) (pa_cons (pv 3) pa_nil)))) (pe_tup (pa_cons (pv 2) (pa_cons pe_str pa_nil))) (nomark _))
      (pss_one (ps_ret pe_bl))
      pss_nil)
      (pss_cons (ps_if (pt_cmpR (k_ne (K := K) rfl hu) (pe_df D_law_refusal (hr.mono (by decide)) (fun σ => passAt (takes_of rfl rfl rfl rfl) σ) (pa_cons (pv 0) (pa_cons (pe_op (k_add (K := K) rfl) (pv 1) (pe_lst (pa_cons (pe_tup (pa_cons pe_str (pa_cons pe_str (pa_cons pe_str pa_nil)))) pa_nil))) (pa_cons (pv 3) pa_nil)))) (pe_tup (pa_cons pe_str (pa_cons pe_str pa_nil))) (nomark _))
      (pss_one (ps_ret pe_bl))
      pss_nil)
      (pss_one (ps_if (pt_cmpR (k_ne (K := K) rfl hu) (pe_df D_law_refusal (hr.mono (by decide)) (fun σ => passAt (takes_of rfl rfl rfl rfl) σ) (pa_cons (pv 0) (pa_cons (pe_op (k_add (K := K) rfl) (pv 1) (pe_lst (pa_cons (pe_tup (pa_cons pe_str (pa_cons pe_str (pa_cons pe_str (pa_cons pe_int pa_nil))))) pa_nil))) (pa_cons (pv 3) pa_nil)))) (pe_tup (pa_cons pe_str (pa_cons pe_str pa_nil))) (nomark _))
      (pss_one (ps_ret pe_bl))
      pss_nil)))))
      (pss_cons (ps_if (pt_cmpR (k_ne (K := K) rfl hu) (pe_df D_law_refusal (hr.mono (by decide)) (fun σ => passAt (takes_of rfl rfl rfl rfl) σ) (pa_cons (pv 0) (pa_cons (pe_lst (pa_cons (pe_tup (pa_cons pe_str (pa_cons (pv 2) (pa_cons pe_str pa_nil)))) (pa_cons (pe_tup (pa_cons pe_str (pa_cons pe_str (pa_cons pe_str (pa_cons pe_int pa_nil))))) pa_nil))) (pa_cons pe_int pa_nil)))) (pe_tup (pa_cons (pv 2) (pa_cons pe_str pa_nil))) (nomark _))
      (pss_one (ps_ret pe_bl))
      pss_nil)
      (pss_one (ps_ret (pe_cmpR (k_eq (K := K) rfl hu) (pe_df D_law_refusal (hr.mono (by decide)) (fun σ => passAt (takes_of rfl rfl rfl rfl) σ) (pa_cons (pv 0) (pa_cons (pv 1) (pa_cons pe_int pa_nil)))) (pe_tup (pa_cons pe_str (pa_cons pe_str pa_nil))) (nomark _))))))), ?_⟩
   obtain ⟨N, a, b, h, xs, es, rfl, ha, hb, hxs, hG, hes, heg, ⟨f, hf⟩, hq⟩ := h
   obtain ⟨a', kvs, ea, _, hra, tk⟩ := ha.dicAt
   cases ea
   obtain ⟨k0, rest, hk0⟩ := hG.head
   have hlen := hG.len
   have hxl : xs.length = es.length := by rw [hxs.length, List.length_map]
   have imm : ∀ e ∈ es, e.Imm := fun e m => (heg e m).imm
   obtain ⟨wf, _, nf⟩ := appAll_ok hG.wf.cp imm hG.fit.cp hf
   rw [nms_cp] at nf
   have nmf := appAll_nam hG.nam.cp (fun e m => (heg e m).name) hf
   have m0 : k0 ∈ nms h := by rw [hk0]; exact List.mem_cons_self
   walk_at "g"
   refine q_listK hra fun q hq1 => ?_
   rw [keysV (tk.keys.trans (keys_hK h)), hk0]
   have s1 : Same H (upd H q (.lst ((k0 :: rest).map V.str))) := same_new hq1
   walk_at "g"
   refine q_ixL sq_new (atI_nat (j := 0) (v := .str k0) rfl) ?_
   generalize upd H q (.lst ((k0 :: rest).map V.str)) = H1 at s1
   -- one call with one more edit
   have call : ∀ {Hx : Hp} {p : Addr} {u : V} {e : Ed} {how : Nat} {Q5 : VK} {E5 : XK} {w n : Str}, Same H Hx → Hx p = some (.lst (xs ++ [u])) → T K Hx ff u e.tr → e.Imm → app1 f e = .error (w, n) → app1 (cpH h) e = .error (w, n) → how < 4 →
       (∀ p2 H2, Same Hx H2 → H2 p2 = some (.tup [.str w, .str n]) → Q5 (.ref p2) H2) → spRef K [.ref a, .ref p, .int (0 + how)] Hx Q5 E5 := fun {Hx p u e how Q5 E5 w n} s ep tu im h1 h2 hw k => by
     refine ⟨N, a, p, h, xs ++ [u], es ++ [e], 0 + how, rfl, ha.mono s, .inl (.inl ep), ?_, hG.wf, fun x m => ?_, fun q hq => Nat.le_trans (hG.fit q hq) (by decide), ?_, ?_, by omega, fun p2 H2 s2 e2 => ?_⟩
     · rw [List.map_append]
       exact (hxs.mono s).append (.cons tu .nil)
     · rcases List.mem_append.mp m with m | m
       · exact imm x m
       · rw [List.mem_singleton.mp m]
         exact im
     · rw [List.length_append]
       show es.length + 1 ≤ 10
       omega
     · rw [List.length_append]
       show _ → 1 ≤ es.length + 1
       omega
     · rw [ref_how hf h1 h2 hw] at e2
       exact k p2 H2 s2 e2
   walk_at "g"
   refine ⟨4, rfl, by decide, by decide, ?_⟩
   refine for_rng (lo := 0) (n := 4) (fun i σ Hi => ∃ (v3 : Option V), σ = [some (.ref a), some (.ref b), some (.str k0), v3] ∧ Same H Hi) ?_ ?_ ?_
   · exact ⟨none, rfl, s1⟩
   · rintro i σ Hi hi ⟨v3, rfl, si⟩
     walk_at "g"
     intro p1 hp1
     have s2 := same_new (o := .tup [.str "drop", .str k0, .str "x8"]) hp1
     walk_at "g"
     intro p2 hp2
     have s3 := same_new (o := .lst [.ref p1]) hp2
     have sb := si.trans (s2.trans s3)
     refine q_addL (sb _ _ hb) upd_same (by show xs.length + 1 ≤ _; exact Nat.le_trans (show xs.length + 1 ≤ 100 by omega) (by decide)) fun p3 hp3 => ?_
     have s4 := same_new (o := .lst (xs ++ [.ref p1])) hp3
     walk_at "g"
     refine call (sb.trans s4) upd_same (e := .drop k0 "x8") (.tup (Sm.sqT (s3.trans s4) st_new) (.cons (.str _) (.cons (.str _) (.cons (.str _) .nil)))) trivial (app1_drop (by rw [nf]; exact m0) nmf names5_x8) (app1_drop (by rw [nms_cp]; exact m0) hG.nam.cp names5_x8) hi fun p4 H4 s5 e5 => ?_
     have sc := (sb.trans s4).trans s5
     clear s2 s3 s4 s5 sb hp1 hp2 hp3
     walk_at "g"
     intro p5 hp5
     have sd := sc.trans (same_new (o := .tup [.str k0, .str "x8"]) hp5)
     refine q_neP (Sm.sqT (same_new hp5) (.inl (.inl e5))) st_new ?_
     generalize upd H4 p5 (.tup [.str k0, .str "x8"]) = Ha at sd
     walk_at "g"
     intro p1 hp1
     have s2 := same_new (o := .tup [.str "drop", .str "x9", .str "x8"]) hp1
     walk_at "g"
     intro p2 hp2
     have s3 := same_new (o := .lst [.ref p1]) hp2
     have sb := sd.trans (s2.trans s3)
     refine q_addL (sb _ _ hb) upd_same (by show xs.length + 1 ≤ _; exact Nat.le_trans (show xs.length + 1 ≤ 100 by omega) (by decide)) fun p3 hp3 => ?_
     have s4 := same_new (o := .lst (xs ++ [.ref p1])) hp3
     walk_at "g"
     refine call (sb.trans s4) upd_same (e := .drop "x9" "x8") (.tup (Sm.sqT (s3.trans s4) st_new) (.cons (.str _) (.cons (.str _) (.cons (.str _) .nil)))) trivial (app1_tab (by rw [nf]; exact hG.x9)) (app1_tab (by rw [nms_cp]; exact hG.x9)) hi fun p4 H5 s5 e5 => ?_
     have sc := (sb.trans s4).trans s5
     clear s2 s3 s4 s5 sb hp1 hp2 hp3
     walk_at "g"
     intro p5 hp5
     have sd := sc.trans (same_new (o := .tup [.str "table", .str "x9"]) hp5)
     refine q_neP (Sm.sqT (same_new hp5) (.inl (.inl e5))) st_new ?_
     generalize upd H5 p5 (.tup [.str "table", .str "x9"]) = Hb at sd
     walk_at "g"
     intro p1 hp1
     have s2 := same_new (o := .tup [.str "put", .str "x9", .str "a", .int 1]) hp1
     walk_at "g"
     intro p2 hp2
     have s3 := same_new (o := .lst [.ref p1]) hp2
     have sb := sd.trans (s2.trans s3)
     refine q_addL (sb _ _ hb) upd_same (by show xs.length + 1 ≤ _; exact Nat.le_trans (show xs.length + 1 ≤ 100 by omega) (by decide)) fun p3 hp3 => ?_
     have s4 := same_new (o := .lst (xs ++ [.ref p1])) hp3
     walk_at "g"
     refine call (sb.trans s4) upd_same (e := .put "x9" "a" (.int 1)) (.tup (Sm.sqT (s3.trans s4) st_new) (.cons (.str _) (.cons (.str _) (.cons (.str _) (.cons (.int _) .nil))))) rfl (app1_tab (by rw [nf]; exact hG.x9)) (app1_tab (by rw [nms_cp]; exact hG.x9)) hi fun p4 H6 s5 e5 => ?_
     have sc := (sb.trans s4).trans s5
     walk_at "g"
     intro p5 hp5
     have sd := sc.trans (same_new (o := .tup [.str "table", .str "x9"]) hp5)
     refine q_neP (Sm.sqT (same_new hp5) (.inl (.inl e5))) st_new ?_
     walk_at "g"
     exact ⟨_, rfl, sd⟩
   · rintro σ Hi ⟨v3, rfl, si⟩
     walk_at "g"
     intro p1 hp1
     have s2 := same_new (o := .tup [.str "drop", .str k0, .str "x8"]) hp1
     walk_at "g"
     intro p2 hp2
     have s3 := same_new (o := .tup [.str "put", .str "x9", .str "a", .int 1]) hp2
     walk_at "g"
     intro p3 hp3
     have s4 := same_new (o := .lst [.ref p1, .ref p2]) hp3
     have sb := si.trans (s2.trans (s3.trans s4))
     walk_at "g"
     refine ⟨N, a, p3, h, _, [.drop k0 "x8", .put "x9" "a" (.int 1)], 0, rfl, ha.mono sb, sq_new, .cons (.tup (Sm.sqT (s3.trans s4) st_new) (.cons (.str _) (.cons (.str _) (.cons (.str _) .nil)))) (.cons (.tup (Sm.sqT s4 st_new) (.cons (.str _) (.cons (.str _) (.cons (.str _) (.cons (.int _) .nil))))) .nil),
       hG.wf, fun x m => ?_, fun q hq => Nat.le_trans (hG.fit q hq) (by decide), (show 2 ≤ 10 by decide), fun z => by omega, by omega, fun p4 H4 s5 e5 => ?_⟩
     · rcases List.mem_cons.mp m with e | m
       · rw [e]
         trivial
       · rw [List.mem_singleton.mp m]
         rfl
     · have hx : refOf h [.drop k0 "x8", .put "x9" "a" (.int 1)] 0 = (k0, ("x8" : Str)) := by
         unfold refOf
         rw [if_pos (.inl rfl), appAll_cons, app1_drop (by rw [nms_cp]; exact m0) hG.nam.cp names5_x8]
         rfl
       rw [hx] at e5
       have sc := sb.trans s5
       walk_at "g"
       intro p5 hp5
       have sd := sc.trans (same_new (o := .tup [.str k0, .str "x8"]) hp5)
       refine q_neP (Sm.sqT (same_new hp5) (.inl (.inl e5))) st_new ?_
       generalize upd H4 p5 (.tup [.str k0, .str "x8"]) = Ha at sd
       walk_at "g"
       refine ⟨N, a, b, h, xs, es, 4, rfl, ha.mono sd, .inl (.inl (sd _ _ hb)), hxs.mono sd, hG.wf, imm, fun q hq => Nat.le_trans (hG.fit q hq) (by decide), by omega, fun z => by omega, by omega, fun p6 H6 s6 e6 => ?_⟩
       have hy : refOf h es 4 = (("table" : Str), ("x9" : Str)) := by
         unfold refOf
         rw [if_neg (by decide), if_neg (by decide), lk_none.mpr hG.x9]
         rfl
       rw [hy] at e6
       walk_at "g"
       intro p7 hp7
       refine q_eqP (Sm.sqT (same_new hp7) (.inl (.inl e6))) st_new ?_
       exact hq _ (sd.trans (s6.trans (same_new hp7)))
  case len =>
   obtain ⟨N, a, b, h, xs, es, rfl, _⟩ := h
   rfl

theorem keysL_pla : ∀ n ∈ keysL, Pla 5 n := by decide +kernel
theorem names5_pla : ∀ n ∈ names5, Pla 3 n := by decide +kernel
theorem Ent.vw {d : Tr} {j : Bool} (h : Ent d) : Vw 4 1 j d := by
  cases h with
  | int i h1 h2 => exact (Vw.int (sho_of (by omega) (by omega))).le (by decide) (by decide)
  | tup k h1 h2 => exact (Vw.tup (.cons (.str (n := 1) (by decide +kernel)) (.cons (.int (sho_of h1 (by omega))) .nil))).le (by decide) (by decide)
  | word => exact (Vw.str (n := 4) (by decide +kernel)).le (by decide) (by decide)
theorem HG.in_keys {h : Hs} (g : HG h) {n : Str} (m : n ∈ nms h) : n ∈ keysL := by
  obtain ⟨k, _, _, e⟩ := g.keys
  rw [e] at m
  exact List.mem_of_mem_take m
theorem HG.vw {h : Hs} (g : HG h) : Vw 400 3 true (.dic (hK h)) := by
  have hl := g.len
  have vk : Vwk ((5 + 52 + 2) * (hK h).length) 2 true (hK h) := Vwk.all fun p hp => by
    obtain ⟨q, hq, rfl⟩ := List.mem_map.mp hp
    refine ⟨⟨q.1, rfl, keysL_pla _ (g.in_keys (mem_nms hq))⟩, ?_⟩
    have ge := g.ent q hq
    have vt : Vwk ((3 + 4 + 2) * (tK q.2).length) 1 true (tK q.2) := Vwk.all fun x hx => by
      obtain ⟨y, hy, rfl⟩ := List.mem_map.mp hx
      exact ⟨⟨y.1, rfl, names5_pla _ (g.nam q hq y hy)⟩, (ge.2 y hy).2.vw⟩
    have e : (tK q.2).length = q.2.length := List.length_map _
    exact (Vw.dic vt).le (by rw [e]; have := ge.1; omega) (by decide)
  have e : (hK h).length = h.length := List.length_map _
  exact (Vw.dic vk).le (by rw [e]; omega) (by decide)
theorem EdG.vw {h : Hs} (hG : HG h) {e : Ed} (g : EdG h e) : Vw 30 2 true e.tr := by
  have k := keysL_pla _ (hG.in_keys g.key)
  have n := names5_pla _ g.name
  have s0 : ∀ {n : Nat} {s : Str}, Pla n s → Vw n 1 true (.str s) := fun p => (Vw.str p).le (Nat.le_refl _) (Nat.zero_le _)
  cases e with
  | put key name x => exact (Vw.tup (.cons (s0 (n := 4) (by decide +kernel)) (.cons (s0 k) (.cons (s0 n) (.cons (g.ent _ _ _ rfl).vw .nil))))).le (by decide) (by decide)
  | drop key name => exact (Vw.tup (.cons (s0 (n := 4) (by decide +kernel)) (.cons (s0 k) (.cons (s0 n) .nil)))).le (by decide) (by decide)
theorem Ent.dep {d : Tr} (h : Ent d) : TU.dep d ≤ 50 := by
  cases h with
  | int i => exact Nat.zero_le _
  | tup k => exact (show 1 ≤ 50 by decide)
  | word => exact Nat.zero_le _
theorem HG.all {h : Hs} (g : HG h) : All Ent h := fun q hq x hx => ((g.ent q hq).2 x hx).2
theorem EdG.all {h : Hs} {e : Ed} (g : EdG h e) : EdP Ent e := g.ent
theorem ent_sml {h : Hs} (a : All Ent h) : Sml h := fun q hq x hx => Nat.le_trans (a q hq x hx).dep (by decide)
-- law: 0 script, 1 jar, 2 at, 3 house, 4 edits, 5 before, 6 stage, 7 back, 8 edit, 9 told, 10 later, 11 one, 12 name, 13 due, 14 way, 15 twin, 16 key
theorem sc_law : FnScope ["script", "jar", "at", "house", "edits", "before", "stage", "back", "edit", "told", "later", "one", "name", "due", "way", "twin", "key"] ["script"] (defScope s_law) := ⟨rfl, rfl, rfl, by decide +kernel, rfl, by decide +kernel, by decide +kernel⟩
theorem d_law (B : Bt mg) (F : TopF K mg "law" s_law ["script"]) (D_law_same : Df P w K mg base "_law_same" ["told", "house"] 1 (spSame K)) (D_apply_edits : Df P w K mg base "apply_edits" ["house", "edits"] 6 (spAE K C_Unknown)) (D_copy_house : Df P w K mg base "copy_house" ["house"] 1 (spCH K)) (D_law_refusals_right : Df P w K mg base "_law_refusals_right" ["house", "edits"] 9 (spRR K)) (D_law_copy : Df P w K mg base "_law_copy" ["house"] 1 (spCH K)) (D_inverse_of : Df P w K mg base "inverse_of" ["house", "edits"] 6 (spIO K C_Unknown)) (D_entry_in : Df P w K mg base "entry_in" ["house", "key", "name"] 4 (spEI K C_Unknown)) (D_apply_edit : Df P w K mg base "apply_edit" ["house", "edit"] 7 (spA1 K C_Unknown)) (D_law_after : Df P w K mg base "_law_after" ["house", "edit"] 3 (spAF K)) (D_law_back : Df P w K mg base "_law_back" ["house", "edit"] 1 (spLB K)) (D_inverse : Df P w K mg base "inverse" ["house", "edit"] 5 (spIV K C_Unknown)) (D_law_edits : Df P w K mg base "_law_edits" ["jar", "at", "house", "many"] 4 (spEds K)) (D_law_draw : Df P w K mg base "_law_draw" ["jar", "at", "many"] 1 (spDraw)) (D_law_house : Df P w K mg base "_law_house" ["jar", "at"] 3 (spHouse K)) (D_law_jar : Df P w K mg base "_law_jar" ["script"] 1 (spJar K)) : ∃ fa, mg "law" = some (.ref fa) ∧ TopOk P w K mg base fa (spLaw K) := by
  refine top_ok (k := 9) F sc_law ⟨rfl, by decide, by decide⟩ (fun f cdv A s H vs Q E hg hr h => ?body)
  case body =>
   have hu := hr.units
   have hgd : (A.deeper (envOfC "law" (defScope s_law) s.heap.objs.size f cdv)).guards = some [] := hg
   refine ⟨_, (pss_cons (ps_set (i := 1) sc_law.nd rfl (Or.inl rfl) (pe_df D_law_jar (hr.mono (by decide)) (fun σ => passAt (takes_of rfl rfl rfl rfl) σ) (pa_cons (pv 0) pa_nil)))
      (pss_cons (ps_set (i := 2) sc_law.nd rfl (Or.inl rfl) (pe_lst (pa_cons pe_int pa_nil)))
      (pss_cons (ps_set (i := 3) sc_law.nd rfl (Or.inl rfl) (pe_df D_law_house (hr.mono (by decide)) (fun σ => passAt (takes_of rfl rfl rfl rfl) σ) (pa_cons (pv 1) (pa_cons (pv 2) pa_nil))))
      (pss_cons (ps_set (i := 4) sc_law.nd rfl (Or.inl rfl) (pe_df D_law_edits (hr.mono (by decide)) (fun σ => passAt (takes_of rfl rfl rfl rfl) σ) (pa_cons (pv 1) (pa_cons (pv 2) (pa_cons (pv 3) (pa_cons (pe_df D_law_draw (hr.mono (by decide)) (fun σ => passAt (takes_of rfl rfl rfl rfl) σ) (pa_cons (pv 1) (pa_cons (pv 2) (pa_cons pe_int pa_nil)))) pa_nil))))))
      (pss_cons (ps_set (i := 5) sc_law.nd rfl (Or.inl rfl) (pe_op (k_add (K := K) rfl) (pe_callB (k_repr (K := K) rfl hgd hu) (by rfl) B.b_repr (by decide +kernel) (pa_cons (pv 3) pa_nil)) (pe_callB (k_repr (K := K) rfl hgd hu) (by rfl) B.b_repr (by decide +kernel) (pa_cons (pv 4) pa_nil))))
      (pss_cons (ps_set (i := 6) sc_law.nd rfl (Or.inl rfl) (pe_df D_law_copy (hr.mono (by decide)) (fun σ => passAt (takes_of rfl rfl rfl rfl) σ) (pa_cons (pv 3) pa_nil)))
      (pss_cons (ps_set (i := 7) sc_law.nd rfl (Or.inl rfl) (pe_lst pa_nil))
      (pss_cons (ps_lockU (ps_for (passes_of rfl) rfl (k_walk (K := K) rfl (pv 4)) (pg_name (i := 8) sc_law.nd rfl (Or.inl rfl))
      (pss_cons (ps_set (i := 9) sc_law.nd rfl (Or.inl rfl) (pe_df D_inverse (hr.mono (by decide)) (fun σ => passAt (takes_of rfl rfl rfl rfl) σ) (pa_cons (pv 6) (pa_cons (pv 8) pa_nil))))
      (pss_cons (ps_if (PW.pt (pw_or (pt_cmpR (k_ne (K := K) rfl hu) (pv 9) (pe_df D_law_back (hr.mono (by decide)) (fun σ => passAt (takes_of rfl rfl rfl rfl) σ) (pa_cons (pv 6) (pa_cons (pv 8) pa_nil))) (nomark _)) (pw_or1 (pt_not (k_tr (K := K) rfl (pe_callB (k_isi (K := K) rfl) (by rfl) B.b_isinstance (by decide +kernel) (pa_cons (pv 9) (pa_cons (pe_bltn (v := .ty "tuple") (by rfl) B.b_tuple (by decide +kernel) rfl) pa_nil))))))))
      (pss_one (ps_ret pe_bl))
      pss_nil)
      (pss_cons (ps_set (i := 7) sc_law.nd rfl (Or.inl rfl) (pe_op (k_add (K := K) rfl) (pe_lst (pa_cons (pv 9) pa_nil)) (pv 7)))
      (pss_cons (ps_set (i := 10) sc_law.nd rfl (Or.inl rfl) (pe_df D_law_after (hr.mono (by decide)) (fun σ => passAt (takes_of rfl rfl rfl rfl) σ) (pa_cons (pv 6) (pa_cons (pv 8) pa_nil))))
      (pss_cons (ps_set (i := 11) sc_law.nd rfl (Or.inl rfl) (pe_df D_apply_edit (hr.mono (by decide)) (fun σ => passAt (takes_of rfl rfl rfl rfl) σ) (pa_cons (pv 6) (pa_cons (pv 8) pa_nil))))
      (pss_cons (ps_if (PW.pt (pw_or (pt_not (k_tr (K := K) rfl (pe_df D_law_same (hr.mono (by decide)) (fun σ => passAt (takes_of rfl rfl rfl rfl) σ) (pa_cons (pv 11) (pa_cons (pv 10) pa_nil))))) (pw_or1 (pt_not (k_tr (K := K) rfl (pe_df D_law_same (hr.mono (by decide)) (fun σ => passAt (takes_of rfl rfl rfl rfl) σ) (pa_cons (pe_df D_apply_edit (hr.mono (by decide)) (fun σ => passAt (takes_of rfl rfl rfl rfl) σ) (pa_cons (pv 11) (pa_cons (pv 9) pa_nil))) (pa_cons (pv 6) pa_nil))))))))
      (pss_one (ps_ret pe_bl))
      pss_nil)
      (pss_cons (ps_lockU (ps_for (passes_of rfl) rfl (k_walk (K := K) rfl (pe_lst (pa_cons pe_str (pa_cons pe_str pa_nil)))) (pg_name (i := 12) sc_law.nd rfl (Or.inl rfl))
      (pss_cons (ps_set (i := 13) sc_law.nd rfl (Or.inl rfl) (pe_tup (pa_cons pe_bl (pa_cons pe_non pa_nil))))
      (pss_cons (ps_if (pt_cmpR (k_in (K := K) rfl hu) (pv 12) (pe_ix (k_ix (K := K) rfl hu) (pv 10) (pe_ix (k_ix (K := K) rfl hu) (pv 8) pe_int (fun _ _ => rfl)) (fun _ _ => rfl)) (by rfl))
      (pss_one (ps_set (i := 13) sc_law.nd rfl (Or.inl rfl) (pe_tup (pa_cons pe_bl (pa_cons (pe_ix (k_ix (K := K) rfl hu) (pe_ix (k_ix (K := K) rfl hu) (pv 10) (pe_ix (k_ix (K := K) rfl hu) (pv 8) pe_int (fun _ _ => rfl)) (fun _ _ => rfl)) (pv 12) (fun _ _ => rfl)) pa_nil)))))
      pss_nil)
      (pss_one (ps_if (pt_cmpR (k_ne (K := K) rfl hu) (pe_df D_entry_in (hr.mono (by decide)) (fun σ => passAt (takes_of rfl rfl rfl rfl) σ) (pa_cons (pv 10) (pa_cons (pe_ix (k_ix (K := K) rfl hu) (pv 8) pe_int (fun _ _ => rfl)) (pa_cons (pv 12) pa_nil)))) (pv 13) (nomark _))
      (pss_one (ps_ret pe_bl))
      pss_nil))))))
      (pss_one (ps_set (i := 6) sc_law.nd rfl (Or.inl rfl) (pv 10))))))))))))
      (pss_cons (ps_set (i := 9) sc_law.nd rfl (Or.inl rfl) (pe_df D_apply_edits (hr.mono (by decide)) (fun σ => passAt (takes_of rfl rfl rfl rfl) σ) (pa_cons (pv 3) (pa_cons (pe_callTy (k_list (K := K) rfl rfl) (by rfl) B.b_list (by decide +kernel) (pa_cons (pv 4) pa_nil)) pa_nil))))
      (pss_cons (ps_if (pt_not (k_tr (K := K) rfl (pe_df D_law_same (hr.mono (by decide)) (fun σ => passAt (takes_of rfl rfl rfl rfl) σ) (pa_cons (pv 9) (pa_cons (pv 6) pa_nil)))))
      (pss_one (ps_ret pe_bl))
      pss_nil)
      (pss_cons (ps_set (i := 14) sc_law.nd rfl (Or.inl rfl) (pe_df D_inverse_of (hr.mono (by decide)) (fun σ => passAt (takes_of rfl rfl rfl rfl) σ) (pa_cons (pv 3) (pa_cons (pe_callTy (k_list (K := K) rfl rfl) (by rfl) B.b_list (by decide +kernel) (pa_cons (pv 4) pa_nil)) pa_nil))))
      (pss_cons (ps_if (PW.pt (pw_or (pt_not (k_tr (K := K) rfl (pe_callB (k_isi (K := K) rfl) (by rfl) B.b_isinstance (by decide +kernel) (pa_cons (pv 14) (pa_cons (pe_bltn (v := .ty "list") (by rfl) B.b_list (by decide +kernel) rfl) pa_nil))))) (pw_or (pt_cmpR (k_ne (K := K) rfl hu) (pv 14) (pv 7) (nomark _)) (pw_or1 (pt_not (k_tr (K := K) rfl (pe_df D_law_same (hr.mono (by decide)) (fun σ => passAt (takes_of rfl rfl rfl rfl) σ) (pa_cons (pe_df D_apply_edits (hr.mono (by decide)) (fun σ => passAt (takes_of rfl rfl rfl rfl) σ) (pa_cons (pv 9) (pa_cons (pv 14) pa_nil))) (pa_cons (pe_df D_law_copy (hr.mono (by decide)) (fun σ => passAt (takes_of rfl rfl rfl rfl) σ) (pa_cons (pv 3) pa_nil)) pa_nil)))))))))
      (pss_one (ps_ret pe_bl))
      pss_nil)
      (pss_cons (ps_if (PW.pt (pw_or (pt_not (k_tr (K := K) rfl (pe_df D_law_refusals_right (hr.mono (by decide)) (fun σ => passAt (takes_of rfl rfl rfl rfl) σ) (pa_cons (pv 3) (pa_cons (pv 4) pa_nil))))) (pw_or1 (pt_cmpR (k_ne (K := K) rfl hu) (pe_op (k_add (K := K) rfl) (pe_callB (k_repr (K := K) rfl hgd hu) (by rfl) B.b_repr (by decide +kernel) (pa_cons (pv 3) pa_nil)) (pe_callB (k_repr (K := K) rfl hgd hu) (by rfl) B.b_repr (by decide +kernel) (pa_cons (pv 4) pa_nil))) (pv 5) (nomark _)))))
      (pss_one (ps_ret pe_bl))
      pss_nil)
      (pss_cons (ps_set (i := 15) sc_law.nd rfl (Or.inl rfl) (pe_df D_copy_house (hr.mono (by decide)) (fun σ => passAt (takes_of rfl rfl rfl rfl) σ) (pa_cons (pv 3) pa_nil)))
      (pss_cons (ps_lockU (ps_for (passes_of rfl) rfl (k_walk (K := K) rfl (pv 3)) (pg_name (i := 16) sc_law.nd rfl (Or.inl rfl))
      (pss_cons (ps_asg pe_int (pg_sub (pe_ix (k_ix (K := K) rfl hu) (pv 15) (pv 16) (fun _ _ => rfl)) pe_str (set_any hu)))
      (pss_one (ps_asg pe_int (pg_sub (pe_ix (k_ix (K := K) rfl hu) (pv 9) (pv 16) (fun _ _ => rfl)) pe_str (set_any hu)))))))
      (pss_one (ps_ret (pe_and (pe_cmpR (k_eq (K := K) rfl hu) (pe_op (k_add (K := K) rfl) (pe_callB (k_repr (K := K) rfl hgd hu) (by rfl) B.b_repr (by decide +kernel) (pa_cons (pv 3) pa_nil)) (pe_callB (k_repr (K := K) rfl hgd hu) (by rfl) B.b_repr (by decide +kernel) (pa_cons (pv 4) pa_nil))) (pv 5) (nomark _)) (pe_one (pe_df D_law_same (hr.mono (by decide)) (fun σ => passAt (takes_of rfl rfl rfl rfl) σ) (pa_cons (pe_df D_apply_edits (hr.mono (by decide)) (fun σ => passAt (takes_of rfl rfl rfl rfl) σ) (pa_cons (pv 3) (pa_cons (pe_callTy (k_list (K := K) rfl rfl) (by rfl) B.b_list (by decide +kernel) (pa_cons (pv 4) pa_nil)) pa_nil))) (pa_cons (pv 6) pa_nil)))))))))))))))))))))), ?_⟩
   obtain ⟨a0, ns, rfl, hns, hlen, hq⟩ := h
   walk_at "g"
   refine ⟨a0, ns, rfl, hns, hlen, fun j H1 ms s1 hj0 hj ml mb => ?_⟩
   walk_at "g"
   intro a ha
   have hja : j ≠ a := ne_of_none hj ha
   have s2 := same_new (o := .lst [.int 0]) ha
   have R0 : Rnd (upd H1 a (.lst [.int 0])) j a 0 := ⟨⟨ms, s2 _ _ hj, ml, mb⟩, upd_same, hja, Int.le_refl _⟩
   generalize upd H1 a (.lst [.int 0]) = H2 at R0
   walk_at "g"
   refine ⟨j, a, 0, rfl, R0, by decide, fun r h H3 p3 k3 R3 p30 p31 hr0 o3 hG => ?_⟩
   walk_at "g"
   refine ⟨j, a, p3, 9, rfl, R3, Int.le_trans (show p3 ≤ 400 by omega) (by decide), by decide, fun v p4 v0 v1 p40 p41 => ?_⟩
   obtain ⟨many, rfl⟩ : ∃ n : Nat, v = n := ⟨v.toNat, by omega⟩
   have R4 := R3.set (p' := p4) (by omega)
   have hNa : ∀ b, H2 b = none → b ≠ a := fun b e => (R0.ja e).2
   have o4 := o3.kp (Kp.upd (a := a) (o := .lst [.int p4])) R3.at_ hNa
   generalize upd H3 a (.lst [.int p4]) = H4 at R4 o4
   refine ⟨_, j, a, r, p4, h, many, rfl, R4, Int.le_trans (show p4 + 100 ≤ 600 by omega) (by decide), by omega, hNa, o4, hG, fun l H5 p5 xs es k5 R5 p50 hl0 hl ts el heg ⟨f, hf⟩ => ?_⟩
   have o5 := o4.kp k5 R4.at_ hNa
   clear R0 R3 R4 k3 k5 hNa o3 o4 hl0 R5 s1 s2
   have imm : ∀ e ∈ es, e.Imm := fun e m => (heg e m).imm
   have hes8 : es.length ≤ 8 := by omega
   have hxl : xs.length = es.length := by rw [ts.length, List.length_map]
   obtain ⟨hl1, hl3⟩ := hG.len
   have vE : Vw ((30 + 1) * (es.map Ed.tr).length) 3 false (.lst (es.map Ed.tr)) := Vw.lst (j := false) (.all fun d hd => by
     obtain ⟨e, he, rfl⟩ := List.mem_map.mp hd
     have v := (heg e he).vw hG
     exact ⟨v.sh, v.sl, v.bk, v.dp, fun z => nomatch z⟩)
   have nE : TU.nod (.lst (es.map Ed.tr)) = true := by
     simp only [TU.nod]
     exact nods_all fun d hd => by
       obtain ⟨e, he, rfl⟩ := List.mem_map.mp hd
       exact Ed.nod (imm e he)
   have szE : (30 + 1) * (es.map Ed.tr).length ≤ 400 := by rw [List.length_map]; omega
   have tE : ∀ {Hx : Hp}, Same H5 Hx → T K Hx (fun _ => True) (.ref l) (.lst (es.map Ed.tr)) := fun {Hx} s => .lst trivial (.inl (.inl (s _ _ hl))) ((ts.mono s).imp fun _ z => z.elim)
   obtain ⟨before, hbef⟩ : ∃ b, b = (py (.dic (hK h))).shown ++ (py (.lst (es.map Ed.tr))).shown := ⟨_, rfl⟩
   walk_at "g"
   refine q_reprN o5.T hG.vw (by decide) (by decide) ?_
   walk_at "g"
   refine q_reprL (tE Same.refl') vE (hasDict_py _ nE) (Nat.le_trans szE (by decide)) (by decide) ?_
   have len2 : (py (.dic (hK h))).shown.length + (py (.lst (es.map Ed.tr))).shown.length ≤ sizeLine := by
     have z1 := hG.vw.len
     have z2 := vE.len
     exact Nat.le_trans (show _ ≤ 20000 by omega) (by decide)
   refine q_addS len2 ?_
   rw [← hbef]
   walk_at "g"
   refine ⟨_, r, h, rfl, o5.T, hG.wf, fun q hq => Nat.le_trans (hG.fit q hq) (by decide), by omega, fun st H6 s6 o6 => ?_⟩
   walk_at "g"
   intro bk hbk
   have s7 := s6.trans (same_new (o := .lst []) hbk)
   walk_at "g"
   refine .inl ?_
   walk_at "g"
   refine q_items ?_
   walk_at "g"
   refine q_itemsE (xs := xs) (.inl (.inl (s7 _ _ hl))) ?_
   refine for_items (xs := xs) (fun i σ Hi => ∃ (st bk : Addr) (v8 v9 v10 v11 v12 v13 : Option V) (f : Hs) (bs : List V), σ = [some (.ref a0), some (.ref j), some (.ref a), some (.ref r), some (.ref l), some (.str before), some (.ref st), some (.ref bk), v8, v9, v10, v11, v12, v13, none, none, none] ∧
     Same H5 Hi ∧ appAll (cpH h) (es.take i) = .ok f ∧ Own K (fun _ => True) Hi st (cpH f) ∧ Hi bk = some (.lst bs) ∧ Ts K Hi ff bs ((invs (cpH h) (es.take i)).reverse.map Ed.tr) ∧ bs.length = i) ?_ ?_ ?_ ?_
   · exact ⟨st, bk, none, none, none, none, none, none, cpH h, [], rfl, s7, rfl, by rw [cp_cp hG.wf]; exact (o6.mono (same_new hbk)).imp fun _ _ => trivial, upd_same, .nil, rfl⟩
   · rintro i σ Hi _ ⟨st, bk, v8, v9, v10, v11, v12, v13, f, bs, rfl, si, _⟩
     exact .inl (.inl (si _ _ hl))
   · rintro i x σ Hi hx ⟨st, bk, v8, v9, v10, v11, v12, v13, fi, bs, rfl, si, ai, oi, hbk2, tb, hbl⟩
     obtain ⟨d, gd, tx0⟩ := ts.gets hx
     obtain ⟨e, he, rfl⟩ := map_at gd
     have hm := mem_at he
     have eG := heg e hm
     have hi8 : i < es.length := by
       rw [← hxl]
       exact (List.getElem?_eq_some_iff.mp hx).1
     have imt : ∀ e ∈ es.take i, e.Imm := fun e m => imm e (List.mem_of_mem_take m)
     obtain ⟨wi, fti, ni⟩ := appAll_ok hG.wf.cp imt hG.fit.cp ai
     have hlt : (es.take i).length ≤ 8 := by rw [List.length_take]; omega
     rw [nms_cp] at ni
     obtain ⟨f', hf'⟩ := appAll_next he ai hf
     obtain ⟨g, u, stp, hc, wg, wu, ng, nu⟩ := step_of wi eG.imm hf'
     have all_i : All Ent (cpH fi) := (appAll_all hG.all.cp (fun e m => (heg e (List.mem_of_mem_take m)).all) ai).cp
     have all_g : All Ent (cpH g) := (app1_all all_i eG.all stp.a1).cp
     obtain ⟨_, ftg, _⟩ := app1_ok wi.cp eG.imm fti.cp stp.a1
     have li : (cpH fi).length ≤ 900 := by rw [len_cp, len_of_nms ni]; omega
     have lg : (cpH g).length ≤ 900 := by rw [len_cp, len_of_nms (ng.trans ni)]; omega
     have hke : e.key ∈ nms (cpH fi) := by rw [nms_cp, ni]; exact eG.key
     obtain ⟨t, hkt⟩ := lk_mem_nms hke
     have hkg : e.key ∈ nms (cpH g) := by rw [nms_cp, ng, ni]; exact eG.key
     obtain ⟨tg, hktg⟩ := lk_mem_nms hkg
     have iv := inv1_all (e := e) all_i
     have iv2 : EdP (fun d => TU.dep d ≤ 50) (inv1 (cpH fi) e) := fun k n d z => (iv k n d z).dep
     have ivm := inv1_imm wi.cp e
     obtain ⟨bx, wx, rfl, hwx, w1, _⟩ := Ed.two (tx0.mono si)
     have tx : ∀ {Hx : Hp}, Same Hi Hx → T K Hx ff (.ref bx) e.tr := fun {Hx} s => (tx0.mono si).mono s
     walk_at "g"
     -- told = inverse(stage, edit)
     refine ⟨_, st, .ref bx, cpH fi, e, rfl, oi.T, tx Same.refl', wi.cp, ?_⟩
     rw [stp.a1]
     intro told Ha sa ta
     obtain ⟨b, ws, rfl, hws, _, _⟩ := Ed.two ta
     walk_at "g"
     -- told != _law_back(stage, edit)
     refine ⟨_, st, .ref bx, cpH fi, e, t, rfl, (oi.mono sa).T, tx sa, wi.cp, hkt, fun told2 Hb sb tb2 => ?_⟩
     refine q_neR (ta.mono sb) tb2 (Ed.nod ivm) (Nat.le_trans (Ed.dep iv2) (by decide)) ?_
     walk_at "g"
     refine q_isiT (Sm.sqT sb hws) ?_
     walk_at "g"
     -- back = [told] + back
     intro p1 hp1
     have sc := same_new (o := .lst [.ref b]) hp1
     have sabc := (sa.trans sb).trans sc
     walk_at "g"
     refine q_addL upd_same (sabc _ _ hbk2) (Nat.le_trans (show 1 + bs.length ≤ 100 by omega) (by decide)) fun p2 hp2 => ?_
     have sd := same_new (o := .lst ([V.ref b] ++ bs)) hp2
     have sad := sabc.trans sd
     have hp2e : (upd (upd Hb p1 (.lst [.ref b])) p2 (.lst ([V.ref b] ++ bs))) p2 = some (.lst (.ref b :: bs)) := upd_same
     have tbk : Ts K (upd (upd Hb p1 (.lst [.ref b])) p2 (.lst ([V.ref b] ++ bs))) ff (.ref b :: bs) ((invs (cpH h) (es.take (i + 1))).reverse.map Ed.tr) := by
       rw [invs_more he ai, List.reverse_append, inv1_cp (g' := cpH fi) (cp_cp wi).symm]
       exact .cons (ta.mono ((sb.trans sc).trans sd)) (tb.mono sad)
     have tad := ta.mono ((sb.trans sc).trans sd)
     clear hp1 hp2 sc sd sabc tb2
     generalize upd (upd Hb p1 (.lst [.ref b])) p2 (.lst ([V.ref b] ++ bs)) = Hc at sad hp2e tbk tad
     have od := oi.mono sad
     walk_at "g"
     -- later = _law_after(stage, edit)
     refine ⟨_, st, .ref bx, cpH fi, g, e, rfl, od.T, tx sad, wi.cp, eG.imm, fun q hq => Nat.le_trans (fti.cp q hq) (by omega), li, stp.a2, fun lt Hd se ol => ?_⟩
     walk_at "g"
     -- one = apply_edit(stage, edit)
     refine ⟨_, st, .ref bx, cpH fi, e, rfl, (od.mono se).T, tx (sad.trans se), wi.cp, eG.imm, fun q hq => Nat.le_trans (fti.cp q hq) (by omega), li, ?_⟩
     rw [stp.a2]
     intro on He sf oo
     walk_at "g"
     -- _law_same(one, later)
     refine ⟨_, _, on, lt, cpH g, rfl, oo.T, (ol.mono sf).T, wg.cp, ent_sml all_g, AscH.cp g, fun q hq => Nat.le_trans (ftg.cp q hq) (by omega), lg, fun Hf sg => ?_⟩
     walk_at "g"
     -- _law_same(apply_edit(one, told), stage)
     refine ⟨_, on, .ref b, cpH g, inv1 (cpH fi) e, rfl, (oo.mono sg).T, tad.mono ((se.trans sf).trans sg), wg.cp, ivm, fun q hq => Nat.le_trans (ftg.cp q hq) (by omega), lg, ?_⟩
     rw [stp.b]
     intro bk2 Hg sh ob
     rw [stp.c] at ob
     walk_at "g"
     refine ⟨_, _, bk2, st, cpH fi, rfl, ob.T, (od.mono (((se.trans sf).trans sg).trans sh)).T, wi.cp, ent_sml all_i, AscH.cp fi, fun q hq => Nat.le_trans (fti.cp q hq) (by omega), li, fun Hh sj => ?_⟩
     have sz := (((se.trans sf).trans sg).trans sh).trans sj
     have ol2 := ol.mono ((((sf).trans sg).trans sh).trans sj)
     walk_at "g"
     refine .inl ?_
     walk_at "g"
     refine q_items ?_
     walk_at "g"
     intro p3 hp3
     rw [show [V.str (PySem.Str.ofString "a"), V.str (PySem.Str.ofString "e")] = (["a", "e"] : List Str).map V.str from rfl]
     have sk := same_new (o := .lst ((["a", "e"] : List Str).map V.str)) hp3
     refine q_itemsE (xs := (["a", "e"] : List Str).map V.str) sq_new ?_
     have hp3e : (upd Hh p3 (.lst ((["a", "e"] : List Str).map V.str))) p3 = some (.lst ((["a", "e"] : List Str).map V.str)) := upd_same
     have sy := (sad.trans sz).trans sk
     have szk := sz.trans sk
     have ol3 := ol2.mono sk
     clear ob oo
     generalize upd Hh p3 (.lst ((["a", "e"] : List Str).map V.str)) = Hj at sy hp3e szk ol3
     refine for_items (xs := (["a", "e"] : List Str).map V.str) (fun k σ Hk => ∃ (v12 v13 : Option V), σ = [some (.ref a0), some (.ref j), some (.ref a), some (.ref r), some (.ref l), some (.str before), some (.ref st), some (.ref p2), some (.ref bx), some (.ref b), some (.ref lt), some (.ref on), v12, v13, none, none, none] ∧ Same Hj Hk) ?_ ?_ ?_ ?_
     · exact ⟨_, _, rfl, Same.refl'⟩
     · rintro k σ Hk _ ⟨v12, v13, rfl, sm⟩
       exact .inl (.inl (sm _ _ hp3e))
     · rintro k y σ Hk hy ⟨v12, v13, rfl, sm⟩
       obtain ⟨name, hn, rfl⟩ := hlist_at hy
       have sxk : Same Hi Hk := sy.trans sm
       walk_at "g"
       intro q1 hq1
       have sn := same_new (o := .tup [.bl false, .non]) hq1
       have td : T K (upd Hk q1 (.tup [.bl false, .non])) ff (.ref q1) (.tup [.bl false, .non]) := .tup st_new (.cons (.bl _) (.cons .non .nil))
       have on1 := (ol3.mono sm).mono sn
       have hw2 := Sm.sqT (sxk.trans sn) hwx
       generalize upd Hk q1 (.tup [.bl false, .non]) = Hn at sn td on1 hw2
       obtain ⟨kl, ql, el', y1, y2, y3, y4, _⟩ := on1.at hktg
       walk_at "g"
       refine q_ixT hw2 w1 ?_
       refine q_ixK (.inr e.key) (.inl y1) y2 ?_
       refine q_inD (.inr name) (.inl y3) ?_
       walk_at "g"
       cases e2 : lk tg name with
       | some d =>
         obtain ⟨vd, g1, g2⟩ := y4.ent e2
         have pd := all_g.lk hktg e2
         rw [g1]
         walk_at "g"
         refine q_ixT hw2 w1 ?_
         refine q_ixK (.inr e.key) (.inl y1) y2 ?_
         walk_at "g"
         refine q_ixK (.inr name) (.inl y3) g1 ?_
         walk_at "g"
         intro q2 hq2
         have so := same_new (o := .tup [.bl true, vd]) hq2
         have td2 : T K (upd Hn q2 (.tup [.bl true, vd])) ff (.ref q2) (.tup [.bl true, d]) := .tup st_new (.cons (.bl _) (.cons (g2.mono so) .nil))
         have on2 := on1.mono so
         have hw3 := Sm.sqT so hw2
         generalize upd Hn q2 (.tup [.bl true, vd]) = Ho at so td2 on2 hw3
         walk_at "g"
         refine q_ixT hw3 w1 ?_
         walk_at "g"
         refine ⟨_, lt, e.key, name, cpH g, rfl, on2.T, wg.cp, ?_⟩
         rw [hktg]
         intro uu Hp sp tu
         have tu2 : T K Hp ff uu (.tup [.bl true, d]) := by
           rw [e2] at tu
           exact tu
         have dp : TU.dep (.tup [.bl true, d]) ≤ 60 := by
           have := pd.dep
           simp only [TU.dep, deps]
           omega
         have nd : TU.nod (.tup [.bl true, d]) = true := by
           have := nod_of_imm pd.imm
           simp only [TU.nod, nods, this, Bool.and_self]
         walk_at "g"
         refine q_neR tu2 (td2.mono sp) nd dp ?_
         walk_at "g"
         exact ⟨_, _, rfl, ((sm.trans sn).trans so).trans sp⟩
       | none =>
         have g1 := y4.nent e2
         rw [g1]
         walk_at "g"
         refine q_ixT hw2 w1 ?_
         walk_at "g"
         refine ⟨_, lt, e.key, name, cpH g, rfl, on1.T, wg.cp, ?_⟩
         rw [hktg]
         intro uu Hp sp tu
         have tu2 : T K Hp ff uu (.tup [.bl false, .non]) := by
           rw [e2] at tu
           exact tu
         walk_at "g"
         refine q_neR tu2 (td.mono sp) rfl (show 1 ≤ 60 by decide) ?_
         walk_at "g"
         exact ⟨_, _, rfl, (sm.trans sn).trans sp⟩
     · rintro σ Hk ⟨v12, v13, rfl, sm⟩
       walk_at "g"
       refine ⟨lt, p2, _, _, _, _, _, _, f', .ref b :: bs, rfl, (si.trans sy).trans sm, ?_, ?_, sm _ _ (szk _ _ hp2e), tbk.mono (szk.trans sm), ?_⟩
       · rw [appAll_more he ai]
         exact hf'
       · rw [hc]
         exact (ol3.mono sm).imp fun _ _ => trivial
       · show bs.length + 1 = i + 1
         omega
   · rintro σ Hi ⟨st, bk, v8, v9, v10, v11, v12, v13, fi, bs, rfl, si, ai, oi, hbk2, tb, hbl⟩
     rw [hxl, List.take_length] at ai tb
     obtain ⟨wi, fti, ni⟩ := appAll_ok hG.wf.cp imm hG.fit.cp ai
     rw [nms_cp] at ni
     have all_i := appAll_all hG.all.cp (fun e m => (heg e m).all) ai
     have all_h : All Ent (cpH h) := hG.all.cp
     have li : (cpH fi).length ≤ 900 := by rw [len_cp, len_of_nms ni]; omega
     have lh : (cpH h).length ≤ 900 := by rw [len_cp]; omega
     obtain ⟨rv, hrv, hcr⟩ := undoAll imm hG.wf.cp ai
     have ivm : ∀ e ∈ (invs (cpH h) es).reverse, e.Imm := fun e m => invs_imm imm hG.wf.cp e (List.mem_reverse.mp m)
     have ive : ∀ e ∈ (invs (cpH h) es).reverse, EdP Ent e := fun e m => invs_all hG.all.cp (fun e m => (heg e m).all) e (List.mem_reverse.mp m)
     obtain ⟨rv2, hrv2, hcr2⟩ := appAll_cp ivm wi wi.cp (cp_cp wi).symm hrv
     rw [cp_cp hG.wf] at hcr
     have ivl : (invs (cpH h) es).reverse.length = es.length := by
       have z := tb.length
       rw [List.length_map] at z
       omega
     have bkn : TU.nod (.lst ((invs (cpH h) es).reverse.map Ed.tr)) = true := by
       simp only [TU.nod]
       exact nods_all fun d hd => by
         obtain ⟨e, he, rfl⟩ := List.mem_map.mp hd
         exact Ed.nod (ivm e he)
     have bkd : TU.dep (.lst ((invs (cpH h) es).reverse.map Ed.tr)) ≤ 60 := by
       have z : deps ((invs (cpH h) es).reverse.map Ed.tr) ≤ 51 := deps_all fun d hd => by
         obtain ⟨e, he, rfl⟩ := List.mem_map.mp hd
         exact Ed.dep fun k n d z => (ive e he k n d z).dep
       simp only [TU.dep]
       omega
     walk_at "g"
     -- told = apply_edits(house, list(edits))
     refine q_listL (.inl (.inl (si _ _ hl))) fun q1 hq1 => ?_
     have sa := si.trans (same_new (o := .lst xs) hq1)
     have oia := oi.mono (same_new (o := .lst xs) hq1)
     have hq1e : (upd Hi q1 (.lst xs)) q1 = some (.lst xs) := upd_same
     have tba := tb.mono (same_new (o := .lst xs) hq1)
     have hbka := same_new (o := .lst xs) hq1 _ _ hbk2
     clear hbk2 tb oi si
     generalize upd Hi q1 (.lst xs) = Hq at sa oia hq1e tba hbka
     walk_at "g"
     refine ⟨_, r, q1, h, xs, es, rfl, (o5.mono sa).T, .inl (.inl hq1e), ts.mono sa, hG.wf, imm, ⟨4, hG.fit, by omega⟩, by omega, ?_⟩
     rw [ai]
     intro td Ha sb otd
     walk_at "g"
     refine ⟨_, _, td, st, cpH fi, rfl, otd.T, (oia.mono sb).T, wi.cp, ent_sml all_i.cp, AscH.cp fi, fun q hq => Nat.le_trans (fti.cp q hq) (by omega), li, fun Hb sc => ?_⟩
     have sbc := sb.trans sc
     have otd2 := otd.mono sc
     walk_at "g"
     -- way = inverse_of(house, list(edits))
     refine q_listL (.inl (.inl ((sa.trans sbc) _ _ hl))) fun q2 hq2 => ?_
     have sd := sbc.trans (same_new (o := .lst xs) hq2)
     have otd3 := otd2.mono (same_new (o := .lst xs) hq2)
     have hq2e : (upd Hb q2 (.lst xs)) q2 = some (.lst xs) := upd_same
     clear otd otd2
     generalize upd Hb q2 (.lst xs) = Hc at sd otd3 hq2e
     walk_at "g"
     refine ⟨_, r, q2, h, xs, es, rfl, (o5.mono (sa.trans sd)).T, .inl (.inl hq2e), ts.mono (sa.trans sd), hG.wf, imm, ⟨4, hG.fit, by omega⟩, by omega, ?_⟩
     rw [ai]
     intro wy Hd ys se hwy0 hwy tw
     have sde := sd.trans se
     have otd4 := otd3.mono se
     walk_at "g"
     refine q_isiL (.inl (.inl hwy)) ?_
     walk_at "g"
     -- way != back
     refine q_neT (P := fun _ => True) (.lst trivial (.inl (.inl hwy)) (tw.imp fun _ z => z.elim)) (.lst trivial (.inl (.inl (sde _ _ hbka))) ((tba.mono sde).imp fun _ z => z.elim)) bkn bkn bkd ?_
     rw [eqb_refl bkn]
     walk_at "g"
     -- apply_edits(told, way), _law_copy(house)
     refine ⟨_, td, wy, cpH fi, ys, (invs (cpH h) es).reverse, rfl, otd4.T, .inl (.inl hwy), tw, wi.cp, ivm, ⟨12, fun q hq => Nat.le_trans (fti.cp q hq) (by omega), by omega⟩, li, ?_⟩
     rw [cp_cp wi, hrv2]
     intro q3 He sf o3
     have hz : cpH rv2 = cpH h := by rw [← hcr2, hcr]
     rw [hz] at o3
     walk_at "g"
     refine ⟨_, r, h, rfl, (o5.mono ((sa.trans sde).trans sf)).T, hG.wf, fun q hq => Nat.le_trans (hG.fit q hq) (by decide), by omega, fun q4 Hf sg o4 => ?_⟩
     walk_at "g"
     refine ⟨_, _, q3, q4, cpH h, rfl, (o3.mono sg).T, o4.T, hG.wf.cp, ent_sml all_h, AscH.cp h, fun q hq => Nat.le_trans (hG.fit.cp q hq) (by decide), lh, fun Hg sh => ?_⟩
     have sdh := ((sde.trans sf).trans sg).trans sh
     have otd5 := otd4.mono ((sf.trans sg).trans sh)
     clear otd3 otd4 o3 o4
     walk_at "g"
     -- _law_refusals_right, repr
     refine ⟨_, r, l, h, xs, es, rfl, (o5.mono (sa.trans sdh)).T, (sa.trans sdh) _ _ hl, ts.mono (sa.trans sdh), hG, hes8, heg, ⟨fi, ai⟩, fun Hh sj => ?_⟩
     have sdj := sdh.trans sj
     have otd6 := otd5.mono sj
     walk_at "g"
     refine q_reprN (o5.mono (sa.trans sdj)).T hG.vw (by decide) (by decide) ?_
     walk_at "g"
     refine q_reprL (tE (sa.trans sdj)) vE (hasDict_py _ nE) (Nat.le_trans szE (by decide)) (by decide) ?_
     refine q_addS len2 ?_
     rw [← hbef]
     walk_at "g"
     rw [decide_eq_true rfl]
     walk_at "g"
     -- twin = copy_house(house)
     refine ⟨_, r, h, rfl, (o5.mono (sa.trans sdj)).T, hG.wf, fun q hq => Nat.le_trans (hG.fit q hq) (by decide), by omega, fun tw2 Hk sk otw => ?_⟩
     have sdk := sdj.trans sk
     have otd7 := (otd6.live).mono sk
     have oq := o5.mono sa
     obtain ⟨a', kvs, ea, _, hrd, tkr⟩ := oq.T.dicAt
     cases ea
     walk_at "g"
     refine q_lockS (Sm.rd sdk hrd) fun Hl od un D' lkd hD' => ?_
     walk_at "g"
     refine q_keys ?_
     walk_at "g"
     refine q_keysE lkd.at_ ?_
     have hkl : kvs.length = h.length := by
       rw [tkr.length]
       exact List.length_map _
     have L0 : Lk1 Hq r kvs od Hl := ⟨fun b o e n => lkd.l1.keep b o (sdk b o e) n, lkd.at_⟩
     have old : ∀ b, (Hq b = none ∧ Hh b ≠ none) → b ≠ r := fun b z => L0.ne hrd z.1
     have new : ∀ b, Hh b = none → Hq b = none := fun b z => sdj.free z
     have otd8 : Own K (fun b => Hq b = none ∧ Hh b ≠ none) Hl td (cpH fi) := by
       refine otd7.keep (W := fun b => b = r) (fun b o n e => by rw [lkd.el b n]; exact e) (fun b xs z rd => ?_) old
       subst z
       exact nt_rd (Sm.rd sdk hrd) rd
     have otw2 : Own K (fun b => Hh b = none) Hl tw2 (cpH h) := by
       refine otw.keep (W := fun b => b = r) (fun b o n e => by rw [lkd.el b n]; exact e) (fun b xs z rd => ?_) fun b z => L0.ne hrd (new b z)
       subst z
       exact nt_rd (Sm.rd sdk hrd) rd
     refine for_keysS (kvs := kvs) (fun i σ H1 => ∃ (v16 : Option V) (ht hw : Hs), σ = [some (.ref a0), some (.ref j), some (.ref a), some (.ref r), some (.ref l), some (.str before), some (.ref st), some (.ref bk), v8, some (.ref td), v10, v11, v12, v13, some (.ref wy), some (.ref tw2), v16] ∧ Lk1 Hq r kvs od H1 ∧
       Own K (fun b => Hq b = none ∧ Hh b ≠ none) H1 td ht ∧ nms ht = nms h ∧ Wf ht ∧ Fits (12 + i) ht ∧ Own K (fun b => Hh b = none) H1 tw2 hw ∧ nms hw = nms h ∧ Wf hw ∧ Fits (12 + i) hw) ?_ ?_ ?_ ?_
     · exact ⟨_, _, _, rfl, L0, otd8, by rw [nms_cp]; exact ni, wi.cp, fun q hq => Nat.le_trans (fti.cp q hq) (by omega), otw2, nms_cp h, hG.wf.cp, fun q hq => Nat.le_trans (hG.fit.cp q hq) (by omega)⟩
     · rintro i σ H1 _ ⟨v16, ht, hw, rfl, l1, _⟩
       exact l1.at_
     · rintro i k v σ H1 hkv ⟨v16, ht, hw, rfl, l1, ot, nt, wt, ft, ow, nw, ww, fw⟩
       obtain ⟨d0, g1, g2⟩ := Tk.at tkr hkv
       obtain ⟨n, t0, hn, rfl, rfl⟩ := hK_at g1
       have hnm : n ∈ nms h := mem_nms (mem_at hn)
       have hi3 : i < 3 := by
         have := (List.getElem?_eq_some_iff.mp hkv).1
         omega
       obtain ⟨t1, e1⟩ := lk_mem_nms (show n ∈ nms hw by rw [nw]; exact hnm)
       obtain ⟨t2, e2⟩ := lk_mem_nms (show n ∈ nms ht by rw [nt]; exact hnm)
       obtain ⟨kw, qw, ew, y1, y2, y3, y4, yq, _, _, yback⟩ := ow.at e1
       have wt1 := ww.tab _ (lk_mem e1)
       have f1 : t1.length ≤ 12 + i := fw _ (lk_mem e1)
       walk_at "g"
       refine q_ixK (.inr n) (.inl y1) y2 ?_
       walk_at "g"
       refine q_setD (.inr "x7") y3 ?_ ?_
       · rw [y4.length]
         unfold tK
         rw [List.length_map]
         exact len_small (by omega)
       have ow' := yback (putK ew (.inr "x7") (.int 7)) (put t1 "x7" (.int 7)) (by
         rw [← put_tK wt1.1]
         exact y4.put (.int 7))
       have ot' := ot.keep (keeps_upd (p := qw) (o := .dK (putK ew (.inr "x7") (.int 7)))) (no_tup y3) fun b z e => z.2 (by rw [e]; exact yq)
       have l2 := l1.upd hrd (o := .dK (putK ew (.inr "x7") (.int 7))) (new _ yq)
       generalize upd H1 qw (.dK (putK ew (.inr "x7") (.int 7))) = H2' at ow' ot' l2
       obtain ⟨kt, qt, et, z1, z2, z3, z4, zq, _, _, zback⟩ := ot'.at e2
       have wt2 := wt.tab _ (lk_mem e2)
       have f2 : t2.length ≤ 12 + i := ft _ (lk_mem e2)
       walk_at "g"
       refine q_ixK (.inr n) (.inl z1) z2 ?_
       walk_at "g"
       refine q_setD (.inr "x7") z3 ?_ ?_
       · rw [z4.length]
         unfold tK
         rw [List.length_map]
         exact len_small (by omega)
       have ot2 := zback (putK et (.inr "x7") (.int 7)) (put t2 "x7" (.int 7)) (by
         rw [← put_tK wt2.1]
         exact z4.put (.int 7))
       have ow2 := ow'.keep (keeps_upd (p := qt) (o := .dK (putK et (.inr "x7") (.int 7)))) (no_tup z3) fun b z e => zq.2 (by rw [← e]; exact z)
       have l3 := l2.upd hrd (o := .dK (putK et (.inr "x7") (.int 7))) zq.1
       have p1 := len_put_le t1 "x7" (.int 7)
       have p2 := len_put_le t2 "x7" (.int 7)
       exact ⟨_, _, _, rfl, l3, ot2, (nms_put_of (mem_nms (lk_mem e2))).trans nt, wt.set (nd_put wt2.1 _ _) (immT_put wt2.2 _ rfl), ft.set (by omega) (by omega), ow2, (nms_put_of (mem_nms (lk_mem e1))).trans nw, ww.set (nd_put wt1.1 _ _) (immT_put wt1.2 _ rfl), fw.set (by omega) (by omega)⟩
     · rintro σ H1 ⟨v16, ht, hw, rfl, l1, _⟩
       refine hD'.nx _ _ l1.at_ ?_
       have so := l1.out lkd sdk
       generalize un H1 = Ho at so
       have sao := sa.trans so
       walk_at "g"
       refine q_reprN (o5.mono sao).T hG.vw (by decide) (by decide) ?_
       walk_at "g"
       refine q_reprL (tE sao) vE (hasDict_py _ nE) (Nat.le_trans szE (by decide)) (by decide) ?_
       refine q_addS len2 ?_
       rw [← hbef]
       walk_at "g"
       rw [decide_eq_true rfl]
       walk_at "g"
       refine q_listL (.inl (.inl (sao _ _ hl))) fun q5 hq5 => ?_
       have sp := same_new (o := .lst xs) hq5
       walk_at "g"
       refine ⟨_, r, q5, h, xs, es, rfl, (o5.mono (sao.trans sp)).T, sq_new, ts.mono (sao.trans sp), hG.wf, imm, ⟨4, hG.fit, by omega⟩, by omega, ?_⟩
       rw [ai]
       intro q6 Hr sr o6'
       walk_at "g"
       refine ⟨_, _, q6, st, cpH fi, rfl, o6'.T, (oia.mono ((so.trans sp).trans sr)).T, wi.cp, ent_sml all_i.cp, AscH.cp fi, fun q hq => Nat.le_trans (fti.cp q hq) (by omega), li, fun Hs ss => ?_⟩
       exact hq _

end
end K76
open PySem PySem.W PyProof.Rows
set_option maxRecDepth 100000 in
set_option maxHeartbeats 0 in
theorem PySem.Challenge.cw_trundleyard_k76_edits_and_inverses_holds : PySem.Challenge.rw_trundleyard_k76_edits_and_inverses.Holds := by
  w_on; o_law; k_head; (case hw => w_witness2)
  k_fill
  refine TU.top_walk (l := PySem.Challenge.rw_trundleyard_k76_edits_and_inverses) rfl rfl (fun w h Y => PySem.W.kIn_of Y) ?F
  case F =>
    intro w mg fa h KX G hmg base KB GB
    have z_len : mg "len" = none := PySem.W.mg_none_of KX G (by k_is)
    have z_abs : mg "abs" = none := PySem.W.mg_none_of KX G (by k_is)
    have z_repr : mg "repr" = none := PySem.W.mg_none_of KX G (by k_is)
    have z_isinstance : mg "isinstance" = none := PySem.W.mg_none_of KX G (by k_is)
    have z_sorted : mg "sorted" = none := PySem.W.mg_none_of KX G (by k_is)
    have z_all : mg "all" = none := PySem.W.mg_none_of KX G (by k_is)
    have z_any : mg "any" = none := PySem.W.mg_none_of KX G (by k_is)
    have z_sum : mg "sum" = none := PySem.W.mg_none_of KX G (by k_is)
    have z_max : mg "max" = none := PySem.W.mg_none_of KX G (by k_is)
    have z_min : mg "min" = none := PySem.W.mg_none_of KX G (by k_is)
    have z_range : mg "range" = none := PySem.W.mg_none_of KX G (by k_is)
    have z_enumerate : mg "enumerate" = none := PySem.W.mg_none_of KX G (by k_is)
    have z_zip : mg "zip" = none := PySem.W.mg_none_of KX G (by k_is)
    have z_reversed : mg "reversed" = none := PySem.W.mg_none_of KX G (by k_is)
    have z_int : mg "int" = none := PySem.W.mg_none_of KX G (by k_is)
    have z_bool : mg "bool" = none := PySem.W.mg_none_of KX G (by k_is)
    have z_str : mg "str" = none := PySem.W.mg_none_of KX G (by k_is)
    have z_list : mg "list" = none := PySem.W.mg_none_of KX G (by k_is)
    have z_dict : mg "dict" = none := PySem.W.mg_none_of KX G (by k_is)
    have z_tuple : mg "tuple" = none := PySem.W.mg_none_of KX G (by k_is)
    have z_set : mg "set" = none := PySem.W.mg_none_of KX G (by k_is)
    have B : TU.Bt mg := ⟨z_len, z_abs, z_repr, z_isinstance, z_sorted, z_all, z_any, z_sum, z_max, z_min, z_range, z_enumerate, z_zip, z_reversed, z_int, z_bool, z_str, z_list, z_dict, z_tuple, z_set⟩
    obtain ⟨C_Unknown, X_Unknown⟩ : ∃ C, TU.Xc PySem.Challenge.rw_trundleyard_k76_edits_and_inverses.prog w (L2.KOf KX) mg base "Unknown" ["what", "name"] C := by
      unfold L2.KOf
      refine' ⟨_, TU.xc_mk2 (qual := "Unknown.__init__") (st := K76.s_Unknown___init) KX G ?zxUnknownaC ?zxUnknownxL ?zxUnknownxb ?zxUnknownsa ?zxUnknownga ?zxUnknowngg ?zxUnknownn1 ?zxUnknownn2 ?zxUnknowna1 ?zxUnknownt1 ?zxUnknownl1 ?zxUnknownc1 ?zxUnknownk1 ?zxUnknownkC ?zxUnknowneC ?zxUnknowntC ?zxUnknownhC ?zxUnknowniC ?zxUnknownsC ⟨rfl, rfl, rfl, by decide +kernel, rfl, by decide +kernel, by decide +kernel⟩ rfl (by decide +kernel) (by decide +kernel) (by decide +kernel) (by decide +kernel) (.inl rfl) (.inl rfl) (.inl rfl) (fun _ _ _ _ _ _ us hl => match us, hl with | [_, _, _], _ => rfl)⟩
      (case zxUnknownaC => first | k_is | rfl | decide +kernel)
      (case zxUnknownxL => first | k_is | rfl | decide +kernel)
      (case zxUnknownxb => first | k_is | rfl | decide +kernel)
      (case zxUnknownsa => first | k_is | rfl | decide +kernel)
      (case zxUnknownga => first | k_is | rfl | decide +kernel)
      (case zxUnknowngg => first | k_is | rfl | decide +kernel)
      (case zxUnknownn1 => first | k_is | rfl | decide +kernel)
      (case zxUnknownn2 => first | k_is | rfl | decide +kernel)
      (case zxUnknowna1 => first | k_is | rfl | decide +kernel)
      (case zxUnknownt1 => first | k_is | rfl | decide +kernel)
      (case zxUnknownl1 => first | k_is | rfl | decide +kernel)
      (case zxUnknownc1 => first | k_is | rfl | decide +kernel)
      (case zxUnknownk1 => first | k_is | rfl | decide +kernel)
      (case zxUnknownkC => first | k_is | rfl | decide +kernel)
      (case zxUnknowneC => first | k_is | rfl | decide +kernel)
      (case zxUnknowntC => first | k_is | rfl | decide +kernel)
      (case zxUnknownhC => first | k_is | rfl | decide +kernel)
      (case zxUnknowniC => first | k_is | rfl | decide +kernel)
      (case zxUnknownsC => first | k_is | rfl | decide +kernel)
    have F_check_key : TU.TopF (L2.KOf KX) mg "check_key" K76.s_check_key ["house", "key"] := by
      unfold L2.KOf
      refine' TU.top_mk KX G ?zqcheck_keya ?zqcheck_keyl ?zqcheck_keyc ?zqcheck_keyk (fun _ _ _ _ _ _ us hl => match us, hl with | [_, _], _ => rfl)
      (case zqcheck_keya => k_is); (case zqcheck_keyl => k_is); (case zqcheck_keyc => k_is); (case zqcheck_keyk => k_is)
    have F_check_edit : TU.TopF (L2.KOf KX) mg "check_edit" K76.s_check_edit ["house", "edit"] := by
      unfold L2.KOf
      refine' TU.top_mk KX G ?zqcheck_edita ?zqcheck_editl ?zqcheck_editc ?zqcheck_editk (fun _ _ _ _ _ _ us hl => match us, hl with | [_, _], _ => rfl)
      (case zqcheck_edita => k_is); (case zqcheck_editl => k_is); (case zqcheck_editc => k_is); (case zqcheck_editk => k_is)
    have F_copy_house : TU.TopF (L2.KOf KX) mg "copy_house" K76.s_copy_house ["house"] := by
      unfold L2.KOf
      refine' TU.top_mk KX G ?zqcopy_housea ?zqcopy_housel ?zqcopy_housec ?zqcopy_housek (fun _ _ _ _ _ _ us hl => match us, hl with | [_], _ => rfl)
      (case zqcopy_housea => k_is); (case zqcopy_housel => k_is); (case zqcopy_housec => k_is); (case zqcopy_housek => k_is)
    have F_change_tables : TU.TopF (L2.KOf KX) mg "change_tables" K76.s_change_tables ["tables", "edit"] := by
      unfold L2.KOf
      refine' TU.top_mk KX G ?zqchange_tablesa ?zqchange_tablesl ?zqchange_tablesc ?zqchange_tablesk (fun _ _ _ _ _ _ us hl => match us, hl with | [_, _], _ => rfl)
      (case zqchange_tablesa => k_is); (case zqchange_tablesl => k_is); (case zqchange_tablesc => k_is); (case zqchange_tablesk => k_is)
    have F_apply_edits : TU.TopF (L2.KOf KX) mg "apply_edits" K76.s_apply_edits ["house", "edits"] := by
      unfold L2.KOf
      refine' TU.top_mk KX G ?zqapply_editsa ?zqapply_editsl ?zqapply_editsc ?zqapply_editsk (fun _ _ _ _ _ _ us hl => match us, hl with | [_, _], _ => rfl)
      (case zqapply_editsa => k_is); (case zqapply_editsl => k_is); (case zqapply_editsc => k_is); (case zqapply_editsk => k_is)
    have F_apply_edit : TU.TopF (L2.KOf KX) mg "apply_edit" K76.s_apply_edit ["house", "edit"] := by
      unfold L2.KOf
      refine' TU.top_mk KX G ?zqapply_edita ?zqapply_editl ?zqapply_editc ?zqapply_editk (fun _ _ _ _ _ _ us hl => match us, hl with | [_, _], _ => rfl)
      (case zqapply_edita => k_is); (case zqapply_editl => k_is); (case zqapply_editc => k_is); (case zqapply_editk => k_is)
    have F_inverse : TU.TopF (L2.KOf KX) mg "inverse" K76.s_inverse ["house", "edit"] := by
      unfold L2.KOf
      refine' TU.top_mk KX G ?zqinversea ?zqinversel ?zqinversec ?zqinversek (fun _ _ _ _ _ _ us hl => match us, hl with | [_, _], _ => rfl)
      (case zqinversea => k_is); (case zqinversel => k_is); (case zqinversec => k_is); (case zqinversek => k_is)
    have F_inverse_of : TU.TopF (L2.KOf KX) mg "inverse_of" K76.s_inverse_of ["house", "edits"] := by
      unfold L2.KOf
      refine' TU.top_mk KX G ?zqinverse_ofa ?zqinverse_ofl ?zqinverse_ofc ?zqinverse_ofk (fun _ _ _ _ _ _ us hl => match us, hl with | [_, _], _ => rfl)
      (case zqinverse_ofa => k_is); (case zqinverse_ofl => k_is); (case zqinverse_ofc => k_is); (case zqinverse_ofk => k_is)
    have F_entry_in : TU.TopF (L2.KOf KX) mg "entry_in" K76.s_entry_in ["house", "key", "name"] := by
      unfold L2.KOf
      refine' TU.top_mk KX G ?zqentry_ina ?zqentry_inl ?zqentry_inc ?zqentry_ink (fun _ _ _ _ _ _ us hl => match us, hl with | [_, _, _], _ => rfl)
      (case zqentry_ina => k_is); (case zqentry_inl => k_is); (case zqentry_inc => k_is); (case zqentry_ink => k_is)
    have F_law_jar : TU.TopF (L2.KOf KX) mg "_law_jar" K76.s_law_jar ["script"] := by
      unfold L2.KOf
      refine' TU.top_mk KX G ?zqlaw_jara ?zqlaw_jarl ?zqlaw_jarc ?zqlaw_jark (fun _ _ _ _ _ _ us hl => match us, hl with | [_], _ => rfl)
      (case zqlaw_jara => k_is); (case zqlaw_jarl => k_is); (case zqlaw_jarc => k_is); (case zqlaw_jark => k_is)
    have F_law_draw : TU.TopF (L2.KOf KX) mg "_law_draw" K76.s_law_draw ["jar", "at", "many"] := by
      unfold L2.KOf
      refine' TU.top_mk KX G ?zqlaw_drawa ?zqlaw_drawl ?zqlaw_drawc ?zqlaw_drawk (fun _ _ _ _ _ _ us hl => match us, hl with | [_, _, _], _ => rfl)
      (case zqlaw_drawa => k_is); (case zqlaw_drawl => k_is); (case zqlaw_drawc => k_is); (case zqlaw_drawk => k_is)
    have F_law_entry : TU.TopF (L2.KOf KX) mg "_law_entry" K76.s_law_entry ["jar", "at"] := by
      unfold L2.KOf
      refine' TU.top_mk KX G ?zqlaw_entrya ?zqlaw_entryl ?zqlaw_entryc ?zqlaw_entryk (fun _ _ _ _ _ _ us hl => match us, hl with | [_, _], _ => rfl)
      (case zqlaw_entrya => k_is); (case zqlaw_entryl => k_is); (case zqlaw_entryc => k_is); (case zqlaw_entryk => k_is)
    have F_law_copy : TU.TopF (L2.KOf KX) mg "_law_copy" K76.s_law_copy ["house"] := by
      unfold L2.KOf
      refine' TU.top_mk KX G ?zqlaw_copya ?zqlaw_copyl ?zqlaw_copyc ?zqlaw_copyk (fun _ _ _ _ _ _ us hl => match us, hl with | [_], _ => rfl)
      (case zqlaw_copya => k_is); (case zqlaw_copyl => k_is); (case zqlaw_copyc => k_is); (case zqlaw_copyk => k_is)
    have F_law_after : TU.TopF (L2.KOf KX) mg "_law_after" K76.s_law_after ["house", "edit"] := by
      unfold L2.KOf
      refine' TU.top_mk KX G ?zqlaw_aftera ?zqlaw_afterl ?zqlaw_afterc ?zqlaw_afterk (fun _ _ _ _ _ _ us hl => match us, hl with | [_, _], _ => rfl)
      (case zqlaw_aftera => k_is); (case zqlaw_afterl => k_is); (case zqlaw_afterc => k_is); (case zqlaw_afterk => k_is)
    have F_law_back : TU.TopF (L2.KOf KX) mg "_law_back" K76.s_law_back ["house", "edit"] := by
      unfold L2.KOf
      refine' TU.top_mk KX G ?zqlaw_backa ?zqlaw_backl ?zqlaw_backc ?zqlaw_backk (fun _ _ _ _ _ _ us hl => match us, hl with | [_, _], _ => rfl)
      (case zqlaw_backa => k_is); (case zqlaw_backl => k_is); (case zqlaw_backc => k_is); (case zqlaw_backk => k_is)
    have F_law_same : TU.TopF (L2.KOf KX) mg "_law_same" K76.s_law_same ["told", "house"] := by
      unfold L2.KOf
      refine' TU.top_mk KX G ?zqlaw_samea ?zqlaw_samel ?zqlaw_samec ?zqlaw_samek (fun _ _ _ _ _ _ us hl => match us, hl with | [_, _], _ => rfl)
      (case zqlaw_samea => k_is); (case zqlaw_samel => k_is); (case zqlaw_samec => k_is); (case zqlaw_samek => k_is)
    have F_law_house : TU.TopF (L2.KOf KX) mg "_law_house" K76.s_law_house ["jar", "at"] := by
      unfold L2.KOf
      refine' TU.top_mk KX G ?zqlaw_housea ?zqlaw_housel ?zqlaw_housec ?zqlaw_housek (fun _ _ _ _ _ _ us hl => match us, hl with | [_, _], _ => rfl)
      (case zqlaw_housea => k_is); (case zqlaw_housel => k_is); (case zqlaw_housec => k_is); (case zqlaw_housek => k_is)
    have F_law_edits : TU.TopF (L2.KOf KX) mg "_law_edits" K76.s_law_edits ["jar", "at", "house", "many"] := by
      unfold L2.KOf
      refine' TU.top_mk KX G ?zqlaw_editsa ?zqlaw_editsl ?zqlaw_editsc ?zqlaw_editsk (fun _ _ _ _ _ _ us hl => match us, hl with | [_, _, _, _], _ => rfl)
      (case zqlaw_editsa => k_is); (case zqlaw_editsl => k_is); (case zqlaw_editsc => k_is); (case zqlaw_editsk => k_is)
    have F_law_refusal : TU.TopF (L2.KOf KX) mg "_law_refusal" K76.s_law_refusal ["house", "edits", "how"] := by
      unfold L2.KOf
      refine' TU.top_mk KX G ?zqlaw_refusala ?zqlaw_refusall ?zqlaw_refusalc ?zqlaw_refusalk (fun _ _ _ _ _ _ us hl => match us, hl with | [_, _, _], _ => rfl)
      (case zqlaw_refusala => k_is); (case zqlaw_refusall => k_is); (case zqlaw_refusalc => k_is); (case zqlaw_refusalk => k_is)
    have F_law_refusals_right : TU.TopF (L2.KOf KX) mg "_law_refusals_right" K76.s_law_refusals_right ["house", "edits"] := by
      unfold L2.KOf
      refine' TU.top_mk KX G ?zqlaw_refusals_righta ?zqlaw_refusals_rightl ?zqlaw_refusals_rightc ?zqlaw_refusals_rightk (fun _ _ _ _ _ _ us hl => match us, hl with | [_, _], _ => rfl)
      (case zqlaw_refusals_righta => k_is); (case zqlaw_refusals_rightl => k_is); (case zqlaw_refusals_rightc => k_is); (case zqlaw_refusals_rightk => k_is)
    have F_law : TU.TopF (L2.KOf KX) mg "law" K76.s_law ["script"] := by
      unfold L2.KOf
      refine' TU.top_mk KX G ?zqlawa ?zqlawl ?zqlawc ?zqlawk (fun _ _ _ _ _ _ us hl => match us, hl with | [_], _ => rfl)
      (case zqlawa => k_is); (case zqlawl => k_is); (case zqlawc => k_is); (case zqlawk => k_is)
    have D_check_key := K76.d_check_key (P := PySem.Challenge.rw_trundleyard_k76_edits_and_inverses.prog) (w := w) (base := base) B F_check_key X_Unknown
    have D_check_edit := K76.d_check_edit (P := PySem.Challenge.rw_trundleyard_k76_edits_and_inverses.prog) (w := w) (base := base) B F_check_edit X_Unknown D_check_key
    have D_copy_house := K76.d_copy_house (P := PySem.Challenge.rw_trundleyard_k76_edits_and_inverses.prog) (w := w) (base := base) B F_copy_house 
    have D_change_tables := K76.d_change_tables (P := PySem.Challenge.rw_trundleyard_k76_edits_and_inverses.prog) (w := w) (base := base) B F_change_tables D_check_edit
    have D_apply_edits := K76.d_apply_edits (P := PySem.Challenge.rw_trundleyard_k76_edits_and_inverses.prog) (w := w) (base := base) B F_apply_edits D_copy_house D_change_tables
    have D_apply_edit := K76.d_apply_edit (P := PySem.Challenge.rw_trundleyard_k76_edits_and_inverses.prog) (w := w) (base := base) B F_apply_edit D_apply_edits
    have D_inverse := K76.d_inverse (P := PySem.Challenge.rw_trundleyard_k76_edits_and_inverses.prog) (w := w) (base := base) B F_inverse D_check_edit
    have D_inverse_of := K76.d_inverse_of (P := PySem.Challenge.rw_trundleyard_k76_edits_and_inverses.prog) (w := w) (base := base) B F_inverse_of D_change_tables D_inverse D_copy_house
    have D_entry_in := K76.d_entry_in (P := PySem.Challenge.rw_trundleyard_k76_edits_and_inverses.prog) (w := w) (base := base) B F_entry_in D_check_key
    have D_law_jar := K76.d_law_jar (P := PySem.Challenge.rw_trundleyard_k76_edits_and_inverses.prog) (w := w) (base := base) B F_law_jar 
    have D_law_draw := K76.d_law_draw (P := PySem.Challenge.rw_trundleyard_k76_edits_and_inverses.prog) (w := w) (base := base) B F_law_draw 
    have D_law_entry := K76.d_law_entry (P := PySem.Challenge.rw_trundleyard_k76_edits_and_inverses.prog) (w := w) (base := base) B F_law_entry D_law_draw
    have D_law_copy := K76.d_law_copy (P := PySem.Challenge.rw_trundleyard_k76_edits_and_inverses.prog) (w := w) (base := base) B F_law_copy 
    have D_law_after := K76.d_law_after (P := PySem.Challenge.rw_trundleyard_k76_edits_and_inverses.prog) (w := w) (base := base) B F_law_after D_law_copy
    have D_law_back := K76.d_law_back (P := PySem.Challenge.rw_trundleyard_k76_edits_and_inverses.prog) (w := w) (base := base) B F_law_back 
    have D_law_same := K76.d_law_same (P := PySem.Challenge.rw_trundleyard_k76_edits_and_inverses.prog) (w := w) (base := base) B F_law_same 
    have D_law_house := K76.d_law_house (P := PySem.Challenge.rw_trundleyard_k76_edits_and_inverses.prog) (w := w) (base := base) B F_law_house D_law_draw D_law_entry
    have D_law_edits := K76.d_law_edits (P := PySem.Challenge.rw_trundleyard_k76_edits_and_inverses.prog) (w := w) (base := base) B F_law_edits D_law_after D_law_draw D_law_entry D_law_copy
    have D_law_refusal := K76.d_law_refusal (P := PySem.Challenge.rw_trundleyard_k76_edits_and_inverses.prog) (w := w) (base := base) B F_law_refusal X_Unknown D_apply_edits D_inverse_of D_apply_edit D_inverse D_entry_in
    have D_law_refusals_right := K76.d_law_refusals_right (P := PySem.Challenge.rw_trundleyard_k76_edits_and_inverses.prog) (w := w) (base := base) B F_law_refusals_right D_law_refusal
    obtain ⟨fb, hb, ok⟩ := K76.d_law (P := PySem.Challenge.rw_trundleyard_k76_edits_and_inverses.prog) (w := w) (base := base) B F_law D_law_same D_apply_edits D_copy_house D_law_refusals_right D_law_copy D_inverse_of D_entry_in D_apply_edit D_law_after D_law_back D_inverse D_law_edits D_law_draw D_law_house D_law_jar
    have e := hmg.symm.trans hb
    cases e
    exact ok
#print axioms PySem.Challenge.cw_trundleyard_k76_edits_and_inverses_holds

