import PyProof.Rows.All
import Wide.All
import OpenK.AllK
import Wide.FinOn
import HandS.ForMost
import HandS.TupAny
import HandS.Zip
import HandS.IsInst
import HandS.Deep
import HandS.Conv
import HandS.SortOrd
import HandS.SortRule
import HandS.MakeKwOnly
import HandS.Walk
import HandS.TupLen
import HandS.StrMore
import HandS.DictTup
import KE.KDictWalk
import KE.KSortTupAny
import HandS.More
import KE.KxText
import PySem.Challenge.RW_oncecoin_k33_whole_counter
set_option Elab.async false
set_option maxRecDepth 100000
set_option maxHeartbeats 4000000
set_option linter.all false
set_option autoImplicit false
/-! K1: data and heaps -/
namespace K33
open PySem L2

/-! ### heaps: all but ls is kept, and all tuples -/
structure Bt (ls : List Addr) (H H' : Hp) : Prop where
  keep : ∀ a o, a ∉ ls → H a = some o → H' a = some o
  tup : ∀ a xs, H a = some (.tup xs) → H' a = some (.tup xs)
section
variable {ls ms : List Addr} {H H1 H2 H' : Hp} {a l p : Addr} {o o' : HO}
theorem Bt.refl : Bt ls H H := ⟨fun _ _ _ h => h, fun _ _ h => h⟩
theorem Bt.trans (x : Bt ls H H1) (y : Bt ls H1 H2) : Bt ls H H2 := ⟨fun a o n h => y.keep a o n (x.keep a o n h), fun a xs h => y.tup a xs (x.tup a xs h)⟩
theorem Bt.mono (x : Bt ls H H') (s : ∀ a, a ∈ ls → a ∈ ms) : Bt ms H H' := ⟨fun a o n h => x.keep a o (fun z => n (s a z)) h, x.tup⟩
theorem Bt.nil (x : Bt [] H H') : Bt ms H H' := x.mono fun _ z => nomatch z
theorem Bt.at (x : Bt [] H H') (h : H a = some o) : H' a = some o := x.keep a o (fun z => nomatch z) h
theorem Bt.at1 (x : Bt [l] H H') (n : a ≠ l) (h : H a = some o) : H' a = some o := x.keep a o (fun z => n (List.mem_singleton.mp z)) h
theorem Bt.new (h : H p = none) : Bt ls H (upd H p o) := ⟨fun a u _ e => by rw [upd_ne (ne_of_none e h)]; exact e, fun a xs e => by rw [upd_ne (ne_of_none e h)]; exact e⟩
def NoTup : HO → Prop
  | .tup _ => False
  | _ => True
theorem Bt.mut (h : H l = some o) (n : NoTup o) : Bt [l] H (upd H l o') := ⟨fun a u na e => by rw [upd_ne (fun z => na (by rw [z]; exact List.mem_singleton.mpr rfl))]; exact e,
  fun a xs e => by rw [upd_ne (fun z => by subst z; rw [h] at e; cases e; exact n)]; exact e⟩
theorem new_of (e : upd H p o = H') (h : H p = none) : Bt [] H H' ∧ H' p = some o := by
  subst e
  exact ⟨Bt.new h, upd_same⟩
theorem mut_of (e : upd H l o' = H') (h : H l = some o) (n : NoTup o) : Bt [l] H H' ∧ H' l = some o' := by
  subst e
  exact ⟨Bt.mut h n, upd_same⟩
theorem Bt.same (x : Bt [] H H') : Same H H' := fun _ _ h => x.at h
theorem Bt.of_same (x : Same H H') : Bt [] H H' := ⟨fun a o _ h => x a o h, fun a xs h => x a _ h⟩
theorem Bt.sqT {K : PySem.W.Frag} {xs : List V} (x : Bt [] H H') (h : SqT K H a xs) : SqT K H' a xs := by
  rcases h with (h | ⟨o, h⟩) | h
  · exact .inl (.inl (x.at h))
  · exact .inl (.inr ⟨o, x.at h⟩)
  · exact .inr h
theorem Bt.sqL {K : PySem.W.Frag} {xs : List V} (x : Bt [] H H') (h : SqL K H a xs) : SqL K H' a xs := x.same.seq h
end

/-! ### data: None, ints, texts, tuples of them; the heap holds d at v -/
mutual
inductive Td (H : Hp) : V → PyData → Prop
  | non : Td H .non .none
  | int (i : Int) : Td H (.int i) (.int i)
  | str (x : Str) : PyData.strOk x = true → Td H (.str x) (.str x)
  | tup {a : Addr} {xs : List V} {ds : List PyData} : H a = some (.tup xs) → TdA H xs ds → Td H (.ref a) (.tuple ds)
inductive TdA (H : Hp) : List V → List PyData → Prop
  | nil : TdA H [] []
  | cons {v : V} {vs : List V} {d : PyData} {ds : List PyData} : Td H v d → TdA H vs ds → TdA H (v :: vs) (d :: ds)
end
section
variable {ls : List Addr} {H H' : Hp}
mutual
theorem Td.tups (x : ∀ a xs, H a = some (.tup xs) → H' a = some (.tup xs)) : ∀ (d : PyData) (v : V), Td H v d → Td H' v d
  | .none, _, h => by
    cases h
    exact .non
  | .int i, _, h => by
    cases h
    exact .int i
  | .str z, _, h => by
    cases h with
    | str _ k => exact .str z k
  | .tuple ds, _, h => by
    cases h with
    | tup h1 h2 => exact .tup (x _ _ h1) (TdA.tups x ds _ h2)
  | .bool _, _, h => nomatch h
  | .list _, _, h => nomatch h
  | .dict _, _, h => nomatch h
theorem TdA.tups (x : ∀ a xs, H a = some (.tup xs) → H' a = some (.tup xs)) : ∀ (ds : List PyData) (vs : List V), TdA H vs ds → TdA H' vs ds
  | [], _, h => by
    cases h
    exact .nil
  | d :: ds, _, h => by
    cases h with
    | cons h1 h2 => exact .cons (Td.tups x d _ h1) (TdA.tups x ds _ h2)
end
theorem Td.bt {v : V} {d : PyData} (x : Bt ls H H') (h : Td H v d) : Td H' v d := Td.tups x.tup d v h
theorem TdA.bt {v : List V} {d : List PyData} (x : Bt ls H H') (h : TdA H v d) : TdA H' v d := TdA.tups x.tup d v h
variable {v w : V} {d e : PyData} {vs ws : List V} {ds es : List PyData} {i : Nat}
theorem Td.int_inv {n : Int} (h : Td H v (.int n)) : v = .int n := by
  cases h
  all_goals rfl
theorem Td.str_inv {n : Str} (h : Td H v (.str n)) : v = .str n := by
  cases h
  all_goals rfl
theorem Td.non_inv (h : Td H v .none) : v = .non := by
  cases h
  all_goals rfl
theorem Td.tup_inv (h : Td H v (.tuple ds)) : ∃ a xs, v = .ref a ∧ H a = some (.tup xs) ∧ TdA H xs ds := by
  cases h with
  | tup h1 h2 => exact ⟨_, _, rfl, h1, h2⟩
theorem TdA.len (h : TdA H vs ds) : vs.length = ds.length := by
  induction ds generalizing vs with
  | nil => cases h; rfl
  | cons d ds ih =>
    cases h with
    | cons h1 h2 => simp [ih h2]
theorem TdA.get (h : TdA H vs ds) (e : ds[i]? = some d) : ∃ v, vs[i]? = some v ∧ Td H v d := by
  induction ds generalizing vs i with
  | nil => simp at e
  | cons x ds ih =>
    cases h with
    | cons h1 h2 =>
      cases i with
      | zero =>
        simp at e
        subst e
        exact ⟨_, rfl, h1⟩
      | succ i =>
        obtain ⟨u, e1, e2⟩ := ih h2 (i := i) (by simpa using e)
        exact ⟨u, by simpa using e1, e2⟩
theorem TdA.get' (h : TdA H vs ds) (e : vs[i]? = some v) : ∃ d, ds[i]? = some d ∧ Td H v d := by
  induction ds generalizing vs i with
  | nil => cases h; simp at e
  | cons x ds ih =>
    cases h with
    | cons h1 h2 =>
      cases i with
      | zero =>
        simp at e
        subst e
        exact ⟨_, rfl, h1⟩
      | succ i =>
        obtain ⟨u, e1, e2⟩ := ih h2 (i := i) (by simpa using e)
        exact ⟨u, by simpa using e1, e2⟩
theorem TdA.app (h : TdA H vs ds) (k : TdA H ws es) : TdA H (vs ++ ws) (ds ++ es) := by
  induction ds generalizing vs with
  | nil => cases h; exact k
  | cons x ds ih =>
    cases h with
    | cons h1 h2 => exact .cons h1 (ih h2)
theorem TdA.one (h : Td H v d) : TdA H [v] [d] := .cons h .nil
theorem TdA.snoc (h : TdA H vs ds) (k : Td H v d) : TdA H (vs ++ [v]) (ds ++ [d]) := h.app (.one k)
theorem TdA.erase (h : TdA H vs ds) : TdA H (vs.eraseIdx i) (ds.eraseIdx i) := by
  induction ds generalizing vs i with
  | nil => cases h; simpa using TdA.nil
  | cons x ds ih =>
    cases h with
    | cons h1 h2 =>
      cases i with
      | zero => simpa using h2
      | succ i => simpa using TdA.cons h1 (ih h2 (i := i))
theorem TdA.nil_inv (h : TdA H vs []) : vs = [] := by
  cases h
  rfl
theorem TdA.cons_inv (h : TdA H vs (d :: ds)) : ∃ v ws, vs = v :: ws ∧ Td H v d ∧ TdA H ws ds := by
  cases h with
  | cons h1 h2 => exact ⟨_, _, rfl, h1, h2⟩

/-! ### as the layer's data -/
mutual
theorem Td.dp {K : PySem.W.Frag} : ∀ (d : PyData) (v : V), Td H v d → Dp K H v d
  | .none, _, h => by
    cases h
    exact .non
  | .int i, _, h => by
    cases h
    exact .int i
  | .str z, _, h => by
    cases h
    exact .str z
  | .tuple ds, _, h => by
    cases h with
    | tup h1 h2 => exact .tup (.inl (.inl h1)) (TdA.dp ds _ h2)
  | .bool _, _, h => nomatch h
  | .list _, _, h => nomatch h
  | .dict _, _, h => nomatch h
theorem TdA.dp {K : PySem.W.Frag} : ∀ (ds : List PyData) (vs : List V), TdA H vs ds → DpAll K H vs ds
  | [], _, h => by
    cases h
    exact .nil
  | d :: ds, _, h => by
    cases h with
    | cons h1 h2 => exact .cons (Td.dp d _ h1) (TdA.dp ds _ h2)
end
mutual
theorem Td.lay : ∀ (d : PyData) (v : V), Td H v d → d.canLay0 = true
  | .none, _, _ => by simp only [PyData.canLay0]
  | .int i, _, _ => by simp only [PyData.canLay0]
  | .str z, _, h => by
    cases h with
    | str _ k => simp only [PyData.canLay0]; exact k
  | .tuple ds, _, h => by
    cases h with
    | tup h1 h2 => simp only [PyData.canLay0]; exact TdA.lay ds _ h2
  | .bool _, _, h => nomatch h
  | .list _, _, h => nomatch h
  | .dict _, _, h => nomatch h
theorem TdA.lay : ∀ (ds : List PyData) (vs : List V), TdA H vs ds → PyData.canLayAll0 ds = true
  | [], _, _ => by simp only [PyData.canLayAll0]
  | d :: ds, _, h => by
    cases h with
    | cons h1 h2 => simp only [PyData.canLayAll0]; rw [Td.lay d _ h1, TdA.lay ds _ h2]; rfl
end
theorem Td.shaped (h : Td H v d) (hd : d.depth ≤ 64) : SeqAt.shaped d = true := by
  unfold SeqAt.shaped
  rw [h.lay, Bool.true_and]
  exact decide_eq_true hd
mutual
theorem eqv_td : ∀ (d e : PyData) (v w : V), Td H v d → Td H w e → (PyData.eqv d e = true ↔ d = e)
  | .none, e, _, _, _, k => by cases k <;> simp [PyData.eqv]
  | .int i, e, _, _, _, k => by cases k <;> simp [PyData.eqv]
  | .str z, e, _, _, _, k => by cases k <;> simp [PyData.eqv]
  | .tuple ds, e, _, _, h, k => by
    cases h with
    | tup h1 h2 =>
      cases k with
      | tup k1 k2 =>
        simp only [PyData.eqv, PyData.tuple.injEq]
        exact eqvA_td ds _ _ _ h2 k2
      | non => simp [PyData.eqv]
      | int => simp [PyData.eqv]
      | str => simp [PyData.eqv]
  | .bool _, _, _, _, h, _ => nomatch h
  | .list _, _, _, _, h, _ => nomatch h
  | .dict _, _, _, _, h, _ => nomatch h
theorem eqvA_td : ∀ (ds es : List PyData) (vs ws : List V), TdA H vs ds → TdA H ws es → (PyData.eqvAll ds es = true ↔ ds = es)
  | [], es, _, _, _, k => by cases k <;> simp [PyData.eqvAll]
  | d :: ds, es, _, _, h, k => by
    cases h with
    | cons h1 h2 =>
      cases k with
      | nil => simp [PyData.eqvAll]
      | cons k1 k2 =>
        simp only [PyData.eqvAll, Bool.and_eq_true, List.cons.injEq]
        rw [eqv_td d _ _ _ h1 k1, eqvA_td ds _ _ _ h2 k2]
end
/-- == of data is equality -/
theorem Td.eqv (h : Td H v d) (k : Td H w e) [Decidable (d = e)] : PyData.eqv d e = decide (d = e) := by
  have q := eqv_td d e v w h k
  by_cases z : d = e
  · rw [decide_eq_true z]
    exact q.mpr z
  · rw [decide_eq_false z]
    cases r : PyData.eqv d e with
    | false => rfl
    | true => exact absurd (q.mp r) z
theorem Td.uniq (h : Td H v d) : ∀ {e : PyData}, Td H v e → d = e := by
  intro e k
  have := Td.rec (H := H) (motive_1 := fun v d _ => ∀ e, Td H v e → d = e) (motive_2 := fun vs ds _ => ∀ es, TdA H vs es → ds = es)
    (fun e k => by cases k; rfl) (fun i e k => by cases k; rfl) (fun x _ e k => by cases k; rfl)
    (fun {a xs ds} h1 _ ih e k => by
      cases k with
      | tup k1 k2 =>
        rw [h1] at k1
        cases k1
        rw [ih _ k2])
    (fun es k => by cases k; rfl)
    (fun {v vs d ds} _ _ ih1 ih2 es k => by
      cases k with
      | cons k1 k2 => rw [ih1 _ k1, ih2 _ k2]) h
  exact this e k
end

noncomputable instance : DecidableEq PyData := fun a b => Classical.propDecidable (a = b)

/-! ### keys -/
def keyD : Key → PyData
  | .inl i => .int i
  | .inr x => .str x
def kD (k : List Key) : PyData := .tuple (k.map keyD)
def kOk (k : List Key) : Prop := ∀ x, Sum.inr x ∈ k → PyData.strOk x = true
section
variable {H H' : Hp} {a b : Addr} {k k' : List Key} {v : V}
theorem keyD_inj : ∀ {a b : Key}, keyD a = keyD b → a = b
  | .inl _, .inl _, h => by simp [keyD] at h; rw [h]
  | .inr _, .inr _, h => by simp [keyD] at h; rw [h]
  | .inl _, .inr _, h => by simp [keyD] at h
  | .inr _, .inl _, h => by simp [keyD] at h
theorem keyDs_inj : ∀ {k k' : List Key}, k.map keyD = k'.map keyD → k = k'
  | [], [], _ => rfl
  | [], _ :: _, h => by simp at h
  | _ :: _, [], h => by simp at h
  | x :: k, y :: k', h => by
    simp only [List.map_cons, List.cons.injEq] at h
    rw [keyD_inj h.1, keyDs_inj h.2]
theorem kD_inj (h : kD k = kD k') : k = k' := keyDs_inj (PyData.tuple.inj h)
theorem td_keys : ∀ {k : List Key}, kOk k → TdA H (k.map kV) (k.map keyD)
  | [], _ => .nil
  | .inl i :: k, h => .cons (.int i) (td_keys fun x m => h x (List.mem_cons_of_mem _ m))
  | .inr x :: k, h => .cons (.str x (h x List.mem_cons_self)) (td_keys fun y m => h y (List.mem_cons_of_mem _ m))
theorem td_key (h : H a = some (.tup (k.map kV))) (o : kOk k) : Td H (.ref a) (kD k) := .tup h (td_keys o)
theorem key_tdA : ∀ {k : List Key} {vs : List V}, TdA H vs (k.map keyD) → vs = k.map kV ∧ kOk k
  | [], _, h => by
    rw [List.map_nil] at h
    cases h
    exact ⟨rfl, fun x m => nomatch m⟩
  | .inl i :: k, _, h => by
    rw [List.map_cons] at h
    obtain ⟨v, ws, rfl, h1, h2⟩ := h.cons_inv
    obtain ⟨e, o⟩ := key_tdA h2
    cases (Td.int_inv h1)
    exact ⟨by rw [e]; rfl, fun x m => o x (by simpa using m)⟩
  | .inr x :: k, _, h => by
    rw [List.map_cons] at h
    obtain ⟨v, ws, rfl, h1, h2⟩ := h.cons_inv
    obtain ⟨e, o⟩ := key_tdA h2
    cases (Td.str_inv h1)
    refine ⟨by rw [e]; rfl, fun y m => ?_⟩
    rcases List.mem_cons.mp m with q | q
    · cases q
      cases h1 with
      | str _ z => exact z
    · exact o y q
theorem key_td (h : Td H v (kD k)) : ∃ b, v = .ref b ∧ H b = some (.tup (k.map kV)) ∧ kOk k := by
  obtain ⟨a, xs, rfl, h1, h2⟩ := Td.tup_inv h
  obtain ⟨e, o⟩ := key_tdA h2
  exact ⟨a, rfl, by rw [h1, e], o⟩
end

/-! ### dicts whose keys are tuples: the pairs as data -/
abbrev Vs := List (List Key × PyData)
def gt (vals : Vs) (k : List Key) : Option PyData := (vals.find? fun p => decide (p.1 = k)).map (·.2)
def pt (vals : Vs) (k : List Key) (d : PyData) : Vs := if (vals.any fun p => decide (p.1 = k)) = true then vals.map (fun p => if p.1 = k then (p.1, d) else p) else vals ++ [(k, d)]
def dl (vals : Vs) (k : List Key) : Vs := vals.filter fun p => decide (p.1 ≠ k)
def KvOk (H : Hp) : List (List Key × V) → Vs → Prop := Paired fun p q => p.1 = q.1 ∧ Td H p.2 q.2
def DictAt (H : Hp) (d : Addr) (vals : Vs) : Prop := ∃ kvs, H d = some (.dT kvs) ∧ KvOk H kvs vals
section
variable {ls : List Addr} {H H' : Hp} {d : Addr} {kvs : List (List Key × V)} {vals : Vs} {k : List Key} {v : V} {x : PyData}
theorem KvOk.bt (b : Bt ls H H') (h : KvOk H kvs vals) : KvOk H' kvs vals := Paired.mapP h fun _ _ z => ⟨z.1, z.2.bt b⟩
theorem DictAt.bt (b : Bt ls H H') (n : d ∉ ls) (h : DictAt H d vals) : DictAt H' d vals := by
  obtain ⟨kvs, h1, h2⟩ := h
  exact ⟨kvs, b.keep _ _ n h1, h2.bt b⟩
theorem KvOk.len (h : KvOk H kvs vals) : kvs.length = vals.length := Paired.length h
theorem KvOk.keys : ∀ {kvs : List (List Key × V)} {vals : Vs}, KvOk H kvs vals → kvs.map (·.1) = vals.map (·.1)
  | _, _, .nil => rfl
  | _, _, .cons r t => by
    rw [List.map_cons, List.map_cons, r.1, KvOk.keys t]
theorem KvOk.val : ∀ {kvs : List (List Key × V)} {vals : Vs}, KvOk H kvs vals → (valV kvs k = none ∧ gt vals k = none) ∨ ∃ v x, valV kvs k = some v ∧ gt vals k = some x ∧ Td H v x
  | _, _, .nil => .inl ⟨rfl, rfl⟩
  | p :: _, q :: _, .cons r t => by
    unfold valV gt
    rw [List.find?_cons, List.find?_cons]
    by_cases e : q.1 = k
    · have e' : p.1 = k := r.1.trans e
      rw [decide_eq_true e, decide_eq_true e']
      exact .inr ⟨p.2, q.2, rfl, rfl, r.2⟩
    · have e' : ¬ p.1 = k := fun z => e (r.1.symm.trans z)
      rw [decide_eq_false e, decide_eq_false e']
      exact KvOk.val t
theorem KvOk.any : ∀ {kvs : List (List Key × V)} {vals : Vs}, KvOk H kvs vals → (kvs.any fun p => decide (p.1 = k)) = (vals.any fun p => decide (p.1 = k))
  | _, _, .nil => rfl
  | _, _, .cons r t => by rw [List.any_cons, List.any_cons, r.1, KvOk.any t]
theorem KvOk.map : ∀ {kvs : List (List Key × V)} {vals : Vs}, KvOk H kvs vals → Td H v x → KvOk H (kvs.map fun p => if p.1 = k then (p.1, v) else p) (vals.map fun p => if p.1 = k then (p.1, x) else p)
  | _, _, .nil, _ => .nil
  | p :: _, q :: _, .cons r t, h => by
    rw [List.map_cons, List.map_cons]
    refine .cons ?_ (KvOk.map t h)
    rw [r.1]
    by_cases e : q.1 = k
    · rw [if_pos e, if_pos e]
      exact ⟨rfl, h⟩
    · rw [if_neg e, if_neg e]
      exact r
theorem KvOk.app : ∀ {kvs : List (List Key × V)} {vals : Vs}, KvOk H kvs vals → Td H v x → KvOk H (kvs ++ [(k, v)]) (vals ++ [(k, x)])
  | _, _, .nil, h => .cons ⟨rfl, h⟩ .nil
  | _, _, .cons r t, h => .cons r (KvOk.app t h)
theorem KvOk.put (h : KvOk H kvs vals) (q : Td H v x) : KvOk H (putK kvs k v) (pt vals k x) := by
  unfold putK pt
  rw [h.any (k := k)]
  split
  · exact h.map q
  · exact h.app q
theorem KvOk.drop (k : List Key) : ∀ {kvs : List (List Key × V)} {vals : Vs}, KvOk H kvs vals → KvOk H (dropK kvs k) (dl vals k)
  | _, _, .nil => .nil
  | p :: kvs, q :: vals, .cons r t => by
    have ih := KvOk.drop k t
    unfold dropK dl at ih ⊢
    by_cases e : q.1 = k
    · have e' : p.1 = k := r.1.trans e
      rw [List.filter_cons_of_neg (by simp [e, e']), List.filter_cons_of_neg (by simp [e, e'])]
      exact ih
    · have e' : ¬ p.1 = k := fun z => e (r.1.symm.trans z)
      rw [List.filter_cons_of_pos (by simp [e, e']), List.filter_cons_of_pos (by simp [e, e'])]
      exact .cons r ih
theorem gt_nil : gt [] k = none := rfl
theorem gt_pt (vals : Vs) (k j : List Key) (x : PyData) : gt (pt vals k x) j = if j = k then some x else gt vals j := by
  have h1 : ∀ vals : Vs, gt (vals.map fun p => if p.1 = k then (p.1, x) else p) j = if j = k then (if (vals.any fun p => decide (p.1 = k)) = true then some x else none) else gt vals j := by
    intro vals
    induction vals with
    | nil => simp [gt]
    | cons p r ih =>
      unfold gt at ih ⊢
      rw [List.map_cons, List.find?_cons, List.any_cons, List.find?_cons]
      by_cases e : p.1 = k
      · rw [if_pos e]
        by_cases ej : j = k
        · subst ej; simp [e]
        · have : ¬ p.1 = j := fun z => ej (z.symm.trans e)
          simp only [this, decide_false, if_neg ej] at ih ⊢
          exact ih
      · rw [if_neg e]
        by_cases ej : p.1 = j
        · have : ¬ j = k := fun z => e (ej.trans z)
          simp [ej, this]
        · simp only [ej, e, decide_false, Bool.false_or] at ih ⊢
          exact ih
  have h2 : ∀ vals : Vs, (vals.any fun p => decide (p.1 = k)) = false → gt (vals ++ [(k, x)]) j = if j = k then some x else gt vals j := by
    intro vals
    induction vals with
    | nil =>
      intro _
      unfold gt
      by_cases ej : j = k
      · subst ej; simp
      · have : ¬ k = j := fun z => ej z.symm
        simp [ej, this]
    | cons p r ih =>
      intro hn
      rw [List.any_cons, Bool.or_eq_false_iff] at hn
      have ih := ih hn.2
      unfold gt at ih ⊢
      rw [List.cons_append, List.find?_cons, List.find?_cons]
      by_cases ej : p.1 = j
      · have : ¬ j = k := fun z => by
          have := hn.1
          rw [decide_eq_false_iff_not] at this
          exact this (ej.trans z)
        simp [ej, this]
      · simp only [ej, decide_false] at ih ⊢
        exact ih
  unfold pt
  split
  · rename_i h
    rw [h1, h, if_pos rfl]
  · rename_i h
    exact h2 vals ((Bool.not_eq_true _).mp h)
theorem any_mem : ((vals.any fun p => decide (p.1 = k)) = true) ↔ k ∈ vals.map (·.1) := by
  rw [List.any_eq_true, List.mem_map]
  constructor
  · rintro ⟨p, h1, h2⟩
    exact ⟨p, h1, of_decide_eq_true h2⟩
  · rintro ⟨p, h1, h2⟩
    exact ⟨p, h1, decide_eq_true h2⟩
theorem pt_keys_in (x : PyData) (h : k ∈ vals.map (·.1)) : (pt vals k x).map (·.1) = vals.map (·.1) := by
  unfold pt
  rw [if_pos (any_mem.mpr h), List.map_map]
  refine List.map_congr_left fun p _ => ?_
  show (if p.1 = k then (p.1, x) else p).1 = p.1
  split <;> rfl
theorem pt_keys_new (x : PyData) (h : k ∉ vals.map (·.1)) : (pt vals k x).map (·.1) = vals.map (·.1) ++ [k] := by
  unfold pt
  rw [if_neg (fun z => h (any_mem.mp z)), List.map_append]
  rfl
theorem pt_nodup (h : (vals.map (·.1)).Nodup) : ((pt vals k x).map (·.1)).Nodup := by
  by_cases hk : k ∈ vals.map (·.1)
  · rw [pt_keys_in x hk]
    exact h
  · rw [pt_keys_new x hk]
    exact nd_snoc h hk
theorem pt_mem {j : List Key} (h : j ∈ (pt vals k x).map (·.1)) : j = k ∨ j ∈ vals.map (·.1) := by
  by_cases hk : k ∈ vals.map (·.1)
  · rw [pt_keys_in x hk] at h
    exact .inr h
  · rw [pt_keys_new x hk, List.mem_append, List.mem_singleton] at h
    exact h.symm
theorem gt_isSome : (gt vals k).isSome = true ↔ k ∈ vals.map (·.1) := by
  unfold gt
  rw [Option.isSome_map, List.find?_isSome, List.mem_map]
  constructor
  · rintro ⟨p, h1, h2⟩
    exact ⟨p, h1, of_decide_eq_true h2⟩
  · rintro ⟨p, h1, h2⟩
    exact ⟨p, h1, decide_eq_true h2⟩
theorem gt_none : gt vals k = none ↔ k ∉ vals.map (·.1) := by
  rw [← gt_isSome]
  cases gt vals k <;> simp
theorem gt_mem (nd : (vals.map (·.1)).Nodup) (h : (k, x) ∈ vals) : gt vals k = some x := by
  induction vals with
  | nil => simp at h
  | cons p r ih =>
    rw [List.map_cons, List.nodup_cons] at nd
    unfold gt
    rw [List.find?_cons]
    rcases List.mem_cons.mp h with e | m
    · subst e
      simp
    · have : ¬ p.1 = k := fun z => nd.1 (by rw [z]; exact List.mem_map.mpr ⟨(k, x), m, rfl⟩)
      simp only [this, decide_false]
      exact ih nd.2 m
theorem mem_of_gt (h : gt vals k = some x) : (k, x) ∈ vals := by
  unfold gt at h
  rw [Option.map_eq_some_iff] at h
  obtain ⟨p, h1, rfl⟩ := h
  have e := List.find?_some h1
  have m := List.mem_of_find?_eq_some h1
  have e' : p.1 = k := of_decide_eq_true e
  rw [← e']
  exact m
/-- read a dict at a key: there, or not -/
theorem DictAt.get {b : Addr} (h : DictAt H d vals) (hb : H b = some (.tup (k.map kV))) : ∃ o, DGet H d (.ref b) o ∧ ((o = none ∧ gt vals k = none) ∨ ∃ v x, o = some v ∧ gt vals k = some x ∧ Td H v x) := by
  obtain ⟨kvs, h1, h2⟩ := h
  exact ⟨_, DGet.t h1 hb, h2.val⟩
end
end K33

/-! K2: rules of the layer that were lacking: the values of a dict with tuple keys, del of such, sorted of tuples of ints and texts, sorted of such a dict -/
namespace K33
open PySem PySem.Spec PyProof.Rows L2

/-! ### for v in d.values(), d with tuple keys, locked -/
section
variable {X : Cx} {pins : List (Addr × Obj)} {σ : L2.St} {H : Hp} {s : Shared} {d : Addr} {o : Obj}
theorem frzTV {kvs : List (List Key × V)} (I : Inv X pins σ H s) (h : H d = some (.frz o (.dT kvs))) :
    (d == sysModules) = false ∧ s.heap.get? d = some o ∧ o.ExactDict ∧ ∃ (es : Array DictEntry) (ep : Nat), o.data = .dict es ep ∧ es.size = kvs.length ∧
      ∀ (i : Nat) (k : List Key) (v : V), kvs[i]? = some (k, v) → ∃ en : DictEntry, es[i]? = some en ∧ RelV v en.val := by
  obtain ⟨hd, z, hs, xs, pr, o', es, ep, ho, hx, hdt, he, _⟩ := I.hok d _ h
  rw [hd] at ho
  cases ho
  refine ⟨hs, hd, hx, es, ep, hdt, ?_, fun i k v e => ?_⟩
  · have l1 : es.size = xs.length := size_of_entries he
    have l2 : kvs.length = xs.length := Paired.length pr
    omega
  · obtain ⟨b, hb, e1, e2, r⟩ := paired_get pr e
    have q := entry_at he i
    rw [hb] at q
    exact ⟨_, q, r⟩
end
def Itdt (d : Addr) (o : Obj) (kvs : List (List Key × V)) : It :=
  ⟨fun i H => H d = some (.frz o (.dT kvs)) ∧ i < kvs.length, fun i H x H' => H' = H ∧ ∃ k : List Key, kvs[i]? = some (k, x), fun i H => H d = some (.frz o (.dT kvs)) ∧ i = kvs.length⟩
theorem turn_valsT {P : Program} {w : World} {K : PySem.W.Frag} {tg : Expr} {d : Addr} {o : Obj} {es : Array DictEntry} {ep : Nat} {kvs : List (List Key × V)} (it : Addr) (hod : o.data = .dict es ep) :
    Turn P w K tg (Itdt d o kvs) [it] it (fun i h => h.IsValIter it d i es.size ep) where
  mem := by simp
  obj := fun i h st b hb => by
    have e : b = it := by simpa using hb
    subst e
    obtain ⟨oi, e, c, dd⟩ := st
    exact ⟨oi, e, fun v z => by rw [dd] at z; cases z⟩
  keep := fun i h h' st k => st.at fun oi e => k it (by simp) oi e
  item := by
    intro X hP hw hK hc i pins s σ H E I hf st hg
    subst hP hw hK
    obtain ⟨hd, hi⟩ := hg
    obtain ⟨f0, f1, f2, f3, f4, f5⟩ := hf it (by simp)
    obtain ⟨hs, hgd, hx, es', ep', hdt, hsz, ent⟩ := frzTV I hd
    obtain ⟨rfl, rfl⟩ := dict_ep hod hdt
    obtain ⟨⟨k, v⟩, hkv⟩ : ∃ p, kvs[i]? = some p := ⟨kvs[i], List.getElem?_eq_getElem hi⟩
    obtain ⟨en, hen, rv⟩ := ent i k v hkv
    have hlt : i < es'.size := by omega
    refine wpAny_pyNext_values_item_raw st ⟨o, hgd, hx, hdt⟩ hlt fun h' st' sb => ?_
    have I1 : Inv X pins σ H { s with heap := h' } := I.turned (t' := s.toks) (fun b ob hb e => (sb.2 b hb).trans e) f0 f1 f3 f4 f5
    obtain ⟨oi, e, c, dd⟩ := id st'
    have ev : es'[i] = en := by
      rw [Array.getElem?_eq_getElem hlt] at hen
      exact Option.some.inj hen
    rw [ev]
    exact ⟨en.val, rfl, go_of (s := { s with heap := h' }) e c dd (by decide) ⟨v, H, I1, rv, ⟨rfl, k, hkv⟩, st', fun b hb => (hf b hb).1⟩⟩
  done := by
    intro X hP hw hK hc i pins s σ H E I hf st hg
    subst hP hw hK
    obtain ⟨hd, hi⟩ := hg
    obtain ⟨f0, f1, f2, f3, f4, f5⟩ := hf it (by simp)
    obtain ⟨hs, hgd, hx, es', ep', hdt, hsz, ent⟩ := frzTV I hd
    obtain ⟨rfl, rfl⟩ := dict_ep hod hdt
    exact wpAny_pyNext_values_end_raw (I.ok.hd hc) st ⟨o, hgd, hx, hdt⟩ (by omega) fun h' eb => ⟨rfl, I.turned (t' := s.toks) (fun b ob hb e => eb b ob hb e) f0 f1 f3 f4 f5⟩
  self := fun A i s Q E st h => wpAny_pyIter_valiter st h
def iValsT (td : TE) : TI := fun σ H R => td σ H fun x H1 => ∃ d o kvs, x = .ref d ∧ H1 d = some (.frz o (.dT kvs)) ∧ R (Itdt d o kvs) H1
theorem walk_valuesT {d : Addr} {o : Obj} {kvs : List (List Key × V)} : Walk (Itdt d o kvs) kvs.length (fun H => H d = some (.frz o (.dT kvs))) (fun i H x H' => H' = H ∧ ∃ k, kvs[i]? = some (k, x)) :=
  ⟨fun _ _ hi q => ⟨q, hi⟩, fun _ q => ⟨q, rfl⟩, fun _ _ _ _ _ _ y => y⟩
section
variable {X : Cx} {tg e : Expr} {td : TE} {apos cpos : Pos}
theorem pi_valuesT (he : PE X e td) (hbase : attributeBase e "values" X.env (eval e X.env) = eval e X.env := by rfl) (hline : (apos.endLine == cpos.line) = true := by rfl) : PI X tg (.Call (.Attribute e "values" apos) [] [] cpos) (iValsT td) := by
  refine ⟨fun pins s σ H R I h => ?_⟩
  refine wpAny_Call_method (T := "dict") (id := "dict.values") hbase rfl hline F.plainAttrs_dict F.slot_dict_values F.type_dict_values (thn (he.run pins s σ H _ I h) fun u s1 ⟨x, H1, I1, rx, d, o, kvs, ex, hd, q⟩ => ?_)
  subst ex
  obtain rfl : u = Value.ref d := rx
  obtain ⟨hs, hgd, hx, es, ep, hdt, hsz, ent⟩ := frzTV I1 hd
  have hm : s1.heap.DictRaw d es ep := ⟨o, hgd, hx, hdt⟩
  refine ⟨hm.typeIs, ?_, ?_⟩
  · intro a e
    cases e
    exact ⟨o, hgd, hx.2.1⟩
  have I2 : Inv X pins σ H1 { s1 with heap := s1.heap.push { cls := .type "dict_values", data := .fields #[.ref d] } } := I1.kept (t' := s1.toks) fun b ob q => Heap.get?_push_of_some _ q
  have fin : wpAny (model X.prog X.w) X.A (pyIter (.ref s1.heap.objs.size)) (PIE X pins σ tg R) X.xe { s1 with heap := s1.heap.push { cls := .type "dict_values", data := .fields #[.ref d] } } := by
    refine wpAny_pyIter_values_raw (d := d) ⟨_, Heap.get?_push_size _ rfl, rfl, rfl⟩ (hm.at fun o e => Heap.get?_push_of_some _ e) (pi_one (tk := s1.toks) I2 _ (turn_valsT _ hdt) ⟨_, Heap.get?_push_size _ rfl, rfl, ?_⟩ q)
    rfl
  show wpAny _ _ (callWith cpos (.builtin "dict.values") [.ref d] [] []) _ X.xe s1
  exact method_meetsIn F.slot_dict_values F.entry_dict_values rfl (PySem.evalArgs_none ⟨rfl, hm.typeIs, F.args_dict_values_1 _, _, meets_dict_values_raw d hs, ⟨_, _, hm⟩, fin⟩)
end

/-! ### del d[k], d with tuple keys -/
def sDDelT (td ty : TE) : TS := fun D σ H => td σ H fun x H1 => ty σ H1 fun y H2 => ∃ a b kvs k, x = .ref a ∧ y = .ref b ∧ H2 a = some (.dT kvs) ∧ H2 b = some (.tup (k.map kV)) ∧ (valV kvs k).isSome = true ∧ D.nx σ (upd H2 a (.dT (dropK kvs k)))
section
variable {X : Cx} {o i : Expr} {pos tpos : Pos} {td ty : TE}
theorem d_delItemT {pins : List (Addr × Obj)} {σ : L2.St} {H : Hp} {s : Shared} {a b : Addr} {kvs : List (List Key × V)} {k : List Key} {E : Value → Shared → Prop} {Q : Unit → Shared → Prop} (hu : X.A.units + 1 < cLine) (I : Inv X pins σ H s) (ha : H a = some (.dT kvs)) (hb : H b = some (.tup (k.map kV)))
    (l : (valV kvs k).isSome = true) (h : ∀ s', Inv X pins σ (upd H a (.dT (dropK kvs k))) s' → Q () s') : wpAny (model X.prog X.w) X.A (delItem (.ref a) (.ref b)) Q E s := by
  obtain ⟨z, hd, xs', rel, dd⟩ := dt_of I.hok ha
  have hz : xs'.length ≤ sizeLine := by rw [← Paired.length rel]; exact z
  have r := rel.val k
  obtain ⟨v0, ev⟩ := Option.isSome_iff_exists.mp l
  rw [ev] at r
  obtain ⟨p, hp⟩ : ∃ p, atKey xs' k = some p := by
    cases e : atKey xs' k with
    | none =>
      rw [e] at r
      exact (show False from r).elim
    | some p => exact ⟨p, rfl⟩
  refine wpAny_delItem_heap (hsz := hz) (tupleKind_room_in1 hu) (key_of I.hok hb) hd dd hp fun h' dd' hs => ?_
  obtain ⟨o, es, ep, hq, h2, h3, h4, _, h5⟩ := dd'
  exact h _ (d_write I (by rw [ha]; exact True.intro) hs ⟨o, hq⟩ ⟨Nat.le_trans (dropK_le kvs k) z, hd, _, (L2.DX.KT_drop k rel).keeps (fun c ys ec => (by rw [upd_ne (ne_of ec ha (fun z => nomatch z))]; exact ec)), o, es, ep, hq, h2, h3, h4, h5⟩)
theorem ps_ddelT (hu : X.A.units + 1 < cLine) (ho : PE X o td) (hi : PE X i ty) : PS X (.Delete [.Subscript o i tpos] pos) (sDDelT td ty) := by
  refine ⟨fun pins s σ H D I h => ?_⟩
  refine wpAny_Delete (wpAny_deleteEach_cons (wpAny_delete_Subscript (thn (ho.run pins s σ H _ I h) fun u s1 ⟨x, H1, I1, rx, q1⟩ => thn (hi.run pins s1 σ H1 _ I1 q1) fun iv s2 ⟨y, H2, I2, ry, a, b, kvs, k, ex, ey, e, eb, l, q2⟩ => ?_)))
  subst ex ey
  obtain rfl : u = Value.ref a := rx
  obtain rfl : iv = Value.ref b := ry
  exact d_delItemT hu I2 e eb l fun s3 I3 => wpAny_deleteEach_nil ⟨σ, _, I3, q2⟩
end

/-! ### the order of tuples of ints and texts -/
structure Sto {α : Type} (lt : α → α → Bool) : Prop where
  irr : ∀ x, lt x x = false
  tri : ∀ x y, lt x y = false → lt y x = false → x = y
  trans : ∀ x y z, lt x y = true → lt y z = true → lt x z = true
section
variable {α : Type} {lt : α → α → Bool}
theorem Sto.asym (S : Sto lt) (x y : α) (h : lt x y = true) : lt y x = false := by
  cases e : lt y x with
  | false => rfl
  | true =>
    have := S.trans _ _ _ h e
    rw [S.irr] at this
    cases this
theorem Sto.swo (S : Sto lt) : SrtO.Swo lt := by
  refine ⟨S.asym, fun x y z h1 h2 => ?_⟩
  cases e : lt z x with
  | false => rfl
  | true =>
    exfalso
    cases e1 : lt x y with
    | true =>
      have q := S.trans _ _ _ e e1
      rw [h2] at q
      cases q
    | false =>
      have := S.tri _ _ e1 h1
      subst this
      rw [h2] at e
      cases e
def lexA [DecidableEq α] (lt : α → α → Bool) : List α → List α → Bool
  | [], [] => false
  | [], _ :: _ => true
  | _ :: _, [] => false
  | x :: xs, y :: ys => if x = y then lexA lt xs ys else lt x y
variable [DecidableEq α]
theorem lexA_cons (lt : α → α → Bool) (x y : α) (xs ys : List α) : lexA lt (x :: xs) (y :: ys) = if x = y then lexA lt xs ys else lt x y := by rw [lexA]
theorem lexA_irr (S : Sto lt) : ∀ x : List α, lexA lt x x = false
  | [] => by rw [lexA]
  | x :: xs => by rw [lexA_cons, if_pos rfl]; exact lexA_irr S xs
theorem lexA_tri (S : Sto lt) : ∀ x y : List α, lexA lt x y = false → lexA lt y x = false → x = y
  | [], [], _, _ => rfl
  | [], _ :: _, h, _ => by rw [lexA] at h; cases h
  | _ :: _, [], _, h => by rw [lexA] at h; cases h
  | x :: xs, y :: ys, h1, h2 => by
    rw [lexA_cons] at h1 h2
    by_cases e : x = y
    · rw [if_pos e] at h1
      rw [if_pos e.symm] at h2
      rw [e, lexA_tri S xs ys h1 h2]
    · rw [if_neg e] at h1
      rw [if_neg (fun z => e z.symm)] at h2
      exact absurd (S.tri _ _ h1 h2) e
theorem lexA_trans (S : Sto lt) : ∀ x y z : List α, lexA lt x y = true → lexA lt y z = true → lexA lt x z = true
  | [], y, [], h1, h2 => by
    cases y with
    | nil => rw [lexA] at h1; cases h1
    | cons _ _ => rw [lexA] at h2; cases h2
  | [], _, _ :: _, _, _ => by rw [lexA]
  | _ :: _, [], _, h1, _ => by rw [lexA] at h1; cases h1
  | _ :: _, _ :: _, [], _, h2 => by rw [lexA] at h2; cases h2
  | x :: xs, y :: ys, z :: zs, h1, h2 => by
    rw [lexA_cons] at h1 h2 ⊢
    by_cases e : x = y
    · subst e
      rw [if_pos rfl] at h1
      by_cases e2 : x = z
      · subst e2
        rw [if_pos rfl] at h2 ⊢
        exact lexA_trans S _ _ _ h1 h2
      · rw [if_neg e2] at h2 ⊢
        exact h2
    · rw [if_neg e] at h1
      by_cases e2 : y = z
      · subst e2
        rw [if_neg e]
        exact h1
      · rw [if_neg e2] at h2
        have q := S.trans _ _ _ h1 h2
        by_cases e3 : x = z
        · subst e3
          rw [S.irr] at q
          cases q
        · rw [if_neg e3]
          exact q
theorem lexA_sto (S : Sto lt) : Sto (lexA lt) := ⟨lexA_irr S, lexA_tri S, lexA_trans S⟩
end
def sLt (x y : Str) : Bool := decide (x.cps.toList < y.cps.toList)
theorem sLt_sto : Sto sLt := by
  refine ⟨fun x => ?_, fun x y h1 h2 => ?_, fun x y z h1 h2 => ?_⟩
  · unfold sLt
    exact decide_eq_false (List.lt_irrefl _)
  · unfold sLt at h1 h2
    rw [decide_eq_false_iff_not] at h1 h2
    have e : x.cps.toList = y.cps.toList := List.le_antisymm h2 h1
    obtain ⟨a⟩ := x
    obtain ⟨b⟩ := y
    have e2 : a = b := Array.toList_inj.mp e
    rw [e2]
  · unfold sLt at *
    rw [decide_eq_true_iff] at *
    exact List.lt_trans h1 h2
def kLt : Key → Key → Bool
  | .inl a, .inl b => decide (a < b)
  | .inr x, .inr y => sLt x y
  | .inl _, .inr _ => true
  | .inr _, .inl _ => false
theorem kLt_sto : Sto kLt := by
  refine ⟨fun x => ?_, fun x y h1 h2 => ?_, fun x y z h1 h2 => ?_⟩
  · cases x with
    | inl a => simp [kLt]
    | inr a => exact sLt_sto.irr a
  · cases x <;> cases y <;> simp only [kLt, decide_eq_false_iff_not] at h1 h2
    · exact congrArg _ (by omega)
    · cases h1
    · cases h2
    · exact congrArg _ (sLt_sto.tri _ _ h1 h2)
  · cases x <;> cases y <;> cases z <;> simp only [kLt, decide_eq_true_iff] at h1 h2 ⊢
    all_goals first | omega | exact sLt_sto.trans _ _ _ h1 h2 | exact absurd h1 Bool.false_ne_true | exact absurd h2 Bool.false_ne_true
abbrev ksLt : List Key → List Key → Bool := lexA kLt
theorem ksLt_sto : Sto ksLt := lexA_sto kLt_sto
def sameK : Key → Key → Bool
  | .inl _, .inl _ => true
  | .inr _, .inr _ => true
  | _, _ => false
/-- where two first differ they are of one kind -/
def cmpOk : List Key → List Key → Prop
  | x :: xs, y :: ys => (x = y ∧ cmpOk xs ys) ∨ (x ≠ y ∧ sameK x y = true)
  | _, _ => True
section
open PyProof.Rows Srt
variable {prog : Program} {w : World} {A : Around} {E : Value → Shared → Prop} {s : Shared}
theorem lex_lay {b : Bool} {Q : Bool → Shared → Prop} : ∀ {ks js : List Key} {us ws : List Value} {i : Nat}, Vals (ks.map kV) us → Vals (js.map kV) ws → cmpOk ks js →
    Q (ksLt ks js) s → PySem.W.KatLex prog w A b (decide (us.length < ws.length)) Q (us.zip ws) i s
  | [], [], us, ws, i, ra, rb, _, q => by
    cases ra
    cases rb
    exact PySem.W.kat_nil (by simpa [lexA] using q)
  | [], y :: js, us, ws, i, ra, rb, _, q => by
    cases ra
    cases rb with
    | cons r t =>
      refine PySem.W.kat_nil ?_
      rw [show (decide (([] : List Value).length < (_ :: _ : List Value).length)) = true from decide_eq_true (by simp)]
      simpa [lexA] using q
  | x :: ks, [], us, ws, i, ra, rb, _, q => by
    cases rb
    cases ra with
    | cons r t =>
      rw [List.zip_nil_right]
      refine PySem.W.kat_nil ?_
      rw [show (decide ((_ :: _ : List Value).length < ([] : List Value).length)) = false from decide_eq_false (by simp)]
      simpa [lexA] using q
  | x :: ks, y :: js, us, ws, i, ra, rb, c, q => by
    cases ra with
    | cons ra1 ra2 =>
    cases rb with
    | cons rb1 rb2 =>
    rename_i u us v vs
    rw [List.zip_cons_cons]
    have ih : x = y → cmpOk ks js → PySem.W.KatLex prog w A b (decide (us.length < vs.length)) Q (us.zip vs) (i + 1) s := fun e c' => by
      refine lex_lay ra2 rb2 c' ?_
      have q' := q
      rw [show ksLt (x :: ks) (y :: js) = if x = y then ksLt ks js else kLt x y from lexA_cons _ _ _ _ _, if_pos e] at q'
      exact q'
    have el : decide ((u :: us).length < (v :: vs).length) = decide (us.length < vs.length) := by simp
    rw [el]
    have qn : ¬ x = y → Q (kLt x y) s := fun e => by
      have q' := q
      rw [show ksLt (x :: ks) (y :: js) = if x = y then ksLt ks js else kLt x y from lexA_cons _ _ _ _ _, if_neg e] at q'
      exact q'
    have cc : x = y → cmpOk ks js := fun e => by
      rcases c with ⟨_, c⟩ | ⟨c, _⟩
      · exact c
      · exact absurd e c
    cases x with
    | inl m =>
      obtain ⟨t, rfl⟩ := ra1
      cases y with
      | inr y =>
        rcases c with ⟨c, _⟩ | ⟨_, c⟩
        · cases c
        · cases c
      | inl n =>
        obtain ⟨t', rfl⟩ := rb1
        refine PySem.W.kat_cons (SeqAt.EqAt.int_int m t n t' prog w _ _ ?_)
        refine PySem.W.kat_go (fun e => ?_) (fun e => ?_)
        · have e' : (Sum.inl m : Key) = Sum.inl n := by
            have : m = n := by simpa using e
            rw [this]
          exact PySem.W.kat_yes (ih e' (cc e'))
        · have e' : ¬ (Sum.inl m : Key) = Sum.inl n := fun z => by
            have : m = n := Sum.inl.inj z
            simp [this] at e
          have q2 := qn e'
          exact PySem.W.kat_no (oneLt_any_int q2)
    | inr x =>
      obtain ⟨t, rfl⟩ := ra1
      cases y with
      | inl y =>
        rcases c with ⟨c, _⟩ | ⟨_, c⟩
        · cases c
        · cases c
      | inr y =>
        obtain ⟨t', rfl⟩ := rb1
        refine PySem.W.kat_cons (SeqAt.EqAt.str_str x t y t' prog w _ _ ?_)
        refine PySem.W.kat_go (fun e => ?_) (fun e => ?_)
        · have e' : (Sum.inr x : Key) = Sum.inr y := by
            have : x = y := by simpa using e
            rw [this]
          exact PySem.W.kat_yes (ih e' (cc e'))
        · have e' : ¬ (Sum.inr x : Key) = Sum.inr y := fun z => by
            have : x = y := Sum.inr.inj z
            simp [this] at e
          have q2 : Q (decide (x.cps.toList < y.cps.toList)) s := qn e'
          exact PySem.W.kat_no (oneLt_any_str q2)
/-- v is a tuple of the parts of k -/
def IsKey (h : Heap) (v : Value) (k : List Key) : Prop := ∃ a o us n, v = .ref a ∧ h.get? a = some o ∧ o.cls = .type "tuple" ∧ o.data = .seq (List.toArray us) n ∧ Vals (k.map kV) us
theorem IsKey.keeps {h h' : Heap} {v : Value} {k : List Key} (p : IsKey h v k) (kp : ∀ b o, h.get? b = some o → o.cls = .type "tuple" → h'.get? b = some o) : IsKey h' v k := by
  obtain ⟨a, o, us, n, e, ho, hc, hd, r⟩ := p
  exact ⟨a, o, us, n, e, kp _ _ ho hc, hc, hd, r⟩
theorem key_firsts {h : Heap} : ∀ {vs : List Value}, (∀ v ∈ vs, ∃ i r, IsKey h v (Sum.inl i :: r)) → ∃ fs : List Value, PySem.W.KatTups h vs fs ∧ fs.length = vs.length ∧ ∀ f ∈ fs, ∃ x t, f = Value.int x t
  | [], _ => ⟨[], PySem.W.KatTups.nil, rfl, fun _ hm => by simp at hm⟩
  | v :: vs, hp => by
    obtain ⟨fs, h1, h2, h3⟩ := key_firsts (vs := vs) fun v' hm => hp v' (List.mem_cons_of_mem _ hm)
    obtain ⟨i, r, a, o, us, n, e, ho, hc, hd, rv⟩ := hp v (List.mem_cons_self ..)
    subst e
    rw [List.map_cons] at rv
    cases rv with
    | cons r1 r2 =>
      obtain ⟨t, rfl⟩ := r1
      refine ⟨.int i t :: fs, PySem.W.KatTups.cons ho hc hd rfl h1, by rw [List.length_cons, List.length_cons, h2], fun f hm => ?_⟩
      rcases List.mem_cons.mp hm with rfl | hm
      · exact ⟨i, t, rfl⟩
      · exact h3 f hm
theorem key_cmp {b : Bool} {vs : List Value} {k : Value → List Key} (hp : ∀ v ∈ vs, IsKey s.heap v (k v)) (hc : ∀ v ∈ vs, ∀ u ∈ vs, cmpOk (k v) (k u)) : SrtO.Cmp prog w A s (tuples' b) (fun p => p.1 ∈ vs) (SrtO.lt2 fun v u => ksLt (k v) (k u)) := by
  intro p q hm hm'
  have h1 := hp _ hm
  have h2 := hp _ hm'
  have h3 := hc _ hm _ hm'
  show wpAny (model prog w) A (keyLt' (tuples' b) p.1 q.1) (fun r s' => s' = s ∧ r = ksLt (k p.1) (k q.1)) (fun _ _ => False) s
  obtain ⟨a, o, us, n, e, ho, _, hd, r⟩ := h1
  obtain ⟨a', o', us', n', e', ho', _, hd', r'⟩ := h2
  rw [e, e'] at h3 ⊢
  rw [e] at r
  rw [e'] at r'
  refine PySem.W.kat_lt ho hd ho' hd' ?_
  have q2 := lex_lay (prog := prog) (w := w) (A := A) (s := s) (b := b) (i := 0) (Q := fun r s' => s' = s ∧ r = ksLt (k (.ref a)) (k (.ref a'))) r r' h3 ⟨rfl, rfl⟩
  simpa using q2
theorem keys_sortableO {a : Addr} {vs : List Value} {k : Value → List Key} (h0 : 0 < vs.length) (hp : ∀ v ∈ vs, IsKey s.heap v (k v)) (hi : ∀ v ∈ vs, ∃ i r, k v = Sum.inl i :: r) (hc : ∀ v ∈ vs, ∀ u ∈ vs, cmpOk (k v) (k u))
    (ha : ∀ o, s.heap.get? a = some o → o.cls ≠ .type "tuple") : SrtO.SortableO prog w A s a vs fun v u => ksLt (k v) (k u) := by
  intro h' keep
  have hp' : ∀ v ∈ vs, IsKey h' v (k v) := fun v hm => (hp v hm).keeps fun b o e c => keep b o (fun z => by subst z; exact ha o e c) e
  obtain ⟨fs, h1, h2, h3⟩ := key_firsts (h := h') (vs := vs) fun v hm => by
    obtain ⟨i, r, e⟩ := hi v hm
    have q := hp' v hm
    rw [e] at q
    exact ⟨i, r, q⟩
  refine ⟨tuples' true, fun Q E hq => ?_, key_cmp hp' hc⟩
  refine PySem.W.kat_kind (T := .type "int") h1 (by omega) (fun f hm => ?_) (by rfl) ?_
  · obtain ⟨x, t, rfl⟩ := h3 f hm
    exact PySem.W.Looks.now
  · have e : (Value.type "int" != Value.type "tuple") = true := by first | decide +kernel | rfl | decide
    rw [e]
    exact hq
end
/-- sorted(xs), xs a list of tuples of ints and texts (k says which): a new list, sorted, a rearrangement -/
def SortOk (H : Hp) (xs : List V) (k : V → List Key) : Prop := (∀ x ∈ xs, ∃ t, x = V.ref t ∧ H t = some (.tup ((k x).map kV))) ∧ (∀ x ∈ xs, ∃ i r, k x = Sum.inl i :: r) ∧ ∀ x ∈ xs, ∀ y ∈ xs, cmpOk (k x) (k y)
def rSortedKs (K : PySem.W.Frag) : List V → Hp → VK → Prop := fun vs H Q => ∃ (a : Addr) (xs : List V) (k : V → List Key), vs = [V.ref a] ∧ SqL K H a xs ∧ SortOk H xs k ∧
  ∀ ys p, ys.Pairwise (fun x y => ksLt (k y) (k x) = false) → ys.Perm xs → H p = none → Q (.ref p) (upd H p (.lst ys))
section
open SrtO
variable {X : Cx} {pins : List (Addr × Obj)} {σ : L2.St} {H : Hp} {s : Shared}
theorem isKey_of (I : Inv X pins σ H s) {t : Addr} {k : List Key} (h : H t = some (.tup (k.map kV))) : IsKey s.heap (.ref t) k := by
  obtain ⟨_, its2, r2, o, ho, hc, n, hd⟩ := I.hok _ _ h
  exact ⟨t, o, its2, n, rfl, ho, hc, hd, r2⟩
theorem cr_sortedKs : CallR X (.builtin "sorted") (rSortedKs X.K) := by
  intro pins s σ H vs us Q I r h
  obtain ⟨a, xs, k, rfl, hs, ⟨hx, hi, hc⟩, q⟩ := h
  obtain ⟨its, rv, hl, hz⟩ := I.list hs
  obtain ⟨u, rfl, ru⟩ := vals1 r
  obtain rfl : u = Value.ref a := ru
  obtain ⟨e1, e2⟩ := refs_back rv fun x m => by
    obtain ⟨t, e, _⟩ := hx x m
    exact ⟨t, e⟩
  have hk : ∀ v ∈ its, IsKey s.heap v (k (backV v)) := fun v hv => by
    obtain ⟨t, rfl⟩ := e2 v hv
    have hm : V.ref t ∈ xs := by rw [e1]; exact List.mem_map.mpr ⟨_, hv, rfl⟩
    obtain ⟨t', e, ht⟩ := hx _ hm
    cases e
    exact isKey_of I ht
  have hm : ∀ v ∈ its, backV v ∈ xs := fun v hv => by rw [e1]; exact List.mem_map.mpr ⟨_, hv, rfl⟩
  refine SrtO.sorted_ord (ltv := fun v u => ksLt (k (backV v)) (k (backV u))) ⟨fun x y => ksLt_sto.swo.asym _ _, fun x y z => ksLt_sto.swo.tr _ _ _⟩ hl.isList (by rw [← rv.length]; exact hz) (fun h2 h₁ a ha kk => ?_) fun out hs hb => ?_
  · refine keys_sortableO (s := { s with heap := h₁ }) (by omega) (fun v hv => (hk v hv).keeps fun b o e _ => (kk b o e).2) (fun v hv => hi _ (hm v hv)) (fun v hv u hu => hc _ (hm v hv) _ (hm u hu)) fun o e => ?_
    have e' : some o = some (seqObj "list" its.toArray 0) := e.symm.trans ha
    cases e'
    intro c
    exact absurd (Value.type.inj c) (by decide)
  · have h3 : ∀ u ∈ out, ∃ a, u = Value.ref a := fun u hu => e2 u (hb.perm.mem_iff.mp hu)
    obtain ⟨n, hn⟩ := sortedAll_at s.heap its out.toArray
    have hb2 : (out.map backV).Perm xs := by
      rw [e1]
      exact hb.perm.map backV
    refine ⟨.ref (s.heap.objs.size + 1), upd H (s.heap.objs.size + 1) (.lst (out.map backV)), I.laid (t' := s.toks) (fun b o e => sortedAll_old e) (Nat.le_succ _) ⟨?_, out, n, vals_back h3, hn⟩, rfl, q _ _ (List.pairwise_map.mpr hs) hb2 (I.hok.fresh (Nat.le_succ _))⟩
    rw [hb2.length_eq]
    exact hz
/-- the key that stands at a reference -/
def vK : V → Key
  | .int i => .inl i
  | .str x => .inr x
  | _ => .inl 0
theorem vK_kV (k : Key) : vK (kV k) = k := by cases k <;> rfl
theorem vKs_kV (k : List Key) : (k.map kV).map vK = k := by
  induction k with
  | nil => rfl
  | cons x k ih => rw [List.map_cons, List.map_cons, ih, vK_kV]
def kOf (H : Hp) : V → List Key
  | .ref b => (match H b with
    | some (.tup xs) => xs.map vK
    | _ => [])
  | _ => []
theorem kOf_at {H : Hp} {b : Addr} {k : List Key} (h : H b = some (.tup (k.map kV))) : kOf H (.ref b) = k := by
  show (match H b with
    | some (.tup xs) => xs.map vK
    | _ => []) = k
  rw [h]
  exact vKs_kV k
theorem isKeys_map {H : Hp} : ∀ {kvs : List (List Key × V)} {bs : List Addr}, IsKeys H kvs bs → (bs.map V.ref).map (kOf H) = kvs.map (·.1)
  | _, _, .nil => rfl
  | _, _, .cons h t => by
    rw [List.map_cons, List.map_cons, List.map_cons, kOf_at h]
    exact congrArg _ (isKeys_map t)
theorem isKeys_at {H : Hp} : ∀ {kvs : List (List Key × V)} {bs : List Addr}, IsKeys H kvs bs → ∀ x ∈ bs.map V.ref, ∃ t, x = V.ref t ∧ H t = some (.tup ((kOf H x).map kV))
  | _, _, .nil, x, m => by simp at m
  | _, b :: _, .cons h t, x, m => by
    rw [List.map_cons] at m
    rcases List.mem_cons.mp m with e | m
    · subst e
      exact ⟨b, rfl, by rw [kOf_at h]; exact h⟩
    · exact isKeys_at t x m
theorem vals_refs_back : ∀ bs : List Addr, (bs.map Value.ref).map backV = bs.map V.ref
  | [] => rfl
  | b :: bs => by
    rw [List.map_cons, List.map_cons, List.map_cons, vals_refs_back bs]
    rfl
/-- sorted(d), d a dict with tuple keys -/
def rSortedDT : List V → Hp → VK → Prop := fun vs H Q => ∃ (a : Addr) (kvs : List (List Key × V)), vs = [V.ref a] ∧ H a = some (.dT kvs) ∧ (∀ p ∈ kvs, ∃ i r, p.1 = Sum.inl i :: r) ∧ (∀ p ∈ kvs, ∀ q ∈ kvs, cmpOk p.1 q.1) ∧
  ∀ ys p, ys.Pairwise (fun x y => ksLt (kOf H y) (kOf H x) = false) → (ys.map (kOf H)).Perm (kvs.map (·.1)) → (∀ y ∈ ys, ∃ t, y = V.ref t ∧ H t = some (.tup ((kOf H y).map kV))) → H p = none → Q (.ref p) (upd H p (.lst ys))
theorem cr_sortedDT (hcalm : X.calm = true) : CallR X (.builtin "sorted") rSortedDT := by
  intro pins s σ H xs us Q I r q
  obtain ⟨d, kvs, rfl, hd, hi, hc, q⟩ := q
  obtain ⟨u, rfl, rx⟩ := vals1 r
  cases rx
  obtain ⟨z, hs, ks, pr, o, es, ep, ho, hx, hdt, he, hn⟩ := (show ObjOk X.prog X.w H s.heap d (.dT kvs) from I.hok d _ hd)
  have l1 : es.size = ks.length := size_of_entries he
  have l2 : kvs.length = ks.length := Paired.length pr
  have h16 : es.size ≤ sizeLine := by omega
  refine Calls.call_function_entry PyProof.Rows.kind_sorted PyProof.Rows.plain_sorted PyProof.Rows.entry_sorted (PyProof.Rows.args_sorted1 _) ?_
  unfold Builtin.«sorted»
  refine wpAny_bind (m := checkCount "sorted" 1 1 _) (wpAny_pure ?_)
  refine wpAny_bind (PySem.W.kdu_collect (A := X.A.in1) (kdl_raw hs hx hdt) (I.ok.hd hcalm) ho h16 fun h' tk acc hk it => ?_)
  have ea : acc.toList = ks.map fun x => Value.ref x.2.1 := by
    have hl : acc.toList.length = ks.length := by rw [Array.length_toList, it.1]; exact l1
    apply List.ext_getElem?
    intro j
    rw [List.getElem?_map]
    cases hj : acc.toList[j]? with
    | none =>
      have h1 := List.getElem?_eq_none_iff.mp hj
      rw [List.getElem?_eq_none (by omega)]
      rfl
    | some v =>
      obtain ⟨en, hen, hv⟩ := it.2 j v (by rw [← Array.getElem?_toList]; exact hj)
      have qe := entry_at he j
      rw [hen] at qe
      cases hb : ks[j]? with
      | none =>
        rw [hb] at qe
        exact nomatch (show some en = none from qe)
      | some b =>
        rw [hb] at qe
        have e2 : en = entryOfKey (tupleKind (mixKind X.prog X.w)) b := Option.some.inj qe
        rw [hv, e2]
        rfl
  have eb : acc.toList = (ks.map fun x => x.2.1).map Value.ref := by rw [ea, List.map_map]; rfl
  generalize hbs : (ks.map fun x => x.2.1) = bs at eb
  have isk : IsKeys H kvs bs := by rw [← hbs]; exact isKeys_of pr
  have I1 : Inv X pins σ H { s with heap := h', toks := tk } := I.kept hk
  have hal : acc.toList.length ≤ sizeLine := by rw [Array.length_toList, it.1]; exact h16
  refine wpAny_bind (wpAny_newList ?_ hal)
  have hoL : (h'.push (seqObj "list" acc.toList.toArray 0)).get? h'.objs.size = some (seqObj "list" acc.toList.toArray 0) := Heap.get?_push_size _ rfl
  show wpAny _ _ _ _ _ { s with heap := h'.push (seqObj "list" acc.toList.toArray 0), toks := tk }
  have hmem : ∀ v ∈ acc.toList, ∃ b, v = Value.ref b ∧ V.ref b ∈ bs.map V.ref := fun v hv => by
    rw [eb] at hv
    obtain ⟨b, hb, rfl⟩ := List.mem_map.mp hv
    exact ⟨b, rfl, List.mem_map.mpr ⟨b, hb, rfl⟩⟩
  have hat := isKeys_at isk
  have hkm : ∀ b, V.ref b ∈ bs.map V.ref → ∃ p ∈ kvs, p.1 = kOf H (.ref b) := fun b hb => by
    have q : kOf H (.ref b) ∈ kvs.map (·.1) := by
      rw [← isKeys_map isk]
      exact List.mem_map.mpr ⟨_, hb, rfl⟩
    exact List.mem_map.mp q
  refine wpAny_bind (wpAny_holding (wpAny_call_entry PyProof.Rows.slot_list_sort ⟨_, hoL, rfl⟩ PyProof.Rows.entry_list_sort
    (SrtO.list_sort_ord (ltv := fun v u => ksLt (kOf H (backV v)) (kOf H (backV u))) (s := { s with heap := h'.push (seqObj "list" acc.toList.toArray 0), toks := tk }) ⟨fun x y => ksLt_sto.swo.asym _ _, fun x y z => ksLt_sto.swo.tr _ _ _⟩ hoL hal (fun h2 => ?_) fun out hs' hb => ⟨_, rfl, ?_⟩)
    (PyProof.Rows.args_list_sort _)))
  · refine keys_sortableO (k := fun v => kOf H (backV v)) (by omega) (fun v hv => ?_) (fun v hv => ?_) (fun v hv u hu => ?_) fun o e => ?_
    · obtain ⟨b, rfl, hb⟩ := hmem v hv
      obtain ⟨t, e, ht⟩ := hat _ hb
      cases e
      exact (isKey_of I1 ht).keeps fun b o e _ => Heap.get?_push_of_some _ e
    · obtain ⟨b, rfl, hb⟩ := hmem v hv
      obtain ⟨p, hp, e⟩ := hkm b hb
      show ∃ i r, kOf H (.ref b) = _
      rw [← e]
      exact hi p hp
    · obtain ⟨b, rfl, hb⟩ := hmem v hv
      obtain ⟨c, rfl, hc'⟩ := hmem u hu
      obtain ⟨p, hp, e⟩ := hkm b hb
      obtain ⟨p', hp', e'⟩ := hkm c hc'
      show cmpOk (kOf H (.ref b)) (kOf H (.ref c))
      rw [← e, ← e']
      exact hc p hp p' hp'
    · have e' : some o = some (seqObj "list" acc.toList.toArray 0) := e.symm.trans hoL
      cases e'
      intro c
      exact absurd (Value.type.inj c) (by decide)
  · obtain ⟨e', he'⟩ := PyProof.Rows.sortedHeap_at (vs := acc.toList) (out := out.toArray) hoL
    have h3 : ∀ u ∈ out, ∃ a, u = Value.ref a := fun u hu => by
      obtain ⟨b, e, _⟩ := hmem u (hb.perm.mem_iff.mp hu)
      exact ⟨b, e⟩
    have hb2 : (out.map backV).Perm (bs.map V.ref) := by
      rw [← vals_refs_back bs, ← eb]
      exact hb.perm.map backV
    refine wpAny_pure ⟨_, rfl, .ref h'.objs.size, upd H h'.objs.size (.lst (out.map backV)), I1.laid (t' := tk) (fun b u e => ?_) (Nat.le_refl _) ⟨?_, out, e', vals_back h3, he'⟩, rfl, q _ _ (List.pairwise_map.mpr hs') ?_ (fun y hy => hat y (hb2.mem_iff.mp hy)) (I1.hok.fresh (Nat.le_refl _))⟩
    · have hb : b < h'.objs.size := Heap.lt_size e
      rw [PyProof.Rows.sortedHeap_old (Nat.ne_of_lt hb) (by rw [size_push']; exact Nat.lt_succ_of_lt hb)]
      exact Heap.get?_push_of_some _ e
    · rw [hb2.length_eq, List.length_map]
      have : bs.length = ks.length := by rw [← hbs, List.length_map]
      omega
    · have q2 := hb2.map (kOf H)
      rw [isKeys_map isk] at q2
      exact q2
end
end K33

/-! K3: the text, facts of the top, keys -/
namespace K33
open PySem L2
def top (i : Nat) : Stmt := PySem.Challenge.pw_oncecoin_k33_whole_counter.main.body.getD i (.Pass ⟨0, 0, 0, 0⟩)

/-! ### what a caller knows of a def -/
def Cal (P : Program) (w : World) (K : PySem.W.Frag) (mg : Str → Option Value) (base : Heap) (x : Str) (k : Nat) (sp : Sp) : Prop :=
  ∃ f fd ps, FnOk P w K mg base CX0 k f fd ps sp ∧ mg x = some (.ref f) ∧ PySem.W.keepIn K (.ref f) = true ∧ Binds K fd ps []
def Mtd (P : Program) (w : World) (K : PySem.W.Frag) (mg : Str → Option Value) (base : Heap) (C : Addr) (m : Str) (k : Nat) (sp : Sp) : Prop :=
  ∃ f fd ps, FnOk P w K mg base CX0 k f fd ps sp ∧ Meth K C m f ∧ Binds K fd ps []
section
variable {X : Cx} {j k : Nat} {C : Addr} {sp : Sp} {x m : Str} {p pos apos : Pos} {e o : Expr} {es : List Expr} {ta : TE} {t : TA}
theorem pe_cc (c : Cal X.prog X.w X.K X.mg X.base x j sp) (hr : Room k X.A) (hj : j ≤ k) (hg : Gl X x) (ha : PA X (e :: es) t) (hdb : (x == ("__debug__" : Str)) = false := by decide)
    (he : starEach (e :: es) X.env = (false, eval e X.env) :: starEach es X.env := by rfl) (hpl : (backTo pos (starEach es X.env)).any (·.1) = false := by rfl) : PE X (.Call (.Name x p) (e :: es) [] pos) (tCall sp [] E0 t) := by
  obtain ⟨f, fd, ps, F, hm, hk, hb⟩ := c
  exact pe_call F (hr.mono hj) hg hm hk hb .nil pass0 ha hdb he hpl
theorem pe_mc {pl : Sem Bool} (c : Mtd X.prog X.w X.K X.mg X.base C m j sp) (cl : Cls X.K C) (hr : Room k X.A) (hj : j ≤ k) (he : PE X o ta) (ha : PA X (e :: es) t)
    (hst : starEach (e :: es) X.env = (false, eval e X.env) :: starEach es X.env := by rfl) (hpl : (backTo pos (starEach es X.env)).any (·.1) = false := by rfl)
    (ht : eval (.Call (.Attribute o m apos) (e :: es) [] pos) X.env = (do
      let ov ← eval o X.env
      standAt apos.atName
      let (f, first) ← holding [ov] (getMethod ov m pl)
      callWith pos f first (backTo pos (starEach (e :: es) X.env)) (backToKw pos (keywordEach [] X.env))) := by rfl) : PE X (.Call (.Attribute o m apos) (e :: es) [] pos) (tMeth C m sp [] E0 ta t) := by
  obtain ⟨f, fd, ps, F, hm, hb⟩ := c
  exact pe_meth he cl hm F (hr.mono hj) hb .nil pass0 ha hst hpl ht
theorem pe_mc0 {pl : Sem Bool} (c : Mtd X.prog X.w X.K X.mg X.base C m j sp) (cl : Cls X.K C) (hr : Room k X.A) (hj : j ≤ k) (he : PE X o ta)
    (ht : eval (.Call (.Attribute o m apos) [] [] pos) X.env = (do
      let ov ← eval o X.env
      standAt apos.atName
      let (f, first) ← holding [ov] (getMethod ov m pl)
      callWith pos f first (backTo pos (starEach [] X.env)) (backToKw pos (keywordEach [] X.env))) := by rfl) : PE X (.Call (.Attribute o m apos) [] [] pos) (tMeth C m sp [] E0 ta tNil) := by
  obtain ⟨f, fd, ps, F, hm, hb⟩ := c
  exact pe_meth0 he cl hm F (hr.mono hj) hb .nil pass0 ht
end
/-- a module's constant -/
theorem pe_gc {X : Cx} {x : Str} {v : V} {pos : Pos} (hg : Gl X x) (h : ∃ u, X.mg x = some u ∧ RelV v u) (hd : (x == ("__debug__" : Str)) = false := by decide) : PE X (.Name x pos) (tC v) := by
  obtain ⟨u, h1, h2⟩ := h
  exact pe_glob hg h1 h2 hd
theorem pe_gref {X : Cx} {x : Str} {a : Addr} {pos : Pos} (hg : Gl X x) (h : X.mg x = some (.ref a)) (hd : (x == ("__debug__" : Str)) = false := by decide) : PE X (.Name x pos) (tC (.ref a)) := pe_glob (v := .ref a) hg h rfl hd
section
variable {X : Cx} {K : PySem.W.Frag}
theorem ix_tupK (e : X.K = K) : IxR X (rIxT K) := by
  subst e
  exact ix_tup
theorem ix_listK (e : X.K = K) : IxR X (rIxL K) := by
  subst e
  exact ix_list
theorem op_in_seqK (e : X.K = K) : OpR X (compareOp .In) (rIn K false) := by
  subst e
  exact op_in_seq
theorem op_notIn_seqK (e : X.K = K) : OpR X (compareOp .NotIn) (rIn K true) := by
  subst e
  exact op_notIn_seq
theorem op_inDK (e : X.K = K) (hu : X.A.units + 65 < cLine) : OpR X (compareOp .In) (rInD K) := by
  subst e
  exact op_inD hu
theorem op_notInDK (e : X.K = K) (hu : X.A.units + 65 < cLine) : OpR X (compareOp .NotIn) (rNotInD K) := by
  subst e
  exact op_notInD hu
theorem op_eqDK (e : X.K = K) (hu : X.A.units + 64 < cLine) : OpR X (compareOp .Eq) (rEqD K) := by
  subst e
  exact op_eqD hu
theorem op_neDK (e : X.K = K) (hu : X.A.units + 64 < cLine) : OpR X (compareOp .NotEq) (rNeD K) := by
  subst e
  exact op_neD hu
end
theorem u65 {A : Around} {k : Nat} (hr : Room k A) : A.units + 65 < cLine := by
  have := hr.un
  omega

/-! ### facts of the top -/
structure Blt (mg : Str → Option Value) : Prop where
  len : mg "len" = none
  isinstance : mg "isinstance" = none
  int : mg "int" = none
  bool : mg "bool" = none
  str : mg "str" = none
  tuple : mg "tuple" = none
  list : mg "list" = none
  sorted : mg "sorted" = none
  sum : mg "sum" = none
  all : mg "all" = none
  range : mg "range" = none
  min : mg "min" = none
  max : mg "max" = none
  abs : mg "abs" = none
  zip : mg "zip" = none
/-- a written tuple -/
def KT (K : PySem.W.Frag) (a : Addr) (xs : List V) : Prop := ∃ (o : Obj) (its : Array Value) (n : Nat), K.lookup a = some o ∧ o.cls = .type "tuple" ∧ o.data = .seq its n ∧ its.size ≤ sizeLine ∧ Vals xs its.toList
theorem KT.sq {K : PySem.W.Frag} {a : Addr} {xs : List V} (h : KT K a xs) (H : Hp) : SqT K H a xs := .inr h

/-! ### kinds of parts, names of keys -/
inductive Knd where
  | word | customer | number | buyer
  deriving DecidableEq
def Knd.s : Knd → Str
  | .word => "word"
  | .customer => "customer"
  | .number => "number"
  | .buyer => "buyer"
def letters : Str := "abcdefghijklmnopqrstuvwxyz"
structure IsWord (x : Str) : Prop where
  pos : 1 ≤ x.length
  le : x.length ≤ 8
  all : ∀ c ∈ x.cps.toList, c ∈ letters.cps.toList
def fitK : Knd → Key → Prop
  | .word, .inr x => IsWord x
  | .customer, .inl i => 0 ≤ i ∧ i ≤ 9
  | .number, .inl i => 1 ≤ i ∧ i ≤ 999
  | .buyer, .inl i => 1 ≤ i ∧ i ≤ 9
  | _, _ => False
inductive Nm where
  | price | rate | coupon | order | road | away | came | free | held | out | purse | kept | till | paid
  deriving DecidableEq
def Nm.s : Nm → Str
  | .price => "price"
  | .rate => "rate"
  | .coupon => "coupon"
  | .order => "order"
  | .road => "road"
  | .away => "away"
  | .came => "came"
  | .free => "free"
  | .held => "held"
  | .out => "out"
  | .purse => "purse"
  | .kept => "kept"
  | .till => "till"
  | .paid => "paid"
def Nm.parts : Nm → List Knd
  | .price => [.word]
  | .rate => []
  | .coupon => [.word]
  | .order => [.customer, .number]
  | .road => [.customer, .number]
  | .away => [.word]
  | .came => [.word]
  | .free => [.word]
  | .held => [.word]
  | .out => [.word]
  | .purse => [.buyer]
  | .kept => []
  | .till => []
  | .paid => []
def Nm.office : Nm → Bool
  | .price | .rate | .coupon | .order | .road | .away => true
  | _ => false
def Nm.store : Nm → Bool
  | .came | .free | .held | .out => true
  | _ => false
def Nm.isRec : Nm → Bool
  | .price | .rate | .coupon | .order | .road => true
  | _ => false
def Nm.at (n : Nm) (h : Int) : Prop := (n.office = true ∧ h = 1) ∨ (n.store = true ∧ 2 ≤ h ∧ h ≤ 4) ∨ (n.office = false ∧ n.store = false ∧ h = 5)
theorem Nm.s_inj {a b : Nm} (h : a.s = b.s) : a = b := by
  revert h
  cases a <;> cases b <;> first | (intro _; rfl) | (intro h; exact absurd h (by decide +kernel))
theorem Nm.s_eq (a b : Nm) : decide (a.s = b.s) = decide (a = b) := by
  by_cases h : a = b
  · subst h
    simp
  · rw [decide_eq_false h, decide_eq_false fun z => h (Nm.s_inj z)]
theorem Nm.s_ok (n : Nm) : PyData.strOk n.s = true := by cases n <;> decide +kernel
/-- a key of the house h with the name n -/
structure KeyN (h : Int) (n : Nm) (r k : List Key) : Prop where
  eq : k = .inl h :: .inr n.s :: r
  at_ : n.at h
  fits : Paired fitK n.parts r
def KeyOk (h : Int) (k : List Key) : Prop := ∃ n r, KeyN h n r k
theorem IsWord.ok {x : Str} (h : IsWord x) : PyData.strOk x = true := by
  unfold PyData.strOk
  rw [Array.all_eq_true_iff_forall_mem]
  intro c hc
  have := h.all c (by simpa using hc)
  have q : ∀ c ∈ letters.cps.toList, c < 0x110000 := by decide +kernel
  exact decide_eq_true (q c this)
theorem fits_ok : ∀ {ks : List Knd} {r : List Key}, Paired fitK ks r → kOk r
  | _, _, .nil => fun _ m => nomatch m
  | k :: ks, x :: r, .cons h t => fun y m => by
    rcases List.mem_cons.mp m with e | m
    · subst e
      cases k with
      | word => exact IsWord.ok h
      | customer => exact h.elim
      | number => exact h.elim
      | buyer => exact h.elim
    · exact fits_ok t y m
theorem KeyOk.ok {h : Int} {k : List Key} (x : KeyOk h k) : kOk k := by
  obtain ⟨n, r, e, _, f⟩ := x
  rw [e]
  intro y m
  rcases List.mem_cons.mp m with q | m
  · cases q
  rcases List.mem_cons.mp m with q | m
  · cases q
    exact n.s_ok
  · exact fits_ok f y m
/-- facts of the module's names -/
structure Glb (K : PySem.W.Frag) (w : World) (mg : Str → Option Value) : Prop where
  OFFICE : ∃ u, mg "OFFICE" = some u ∧ RelV (.int 1) u
  BANK : ∃ u, mg "BANK" = some u ∧ RelV (.int 5) u
  MOST_LETTERS : ∃ u, mg "MOST_LETTERS" = some u ∧ RelV (.int 8) u
  LETTERS : ∃ u, mg "LETTERS" = some u ∧ RelV (.str letters) u
  STORES : ∃ a, mg "STORES" = some (.ref a) ∧ KT K a [.int 2, .int 3, .int 4]
  OFFICE_NAMES : ∃ a, mg "OFFICE_NAMES" = some (.ref a) ∧ KT K a [.str Nm.price.s, .str Nm.rate.s, .str Nm.coupon.s, .str Nm.order.s, .str Nm.road.s, .str Nm.away.s]
  STORE_NAMES : ∃ a, mg "STORE_NAMES" = some (.ref a) ∧ KT K a [.str Nm.came.s, .str Nm.free.s, .str Nm.held.s, .str Nm.out.s]
  RECORD_NAMES : ∃ a, mg "RECORD_NAMES" = some (.ref a) ∧ KT K a [.str Nm.price.s, .str Nm.rate.s, .str Nm.coupon.s, .str Nm.order.s, .str Nm.road.s]
  RANGES : ∃ a es n, mg "RANGES" = some (.ref a) ∧ KDict K w a es n ∧ PySem.W.nsIn K a Knd.word.s = some none ∧
    (∃ b, PySem.W.nsIn K a Knd.customer.s = some (some (.ref b)) ∧ KT K b [.int 0, .int 9]) ∧ (∃ b, PySem.W.nsIn K a Knd.number.s = some (some (.ref b)) ∧ KT K b [.int 1, .int 999]) ∧
    (∃ b, PySem.W.nsIn K a Knd.buyer.s = some (some (.ref b)) ∧ KT K b [.int 1, .int 9])
  KEY_PARTS : ∃ a es n, mg "KEY_PARTS" = some (.ref a) ∧ KDict K w a es n ∧ ∀ m : Nm, ∃ b, PySem.W.nsIn K a m.s = some (some (.ref b)) ∧ KT K b (m.parts.map fun q => .str q.s)

theorem B_len : bootBuiltins "len" = some (.builtin "len") := by decide +kernel
theorem B_isinstance : bootBuiltins "isinstance" = some (.builtin "isinstance") := by decide +kernel
theorem B_sorted : bootBuiltins "sorted" = some (.builtin "sorted") := by decide +kernel
theorem B_sum : bootBuiltins "sum" = some (.builtin "sum") := by decide +kernel
theorem B_all : bootBuiltins "all" = some (.builtin "all") := by decide +kernel
theorem B_min : bootBuiltins "min" = some (.builtin "min") := by decide +kernel
theorem B_max : bootBuiltins "max" = some (.builtin "max") := by decide +kernel
theorem B_abs : bootBuiltins "abs" = some (.builtin "abs") := by decide +kernel
theorem B_int : bootBuiltins "int" = some (.type "int") := by decide +kernel
theorem B_bool : bootBuiltins "bool" = some (.type "bool") := by decide +kernel
theorem B_str : bootBuiltins "str" = some (.type "str") := by decide +kernel
theorem B_tuple : bootBuiltins "tuple" = some (.type "tuple") := by decide +kernel
theorem B_list : bootBuiltins "list" = some (.type "list") := by decide +kernel
section
variable {K : PySem.W.Frag}
theorem ki_int_int : PySem.W.kitOne K (.type "int") (.type "int") = some true := kit_ty (by decide +kernel)
theorem ki_int_bool : PySem.W.kitOne K (.type "int") (.type "bool") = some false := kit_ty (by decide +kernel)
theorem ki_int_str : PySem.W.kitOne K (.type "int") (.type "str") = some false := kit_ty (by decide +kernel)
theorem ki_int_tuple : PySem.W.kitOne K (.type "int") (.type "tuple") = some false := kit_ty (by decide +kernel)
theorem ki_str_str : PySem.W.kitOne K (.type "str") (.type "str") = some true := kit_ty (by decide +kernel)
theorem ki_str_bool : PySem.W.kitOne K (.type "str") (.type "bool") = some false := kit_ty (by decide +kernel)
theorem ki_str_tuple : PySem.W.kitOne K (.type "str") (.type "tuple") = some false := kit_ty (by decide +kernel)
theorem ki_tuple_tuple : PySem.W.kitOne K (.type "tuple") (.type "tuple") = some true := kit_ty (by decide +kernel)
theorem ki_none_tuple : PySem.W.kitOne K (.type "NoneType") (.type "tuple") = some false := kit_ty (by decide +kernel)
end
theorem iteDT {p A B : Prop} [Decidable p] (h : p) (k : A) : if decide p = true then A else B := by
  rw [decide_eq_true h]
  exact iteT k
theorem iteDF {p A B : Prop} [Decidable p] (h : ¬ p) (k : B) : if decide p = true then A else B := by
  rw [decide_eq_false h]
  exact iteF k
theorem iteD2 {p A B : Prop} [Decidable p] (h1 : p → A) (h2 : ¬ p → B) : if decide p = true then A else B := by
  by_cases h : p
  · exact iteDT h (h1 h)
  · exact iteDF h (h2 h)
/-! ### short tactics -/
theorem ite1 {c : Bool} {A B : Prop} (h1 : c = true → A) (h2 : c = false → B) : if c = true then A else B := by
  cases c with
  | true => exact iteT (h1 rfl)
  | false => exact iteF (h2 rfl)
end K33

/-! K4: forms -/
namespace K33
open PySem L2
section
variable {P : Program} {w : World} {K : PySem.W.Frag} {mg : Str → Option Value} {base : Heap}

/-! ### is_between -/
def spBetween : Sp := fun vs H Q _ => ∃ v a b : Int, vs = [.int v, .int a, .int b] ∧ a ≤ v ∧ v ≤ b ∧ Q (.bl true) H
abbrev s_is_between : Stmt := top 19
theorem sc_is_between : FnScope ["value", "least", "most"] ["value", "least", "most"] (defScope s_is_between) := ⟨rfl, rfl, rfl, by decide +kernel, rfl, by decide +kernel, by decide +kernel⟩
theorem ok_is_between {f : Addr} {fd : FuncData} (F : Fun K "is_between" "is_between" s_is_between f fd) (T : Blt mg) : FnOk P w K mg base CX0 1 f fd ["value", "least", "most"] spBetween := by
  refine F.ok sc_is_between (fun vs H Q E h => ?_) (fun cdv A outer s H vs Q E hr h => ?_)
  · obtain ⟨_, _, _, rfl, _⟩ := h
    rfl
  · obtain ⟨v, a, b, rfl, h1, h2, k⟩ := h
    refine ⟨_, ((pss_one (ps_ret (pe_and (pe_callB call_isi (by rfl) T.isinstance B_isinstance (pa_cons (pv 0) (pa_cons (pe_bltn (v := .ty "int") (by rfl) T.int B_int rfl) pa_nil))) (pe_and (pe_not (pe_callB call_isi (by rfl) T.isinstance B_isinstance (pa_cons (pv 0) (pa_cons (pe_bltn (v := .ty "bool") (by rfl) T.bool B_bool rfl) pa_nil)))) (pe_one (pe_chain op_le op_le (pv 1) (pv 0) (pv 2)))))))), ?_⟩
    refine ⟨_, rfl, _, _, _, _, true, rfl, .ty _, .base (.int _), ki_int_int, ?_⟩
    refine ⟨_, rfl, iteT ?_⟩
    refine ⟨_, rfl, _, _, _, _, false, rfl, .ty _, .base (.int _), ki_int_bool, ?_⟩
    refine ⟨_, rfl, ?_⟩
    refine ⟨_, rfl, iteT ?_⟩
    refine ⟨_, rfl, _, rfl, _, _, rfl, rfl, _, rfl, iteDT h1 ?_⟩
    refine ⟨_, rfl, _, _, rfl, rfl, ?_⟩
    have e : decide (v ≤ b) = true := decide_eq_true h2
    show Q (.bl (decide (v ≤ b))) H
    rw [e]
    exact k

/-! ### is_word -/
def spWord : Sp := fun vs H Q _ => ∃ x : Str, vs = [.str x] ∧ IsWord x ∧ Q (.bl true) H
abbrev s_is_word : Stmt := top 20
theorem sc_is_word : FnScope ["value", "sign"] ["value"] (defScope s_is_word) := ⟨rfl, rfl, rfl, by decide +kernel, rfl, by decide +kernel, by decide +kernel⟩
theorem ok_is_word {f : Addr} {fd : FuncData} (F : Fun K "is_word" "is_word" s_is_word f fd) (T : Blt mg) (G : Glb K w mg) : FnOk P w K mg base CX0 1 f fd ["value"] spWord := by
  refine F.ok sc_is_word (fun vs H Q E h => ?_) (fun cdv A outer s H vs Q E hr h => ?_)
  · obtain ⟨_, rfl, _⟩ := h
    rfl
  · obtain ⟨x, rfl, hx, k⟩ := h
    refine ⟨_, ((pss_cons (ps_if (PW.pt (pw_or (pt_not (pt_val (pe_callB call_isi (by rfl) T.isinstance B_isinstance (pa_cons (pv 0) (pa_cons (pe_bltn (v := .ty "str") (by rfl) T.str B_str rfl) pa_nil))))) (pw_or1 (pt_not (pt_chain op_le op_le pe_int (pe_callB call_len_str (by rfl) T.len B_len (pa_cons (pv 0) pa_nil)) (pe_gc (by rfl) G.MOST_LETTERS)))))) (pss_one (ps_ret pe_bl)) pss_nil)
  (pss_cons (ps_for PassesOwn.never rfl (pi_str (pv 0)) (pg_name (i := 1) sc_is_word.nd rfl (Or.inl rfl))
  (pss_one (ps_if (pt_cmpR op_notIn_sign (pv 1) (pe_gc (by rfl) G.LETTERS) rfl) (pss_one (ps_ret pe_bl)) pss_nil)))
  (pss_one (ps_ret pe_bl))))), ?_⟩
    refine ⟨_, rfl, _, _, _, _, true, rfl, .ty _, .base (.str _), ki_str_str, ?_⟩
    refine ⟨_, rfl, iteF ?_⟩
    have h8 : x.length ≤ sizeLine := Nat.le_trans hx.le (by decide)
    refine ⟨_, rfl, _, rfl, h8, ?_⟩
    refine ⟨_, _, rfl, rfl, _, rfl, iteDT (by have := hx.pos; omega) ?_⟩
    refine ⟨_, _, rfl, rfl, _, rfl, ?_⟩
    have e : decide ((x.length : Int) ≤ 8) = true := decide_eq_true (by have := hx.le; omega)
    rw [e]
    refine iteF ?_
    refine ⟨_, rfl, x, rfl, ?_⟩
    refine for_it walk_str (fun i σ H2 => ∃ u, σ = [some (.str x), u] ∧ H2 = H) ⟨none, rfl, rfl⟩ (fun _ _ _ _ _ => trivial) ?_ ?_
    · rintro i y σ H2 H3 hi ⟨u, rfl, rfl⟩ ⟨rfl, c, hc, rfl⟩
      refine ⟨_, rfl, c, letters, rfl, rfl, _, rfl, ?_⟩
      have e : (!decide (c ∈ letters.cps.toList)) = false := by
        rw [decide_eq_true (hx.all c ?_)]
        · rfl
        · exact Array.mem_toList_iff.mpr (Array.mem_of_getElem? hc)
      rw [e]
      exact iteF ⟨_, rfl, rfl⟩
    · rintro σ H2 ⟨u, rfl, rfl⟩
      exact k

/-! ### fits, fit -/
def spFits : Sp := fun vs H Q _ => ∃ (k : Knd) (x : Key), vs = [kV x, .str k.s] ∧ fitK k x ∧ Q (.bl true) H
theorem Knd.s_ne : ∀ k : Knd, k ≠ .word → ¬ k.s = Knd.word.s := by
  intro k h
  cases k with
  | word => exact absurd rfl h
  | customer => decide +kernel
  | number => decide +kernel
  | buyer => decide +kernel
def Knd.lo : Knd → Int
  | .word => 0
  | .customer => 0
  | .number => 1
  | .buyer => 1
def Knd.hi : Knd → Int
  | .word => 0
  | .customer => 9
  | .number => 999
  | .buyer => 9
theorem fit_int {k : Knd} {x : Key} (h : fitK k x) (n : k ≠ .word) : ∃ i, x = .inl i ∧ k.lo ≤ i ∧ i ≤ k.hi := by
  cases k with
  | word => exact absurd rfl n
  | customer => cases x with
    | inl i => exact ⟨i, rfl, h.1, h.2⟩
    | inr _ => exact h.elim
  | number => cases x with
    | inl i => exact ⟨i, rfl, h.1, h.2⟩
    | inr _ => exact h.elim
  | buyer => cases x with
    | inl i => exact ⟨i, rfl, h.1, h.2⟩
    | inr _ => exact h.elim
theorem fit_word {x : Key} (h : fitK .word x) : ∃ z, x = .inr z ∧ IsWord z := by
  cases x with
  | inl _ => exact h.elim
  | inr z => exact ⟨z, rfl, h⟩
abbrev s_fits : Stmt := top 23
theorem sc_fits : FnScope ["value", "kind", "least", "most"] ["value", "kind"] (defScope s_fits) := ⟨rfl, rfl, rfl, by decide +kernel, rfl, by decide +kernel, by decide +kernel⟩
theorem ok_fits {f : Addr} {fd : FuncData} (F : Fun K "fits" "fits" s_fits f fd) (T : Blt mg) (G : Glb K w mg) (C_is_between : Cal P w K mg base "is_between" 1 spBetween) (C_is_word : Cal P w K mg base "is_word" 1 spWord) : FnOk P w K mg base CX0 2 f fd ["value", "kind"] spFits := by
  refine F.ok sc_fits (fun vs H Q E h => ?_) (fun cdv A outer s H vs Q E hr h => ?_)
  · obtain ⟨_, _, rfl, _⟩ := h
    rfl
  · obtain ⟨k, x, rfl, hx, q⟩ := h
    obtain ⟨aR, esR, nR, hRANGES, DRANGES, r1, r2, r3, r4⟩ := G.RANGES
    refine ⟨_, ((pss_cons (ps_if (pt_cmpR (op_in_kd DRANGES) (pv 1) (pe_gref (by rfl) hRANGES) rfl) (pss_cons (ps_asg (pe_ix ix_kdict (pe_gref (by rfl) hRANGES) (pv 1) (fun _ _ => rfl)) (pg_tup (by rfl) (pgs_cons (pg_name (i := 2) sc_fits.nd rfl (Or.inl rfl)) (pgs_cons (pg_name (i := 3) sc_fits.nd rfl (Or.inl rfl)) pgs_nil))))
  (pss_one (ps_ret (pe_cc C_is_between hr (by decide) (by rfl) (pa_cons (pv 0) (pa_cons (pv 2) (pa_cons (pv 3) pa_nil))))))) pss_nil)
  (pss_cons (ps_if (pt_cmpR op_eq (pv 1) pe_str (nomark _)) (pss_one (ps_ret (pe_cc C_is_word hr (by decide) (by rfl) (pa_cons (pv 0) pa_nil)))) pss_nil)
  pss_never))), ?_⟩
    by_cases hk : k = .word
    · subst hk
      obtain ⟨z, rfl, hz⟩ := fit_word hx
      refine ⟨_, rfl, _, _, rfl, rfl, r1, _, rfl, iteF ?_⟩
      refine ⟨_, rfl, rfl, _, rfl, iteDT rfl ?_⟩
      refine ⟨_, rfl, z, rfl, hz, q⟩
    · obtain ⟨i, rfl, h1, h2⟩ := fit_int hx hk
      have rr : ∃ b, PySem.W.nsIn K aR k.s = some (some (.ref b)) ∧ KT K b [.int k.lo, .int k.hi] := by
        cases k with
        | word => exact absurd rfl hk
        | customer => exact r2
        | number => exact r3
        | buyer => exact r4
      obtain ⟨b, e, kt⟩ := rr
      refine ⟨_, rfl, _, _, rfl, rfl, e, _, rfl, iteT ?_⟩
      refine ⟨_, rfl, _, _, .ref b, rfl, rfl, ⟨esR, nR, _, DRANGES.at_, DRANGES.lit, e, rfl⟩, ?_⟩
      refine ⟨b, _, rfl, kt.sq H, rfl, ?_⟩
      refine ⟨_, _, rfl, _, _, rfl, rfl, ?_⟩
      refine ⟨_, rfl, _, rfl, _, rfl, ?_⟩
      exact ⟨_, _, _, rfl, h1, h2, q⟩
def spFit (K : PySem.W.Frag) : Sp := fun vs H Q _ => ∃ (a b : Addr) (r : List Key) (ks : List Knd), vs = [.ref a, .ref b] ∧ SqT K H a (r.map kV) ∧ SqT K H b (ks.map fun k => .str k.s) ∧ Paired fitK ks r ∧ r.length ≤ 100 ∧ ∀ H', Bt [] H H' → Q (.bl true) H'
abbrev s_fit : Stmt := top 24
theorem sc_fit : FnScope ["values", "kinds", "value", "kind"] ["values", "kinds"] (defScope s_fit) := ⟨rfl, rfl, rfl, by decide +kernel, rfl, by decide +kernel, by decide +kernel⟩
theorem ok_fit {f : Addr} {fd : FuncData} (F : Fun K "fit" "fit" s_fit f fd) (T : Blt mg) (C_fits : Cal P w K mg base "fits" 2 spFits) : FnOk P w K mg base CX0 3 f fd ["values", "kinds"] (spFit K) := by
  refine F.ok sc_fit (fun vs H Q E h => ?_) (fun cdv A outer s H vs Q E hr h => ?_)
  · obtain ⟨_, _, _, _, rfl, _⟩ := h
    rfl
  · obtain ⟨a, b, r, ks, rfl, ha, hb, hf, hl, q⟩ := h
    have el : r.length = ks.length := (Paired.length hf).symm
    refine ⟨_, ((pss_cons (ps_if (pt_cmpR op_ne (pe_callB call_len_seq (by rfl) T.len B_len (pa_cons (pv 0) pa_nil)) (pe_callB call_len_seq (by rfl) T.len B_len (pa_cons (pv 1) pa_nil)) (nomark _)) (pss_one (ps_ret pe_bl)) pss_nil)
  (pss_cons (ps_for PassesOwn.never rfl (RZ.pi_zipA (by rfl) T.zip (pa_cons (pv 0) (pa_cons (pv 1) pa_nil))) (pg_tup (by rfl) (pgs_cons (pg_name (i := 2) sc_fit.nd rfl (Or.inl rfl)) (pgs_cons (pg_name (i := 3) sc_fit.nd rfl (Or.inl rfl)) pgs_nil)))
  (pss_one (ps_if (pt_not (pt_val (pe_cc C_fits hr (by decide) (by rfl) (pa_cons (pv 2) (pa_cons (pv 3) pa_nil))))) (pss_one (ps_ret pe_bl)) pss_nil)))
  (pss_one (ps_ret pe_bl))))), ?_⟩
    refine ⟨_, rfl, _, _, rfl, .inr ha, ?_⟩
    refine ⟨_, rfl, _, _, rfl, .inr hb, ?_⟩
    refine ⟨rfl, _, rfl, ?_⟩
    refine iteNS (by rw [List.length_map, List.length_map, el]) ?_
    refine ⟨_, rfl, _, rfl, a, b, _, _, rfl, .inr ⟨ha, hb, ?_⟩⟩
    refine RZ.for_zipT (xs := r.map kV) (ys := ks.map fun k => V.str k.s) (by rw [List.length_map, List.length_map, el]) (fun i σ H2 => ∃ u v, σ = [some (.ref a), some (.ref b), u, v] ∧ Bt [] H H2) ⟨none, none, rfl, Bt.refl⟩ (fun i σ H2 hp => ?_) ?_ ?_
    · obtain ⟨_, _, _, b2⟩ := hp
      exact ⟨b2.sqT ha, b2.sqT hb⟩
    · rintro i x y t σ H2 hx hy ⟨u, v, rfl, b2⟩ ht
      rw [List.getElem?_map] at hx hy
      cases ex : r[i]? with
      | none => rw [ex] at hx; cases hx
      | some xk =>
      cases ey : ks[i]? with
      | none => rw [ey] at hy; cases hy
      | some yk =>
      rw [ex] at hx
      rw [ey] at hy
      cases hx
      cases hy
      refine ⟨t, _, rfl, .inl (.inl upd_same), rfl, ?_⟩
      refine ⟨_, _, rfl, _, _, rfl, rfl, ?_⟩
      have hfit : fitK yk xk := by
        obtain ⟨z, e1, e2⟩ := paired_get hf ey
        rw [ex] at e1
        cases e1
        exact e2
      refine ⟨_, rfl, _, rfl, yk, xk, rfl, hfit, ?_⟩
      refine ⟨_, rfl, iteF ?_⟩
      exact ⟨_, _, rfl, b2.trans (Bt.new ht)⟩
    · rintro σ H2 ⟨u, v, rfl, b2⟩
      exact q H2 b2

/-! ### is_id, has_name, is_key .. -/
structure IdOk (k : List Key) : Prop where
  sh : ∃ c n : Int, k = [.inl c, .inl n] ∧ 0 ≤ c ∧ c ≤ 9 ∧ 1 ≤ n ∧ n ≤ 999
def spIsId : Sp := fun vs H Q _ => ∃ (a : Addr) (k : List Key), vs = [.ref a] ∧ H a = some (.tup (k.map kV)) ∧ IdOk k ∧ ∀ H', Bt [] H H' → Q (.bl true) H'
abbrev s_is_id : Stmt := top 21
theorem sc_is_id : FnScope ["value"] ["value"] (defScope s_is_id) := ⟨rfl, rfl, rfl, by decide +kernel, rfl, by decide +kernel, by decide +kernel⟩
theorem ok_is_id {f : Addr} {fd : FuncData} (F : Fun K "is_id" "is_id" s_is_id f fd) (T : Blt mg) (C_fit : Cal P w K mg base "fit" 3 (spFit K)) : FnOk P w K mg base CX0 4 f fd ["value"] spIsId := by
  refine F.ok sc_is_id (fun vs H Q E h => ?_) (fun cdv A outer s H vs Q E hr h => ?_)
  · obtain ⟨_, _, rfl, _⟩ := h
    rfl
  · obtain ⟨a, k, rfl, ha, ⟨c, n, rfl, c0, c9, n1, n9⟩, q⟩ := h
    refine ⟨_, ((pss_one (ps_ret (pe_and (pe_callB call_isi (by rfl) T.isinstance B_isinstance (pa_cons (pv 0) (pa_cons (pe_bltn (v := .ty "tuple") (by rfl) T.tuple B_tuple rfl) pa_nil))) (pe_one (pe_cc C_fit hr (by decide) (by rfl) (pa_cons (pv 0) (pa_cons (pe_tup (pa_cons pe_str (pa_cons pe_str pa_nil))) pa_nil)))))))), ?_⟩
    refine ⟨_, rfl, _, _, _, _, true, rfl, .ty _, .base (.tup ha), ki_tuple_tuple, ?_⟩
    refine ⟨_, rfl, iteT ?_⟩
    refine ⟨_, rfl, (by show 2 ≤ sizeLine; decide), fun p1 n1' => ?_⟩
    generalize e1 : upd _ p1 _ = H1
    obtain ⟨S1, h1⟩ := new_of e1 n1'
    clear e1
    exact ⟨a, p1, [.inl c, .inl n], [.customer, .number], rfl, .inl (.inl (S1.tup _ _ ha)), .inl (.inl h1), .cons ⟨c0, c9⟩ (.cons ⟨n1, n9⟩ .nil), (by show 2 ≤ 100; decide), fun H2 S2 => q H2 (S1.trans S2)⟩
def spHasName : Sp := fun vs H Q _ => ∃ (h : Int) (n : Nm), vs = [.int h, .str n.s] ∧ n.at h ∧ Q (.bl true) H
theorem in_office (n : Nm) : inV (.str n.s) [.str Nm.price.s, .str Nm.rate.s, .str Nm.coupon.s, .str Nm.order.s, .str Nm.road.s, .str Nm.away.s] = n.office := by cases n <;> decide +kernel
theorem in_store (n : Nm) : inV (.str n.s) [.str Nm.came.s, .str Nm.free.s, .str Nm.held.s, .str Nm.out.s] = n.store := by cases n <;> decide +kernel
theorem in_recs (n : Nm) : inV (.str n.s) [.str Nm.price.s, .str Nm.rate.s, .str Nm.coupon.s, .str Nm.order.s, .str Nm.road.s] = n.isRec := by cases n <;> decide +kernel
abbrev s_has_name : Stmt := top 25
theorem sc_has_name : FnScope ["house", "name"] ["house", "name"] (defScope s_has_name) := ⟨rfl, rfl, rfl, by decide +kernel, rfl, by decide +kernel, by decide +kernel⟩
theorem ok_has_name {f : Addr} {fd : FuncData} (F : Fun K "has_name" "has_name" s_has_name f fd) (G : Glb K w mg) : FnOk P w K mg base CX0 1 f fd ["house", "name"] spHasName := by
  refine F.ok sc_has_name (fun vs H Q E h => ?_) (fun cdv A outer s H vs Q E hr h => ?_)
  · obtain ⟨_, _, rfl, _⟩ := h
    rfl
  · obtain ⟨h, n, rfl, hn, q⟩ := h
    obtain ⟨aO, hOFFICE_NAMES, kO⟩ := G.OFFICE_NAMES
    obtain ⟨aN, hSTORE_NAMES, kN⟩ := G.STORE_NAMES
    obtain ⟨aS, hSTORES, kS⟩ := G.STORES
    refine ⟨_, ((pss_cons (ps_if (pt_cmpR (op_in_seqK (K := K) rfl) (pv 1) (pe_gref (by rfl) hOFFICE_NAMES) rfl) (pss_one (ps_ret (pe_cmpR op_eq (pv 0) (pe_gc (by rfl) G.OFFICE) (nomark _)))) pss_nil)
  (pss_cons (ps_if (pt_cmpR (op_in_seqK (K := K) rfl) (pv 1) (pe_gref (by rfl) hSTORE_NAMES) rfl) (pss_one (ps_ret (pe_cmpR (op_in_seqK (K := K) rfl) (pv 0) (pe_gref (by rfl) hSTORES) rfl))) pss_nil)
  (pss_one (ps_ret (pe_cmpR op_eq (pv 0) (pe_gc (by rfl) G.BANK) (nomark _))))))), ?_⟩
    refine ⟨_, rfl, aO, _, rfl, .inr (kO.sq H), rfl, rfl, _, rfl, ?_⟩
    refine ite1 (fun e => ?_) (fun e => ?_)
    · have eo : n.office = true := (in_office n).symm.trans e
      have eh : h = 1 := by
        rcases hn with ⟨_, e⟩ | ⟨e, _⟩ | ⟨e, _⟩
        · exact e
        · exfalso
          revert eo e
          cases n <;> decide
        · rw [eo] at e
          cases e
      refine ⟨_, rfl, rfl, ?_⟩
      subst eh
      exact q
    · have eo : n.office = false := (in_office n).symm.trans e
      refine ⟨_, rfl, aN, _, rfl, .inr (kN.sq H), rfl, rfl, _, rfl, ?_⟩
      refine ite1 (fun e => ?_) (fun e => ?_)
      · have es : n.store = true := (in_store n).symm.trans e
        refine ⟨_, rfl, aS, _, rfl, .inr (kS.sq H), rfl, rfl, ?_⟩
        have hh : 2 ≤ h ∧ h ≤ 4 := by
          rcases hn with ⟨e, _⟩ | ⟨_, e⟩ | ⟨_, e, _⟩
          · rw [eo] at e
            cases e
          · exact e
          · rw [es] at e
            cases e
        have ei : inV (.int h) [.int 2, .int 3, .int 4] = true := by
          have : h = 2 ∨ h = 3 ∨ h = 4 := by omega
          rcases this with z | z | z <;> subst z <;> decide
        show Q (.bl (inV (.int h) [.int 2, .int 3, .int 4])) H
        rw [ei]
        exact q
      · have es : n.store = false := (in_store n).symm.trans e
        have eh : h = 5 := by
          rcases hn with ⟨e, _⟩ | ⟨e, _⟩ | ⟨_, _, e⟩
          · rw [eo] at e
            cases e
          · rw [es] at e
            cases e
          · exact e
        refine ⟨_, rfl, rfl, ?_⟩
        subst eh
        exact q
def spIsKey : Sp := fun vs H Q _ => ∃ (a : Addr) (h : Int) (k : List Key), vs = [.ref a] ∧ H a = some (.tup (k.map kV)) ∧ KeyOk h k ∧ ∀ H', Bt [] H H' → Q (.bl true) H'
theorem Nm.at_rng {n : Nm} {h : Int} (x : n.at h) : 1 ≤ h ∧ h ≤ 5 := by
  rcases x with ⟨_, e⟩ | ⟨_, e⟩ | ⟨_, _, e⟩ <;> omega
theorem Nm.parts_le (n : Nm) : n.parts.length ≤ 2 := by cases n <;> decide
abbrev s_is_key : Stmt := top 26
theorem sc_is_key : FnScope ["value"] ["value"] (defScope s_is_key) := ⟨rfl, rfl, rfl, by decide +kernel, rfl, by decide +kernel, by decide +kernel⟩
theorem ok_is_key {f : Addr} {fd : FuncData} (F : Fun K "is_key" "is_key" s_is_key f fd) (T : Blt mg) (G : Glb K w mg) (C_fit : Cal P w K mg base "fit" 3 (spFit K)) (C_is_between : Cal P w K mg base "is_between" 1 spBetween) (C_has_name : Cal P w K mg base "has_name" 1 spHasName) :
    FnOk P w K mg base CX0 4 f fd ["value"] spIsKey := by
  refine F.ok sc_is_key (fun vs H Q E h => ?_) (fun cdv A outer s H vs Q E hr h => ?_)
  · obtain ⟨_, _, _, rfl, _⟩ := h
    rfl
  · obtain ⟨a, h, k, rfl, ha, ⟨n, r, rfl, hn, hf⟩, q⟩ := h
    obtain ⟨aP, esP, nP, hKEY_PARTS, DKEY_PARTS, kp⟩ := G.KEY_PARTS
    obtain ⟨b, en, kb⟩ := kp n
    have hl : r.length ≤ 2 := by rw [← Paired.length hf]; exact n.parts_le
    obtain ⟨h1, h5⟩ := Nm.at_rng hn
    have hq : SqT K H a ((Sum.inl h :: Sum.inr n.s :: r).map kV) := .inl (.inl ha)
    refine ⟨_, ((pss_cons (ps_if (PW.pt (pw_or (pt_not (pt_val (pe_callB call_isi (by rfl) T.isinstance B_isinstance (pa_cons (pv 0) (pa_cons (pe_bltn (v := .ty "tuple") (by rfl) T.tuple B_tuple rfl) pa_nil))))) (pw_or (pt_cmpR op_lt (pe_callB call_len_seq (by rfl) T.len B_len (pa_cons (pv 0) pa_nil)) pe_int (nomark _)) (pw_or1 (pt_not (pt_val (pe_callB call_isi (by rfl) T.isinstance B_isinstance (pa_cons (pe_ix (ix_tupK (K := K) rfl) (pv 0) pe_int (fun _ _ => rfl)) (pa_cons (pe_bltn (v := .ty "str") (by rfl) T.str B_str rfl) pa_nil))))))))) (pss_one (ps_ret pe_bl)) pss_nil)
  (pss_cons (ps_if (PW.pt (pw_or (pt_cmpR (op_notIn_kd DKEY_PARTS) (pe_ix (ix_tupK (K := K) rfl) (pv 0) pe_int (fun _ _ => rfl)) (pe_gref (by rfl) hKEY_PARTS) rfl) (pw_or1 (pt_not (pt_val (pe_cc C_fit hr (by decide) (by rfl) (pa_cons (pe_slice sl_tupA (pv 0) (po_some pe_int) po_none) (pa_cons (pe_ix ix_kdict (pe_gref (by rfl) hKEY_PARTS) (pe_ix (ix_tupK (K := K) rfl) (pv 0) pe_int (fun _ _ => rfl)) (fun _ _ => rfl)) pa_nil)))))))) (pss_one (ps_ret pe_bl)) pss_nil)
  (pss_one (ps_ret (pe_and (pe_cc C_is_between hr (by decide) (by rfl) (pa_cons (pe_ix (ix_tupK (K := K) rfl) (pv 0) pe_int (fun _ _ => rfl)) (pa_cons (pe_gc (by rfl) G.OFFICE) (pa_cons (pe_gc (by rfl) G.BANK) pa_nil)))) (pe_one (pe_cc C_has_name hr (by decide) (by rfl) (pa_cons (pe_ix (ix_tupK (K := K) rfl) (pv 0) pe_int (fun _ _ => rfl)) (pa_cons (pe_ix (ix_tupK (K := K) rfl) (pv 0) pe_int (fun _ _ => rfl)) pa_nil)))))))))), ?_⟩
    refine ⟨_, rfl, _, _, _, _, true, rfl, .ty _, .base (.tup ha), ki_tuple_tuple, ?_⟩
    refine ⟨_, rfl, iteF ?_⟩
    refine ⟨_, rfl, _, _, rfl, .inr hq, ?_⟩
    refine ⟨_, _, rfl, rfl, _, rfl, iteDF (by rw [List.length_map, List.length_cons, List.length_cons]; omega) ?_⟩
    refine ⟨_, rfl, a, _, _, _, rfl, rfl, hq, atI_nat (j := 1) rfl, ?_⟩
    refine ⟨_, _, _, _, true, rfl, .ty _, .base (.str _), ki_str_str, ?_⟩
    refine ⟨_, rfl, iteF ?_⟩
    refine ⟨_, rfl, a, _, _, _, rfl, rfl, hq, atI_nat (j := 1) rfl, ?_⟩
    refine ⟨_, _, rfl, rfl, en, _, rfl, iteF ?_⟩
    refine ⟨_, rfl, _, rfl, a, _, rfl, hq, (fun z => absurd z.1 ?_), fun _ p1 n1 => ?_⟩
    · have e : HT.sIx (((Sum.inl h :: Sum.inr n.s :: r : List Key).map kV).length) 0 (some 2) = min 2 (((Sum.inl h :: Sum.inr n.s :: r : List Key).map kV).length) := HT.sIx_nat _ _ 2
      rw [e, List.length_map, List.length_cons, List.length_cons]
      omega
    have ec : cutV ((Sum.inl h :: Sum.inr n.s :: r : List Key).map kV) (some 2) none = r.map kV := by
      unfold cutV
      have e : HT.sIx (((Sum.inl h :: Sum.inr n.s :: r : List Key).map kV).length) 0 (some 2) = min 2 (((Sum.inl h :: Sum.inr n.s :: r : List Key).map kV).length) := HT.sIx_nat _ _ 2
      rw [e, HT.sIx_none, List.length_map, List.length_cons, List.length_cons]
      have e2 : min 2 (r.length + 1 + 1) = 2 := by omega
      rw [e2]
      show (r.map kV).take (r.length + 1 + 1 - 2) = r.map kV
      rw [List.take_of_length_le]
      rw [List.length_map]
      omega
    rw [ec]
    generalize e1 : upd _ p1 _ = H1
    obtain ⟨S1, g1⟩ := new_of e1 n1
    clear e1
    have hq1 : SqT K H1 a ((Sum.inl h :: Sum.inr n.s :: r).map kV) := .inl (.inl (S1.tup _ _ ha))
    refine ⟨_, rfl, a, _, _, _, rfl, rfl, hq1, atI_nat (j := 1) rfl, ?_⟩
    refine ⟨_, _, .ref b, rfl, rfl, ⟨esP, nP, _, DKEY_PARTS.at_, DKEY_PARTS.lit, en, rfl⟩, ?_⟩
    refine ⟨p1, b, r, n.parts, rfl, .inl (.inl g1), kb.sq H1, hf, by omega, fun H2 S2 => ?_⟩
    refine ⟨_, rfl, iteF ?_⟩
    have hq2 : SqT K H2 a ((Sum.inl h :: Sum.inr n.s :: r).map kV) := .inl (.inl (S2.tup _ _ (S1.tup _ _ ha)))
    refine ⟨_, rfl, a, _, _, _, rfl, rfl, hq2, atI_nat (j := 0) rfl, ?_⟩
    refine ⟨h, 1, 5, rfl, h1, h5, ?_⟩
    refine ⟨_, rfl, iteT ?_⟩
    refine ⟨_, rfl, a, _, _, _, rfl, rfl, hq2, atI_nat (j := 0) rfl, ?_⟩
    refine ⟨_, rfl, a, _, _, _, rfl, rfl, hq2, atI_nat (j := 1) rfl, ?_⟩
    exact ⟨h, n, rfl, hn, q H2 (S1.trans S2)⟩

def spIsKeyOf : Sp := fun vs H Q _ => ∃ (a : Addr) (h : Int) (k : List Key), vs = [.int h, .ref a] ∧ H a = some (.tup (k.map kV)) ∧ KeyOk h k ∧ ∀ H', Bt [] H H' → Q (.bl true) H'
abbrev s_is_key_of : Stmt := top 27
theorem sc_is_key_of : FnScope ["house", "value"] ["house", "value"] (defScope s_is_key_of) := ⟨rfl, rfl, rfl, by decide +kernel, rfl, by decide +kernel, by decide +kernel⟩
theorem ok_is_key_of {f : Addr} {fd : FuncData} (F : Fun K "is_key_of" "is_key_of" s_is_key_of f fd) (C_is_key : Cal P w K mg base "is_key" 4 spIsKey) : FnOk P w K mg base CX0 5 f fd ["house", "value"] spIsKeyOf := by
  refine F.ok sc_is_key_of (fun vs H Q E h => ?_) (fun cdv A outer s H vs Q E hr h => ?_)
  · obtain ⟨_, _, _, rfl, _⟩ := h
    rfl
  · obtain ⟨a, h, k, rfl, ha, hk, q⟩ := h
    refine ⟨_, ((pss_one (ps_ret (pe_and (pe_cc C_is_key hr (by decide) (by rfl) (pa_cons (pv 1) pa_nil)) (pe_one (pe_cmpR op_eq (pe_ix (ix_tupK (K := K) rfl) (pv 1) pe_int (fun _ _ => rfl)) (pv 0) (nomark _))))))), ?_⟩
    refine ⟨_, rfl, a, h, k, rfl, ha, hk, fun H1 S1 => ?_⟩
    refine ⟨_, rfl, iteT ?_⟩
    obtain ⟨n, r, rfl, hn, hf⟩ := hk
    have hq : SqT K H1 a ((Sum.inl h :: Sum.inr n.s :: r).map kV) := .inl (.inl (S1.tup _ _ ha))
    refine ⟨_, rfl, a, _, _, _, rfl, rfl, hq, atI_nat (j := 0) rfl, ?_⟩
    refine ⟨_, rfl, rfl, ?_⟩
    show Q (.bl (decide (V.int h = V.int h))) H1
    rw [decide_eq_true rfl]
    exact q H1 S1

/-! ### amounts, first values -/
def nmOf : List Key → Str
  | _ :: .inr s :: _ => s
  | _ => Str.ofString ""
abbrev recV : List V := [.str Nm.price.s, .str Nm.rate.s, .str Nm.coupon.s, .str Nm.order.s, .str Nm.road.s]
def amt (k : List Key) : Bool := !inV (.str (nmOf k)) recV
def fst0 (k : List Key) : Bool := amt k || decide (nmOf k = Nm.rate.s)
def fv (k : List Key) : PyData := if fst0 k = true then .int 0 else .none
def fvV (k : List Key) : V := if fst0 k = true then .int 0 else .non
theorem td_fv (H : Hp) (k : List Key) : Td H (fvV k) (fv k) := by
  unfold fvV fv
  split
  · exact .int 0
  · exact .non
theorem KeyN.nm {h : Int} {n : Nm} {r k : List Key} (x : KeyN h n r k) : nmOf k = n.s := by
  rw [x.eq]
  rfl
theorem KeyN.amt {h : Int} {n : Nm} {r k : List Key} (x : KeyN h n r k) : amt k = !n.isRec := by
  unfold K33.amt
  rw [x.nm, in_recs]
def spIsAmount : Sp := fun vs H Q _ => ∃ (a : Addr) (h : Int) (k : List Key), vs = [.ref a] ∧ H a = some (.tup (k.map kV)) ∧ KeyOk h k ∧ ∀ H', Bt [] H H' → Q (.bl (amt k)) H'
abbrev s_is_amount : Stmt := top 28
theorem sc_is_amount : FnScope ["key"] ["key"] (defScope s_is_amount) := ⟨rfl, rfl, rfl, by decide +kernel, rfl, by decide +kernel, by decide +kernel⟩
theorem ok_is_amount {f : Addr} {fd : FuncData} (F : Fun K "is_amount" "is_amount" s_is_amount f fd) (G : Glb K w mg) (C_is_key : Cal P w K mg base "is_key" 4 spIsKey) : FnOk P w K mg base CX0 5 f fd ["key"] spIsAmount := by
  refine F.ok sc_is_amount (fun vs H Q E h => ?_) (fun cdv A outer s H vs Q E hr h => ?_)
  · obtain ⟨_, _, _, rfl, _⟩ := h
    rfl
  · obtain ⟨a, h, k, rfl, ha, hk, q⟩ := h
    obtain ⟨aR, hRECORD_NAMES, kR⟩ := G.RECORD_NAMES
    refine ⟨_, ((pss_cons (ps_if (pt_not (pt_val (pe_cc C_is_key hr (by decide) (by rfl) (pa_cons (pv 0) pa_nil)))) (pss_one ps_never) pss_nil)
  (pss_one (ps_ret (pe_cmpR (op_notIn_seqK (K := K) rfl) (pe_ix (ix_tupK (K := K) rfl) (pv 0) pe_int (fun _ _ => rfl)) (pe_gref (by rfl) hRECORD_NAMES) rfl))))), ?_⟩
    refine ⟨_, rfl, a, h, k, rfl, ha, hk, fun H1 S1 => ?_⟩
    refine ⟨_, rfl, iteF ?_⟩
    obtain ⟨n, r, rfl, hn, hf⟩ := hk
    have hq : SqT K H1 a ((Sum.inl h :: Sum.inr n.s :: r).map kV) := .inl (.inl (S1.tup _ _ ha))
    refine ⟨_, rfl, a, _, _, _, rfl, rfl, hq, atI_nat (j := 1) rfl, ?_⟩
    refine ⟨aR, _, rfl, .inr (kR.sq H1), rfl, rfl, ?_⟩
    exact q H1 S1
def spFirst : Sp := fun vs H Q _ => ∃ (a : Addr) (h : Int) (k : List Key), vs = [.ref a] ∧ H a = some (.tup (k.map kV)) ∧ KeyOk h k ∧ ∀ H', Bt [] H H' → Q (fvV k) H'
abbrev s_first_value : Stmt := top 29
theorem sc_first_value : FnScope ["key"] ["key"] (defScope s_first_value) := ⟨rfl, rfl, rfl, by decide +kernel, rfl, by decide +kernel, by decide +kernel⟩
theorem ok_first_value {f : Addr} {fd : FuncData} (F : Fun K "first_value" "first_value" s_first_value f fd) (C_is_amount : Cal P w K mg base "is_amount" 5 spIsAmount) : FnOk P w K mg base CX0 6 f fd ["key"] spFirst := by
  refine F.ok sc_first_value (fun vs H Q E h => ?_) (fun cdv A outer s H vs Q E hr h => ?_)
  · obtain ⟨_, _, _, rfl, _⟩ := h
    rfl
  · obtain ⟨a, h, k, rfl, ha, hk, q⟩ := h
    refine ⟨_, ((pss_cons (ps_if (PW.pt (pw_or (pt_val (pe_cc C_is_amount hr (by decide) (by rfl) (pa_cons (pv 0) pa_nil))) (pw_or1 (pt_cmpR op_eq (pe_ix (ix_tupK (K := K) rfl) (pv 0) pe_int (fun _ _ => rfl)) pe_str (nomark _))))) (pss_one (ps_ret pe_int)) pss_nil)
  (pss_one (ps_ret pe_non)))), ?_⟩
    refine ⟨_, rfl, a, h, k, rfl, ha, hk, fun H1 S1 => ?_⟩
    have q1 := q H1 S1
    unfold fvV fst0 at q1
    refine ⟨_, rfl, ite1 (fun e => ?_) (fun e => ?_)⟩
    · rw [e] at q1
      refine iteT ?_
      exact q1
    · rw [e] at q1
      obtain ⟨n, r, rfl, hn, hf⟩ := hk
      have hq : SqT K H1 a ((Sum.inl h :: Sum.inr n.s :: r).map kV) := .inl (.inl (S1.tup _ _ ha))
      refine ⟨_, rfl, a, _, _, _, rfl, rfl, hq, atI_nat (j := 1) rfl, ?_⟩
      refine ⟨rfl, _, rfl, ?_⟩
      have ee : nmOf (Sum.inl h :: Sum.inr n.s :: r) = n.s := rfl
      rw [ee] at q1
      by_cases hz : n.s = Nm.rate.s
      · rw [decide_eq_true hz] at q1
        refine iteDT (congrArg V.str hz) ?_
        exact q1
      · rw [decide_eq_false hz] at q1
        refine iteDF (fun z => hz (V.str.inj z)) ?_
        exact q1
def spValueIn : Sp := fun vs H Q _ => ∃ (d a : Addr) (h : Int) (k : List Key) (vals : Vs), vs = [.ref d, .ref a] ∧ DictAt H d vals ∧ H a = some (.tup (k.map kV)) ∧ KeyOk h k ∧ ∀ v H', Bt [] H H' → Td H' v ((gt vals k).getD (fv k)) → Q v H'
abbrev s_value_in : Stmt := top 30
theorem sc_value_in : FnScope ["values", "key"] ["values", "key"] (defScope s_value_in) := ⟨rfl, rfl, rfl, by decide +kernel, rfl, by decide +kernel, by decide +kernel⟩
theorem ok_value_in {f : Addr} {fd : FuncData} (F : Fun K "value_in" "value_in" s_value_in f fd) (C_first_value : Cal P w K mg base "first_value" 6 spFirst) : FnOk P w K mg base CX0 7 f fd ["values", "key"] spValueIn := by
  refine F.ok sc_value_in (fun vs H Q E h => ?_) (fun cdv A outer s H vs Q E hr h => ?_)
  · obtain ⟨_, _, _, _, _, rfl, _⟩ := h
    rfl
  · obtain ⟨d, a, h, k, vals, rfl, hd, ha, hk, q⟩ := h
    have hu := hu_of hr
    obtain ⟨o, g, ho⟩ := hd.get ha
    refine ⟨_, ((pss_cons (ps_if (pt_cmp (pc_din hu (pv 1) (pv 0))) (pss_one (ps_ret (pe_dget hu (pv 0) (pv 1) (fun _ _ => rfl)))) pss_nil)
  (pss_one (ps_ret (pe_cc C_first_value hr (by decide) (by rfl) (pa_cons (pv 1) pa_nil)))))), ?_⟩
    refine ⟨_, rfl, _, rfl, d, o, rfl, g, _, rfl, ?_⟩
    rcases ho with ⟨rfl, e⟩ | ⟨v, x, rfl, e, t⟩
    · refine iteF ?_
      refine ⟨_, rfl, a, h, k, rfl, ha, hk, fun H1 S1 => ?_⟩
      refine q _ H1 S1 ?_
      rw [e]
      exact td_fv H1 k
    · refine iteT ?_
      refine ⟨_, rfl, _, rfl, d, v, rfl, g, ?_⟩
      refine q _ H Bt.refl ?_
      rw [e]
      exact t
end
end K33

/-! K5: comprehensions over data; carry_out, pairs_of -/
namespace K33
open PySem L2

theorem sz_lt {n : Nat} (h : n ≤ 1000000) : n < sizeLine := Nat.lt_of_le_of_lt h (by decide)
theorem sz_le {n : Nat} (h : n ≤ 1000000) : n ≤ sizeLine := Nat.le_of_lt (sz_lt h)
theorem Bt.put_new {H1 H4 : Hp} {D : Addr} {o : HO} (n0 : H1 D = none) (b : Bt [] H1 H4) : Bt [] H1 (upd H4 D o) :=
  ⟨fun a u _ e => by rw [upd_ne (ne_of_none e n0)]; exact b.at e, fun a xs e => by rw [upd_ne (ne_of_none e n0)]; exact b.tup a xs e⟩
/-- a comprehension whose elements are data: ds i is what is made of the first i -/
theorem lcD {J : It} {xs : List V} {G : Hp → Prop} (wk : Walk J xs.length G (YAt xs)) {g : TG} {tt : TT} {te : TE} {vs : List Nat} {σ : L2.St} {H1 : Hp} {D : Addr} {Qd : Hp → Prop} (n0 : H1 D = none) (hG : ∀ H, Bt [] H1 H → G H) (hz : xs.length ≤ 100000) (ds : Nat → List PyData) (h0 : ds 0 = [])
    (hs : ∀ i x H', xs[i]? = some x → Bt [] H1 H' → ∀ (N1 : V → Hp → Prop) (N2 : Hp → Prop), (∀ y H4 d, Bt [] H' H4 → Td H4 y d → ds (i + 1) = ds i ++ [d] → N1 y H4) → (∀ H3, Bt [] H' H3 → ds (i + 1) = ds i → N2 H3) →
      g x (wipe σ vs) H' fun σ2 H2 => wipe σ2 vs = wipe σ vs ∧ tt σ2 H2 fun b H3 => if b = true then te σ2 H3 N1 else N2 H3)
    (hd : ∀ H2 ys, Bt [] H1 H2 → H2 D = some (.lst ys) → TdA H2 ys (ds xs.length) → Qd H2) :
    ∃ W : Nat → Nat → Hp → Prop, (∃ m, W 0 m (upd H1 D (.lst []))) ∧ ∀ i m H, W i m H →
      (J.stop i H ∧ Qd H) ∨ (J.go i H ∧ ∃ Nx : Hp → Prop, (∀ H', Nx H' → ∃ m', m' < m ∧ W (i + 1) m' H') ∧ ∀ x H', J.yld i H x H' → g x (wipe σ vs) H' fun σ2 H2 => wipe σ2 vs = wipe σ vs ∧ tt σ2 H2 fun b H3 =>
        if b = true then te σ2 H3 fun y H4 => ∃ acc, H4 D = some (.lst acc) ∧ acc.length < sizeLine ∧ Nx (upd H4 D (.lst (acc ++ [y]))) else Nx H3) := by
  refine lc_it wk (fun i H => i ≤ xs.length ∧ Bt [] H1 H ∧ ∃ ys, H D = some (.lst ys) ∧ TdA H ys (ds i) ∧ ys.length ≤ i) ?_ (fun i H _ p => hG H p.2.1) ?_ ?_
  · exact ⟨Nat.zero_le _, Bt.new n0, [], upd_same, by rw [h0]; exact .nil, Nat.le_refl _⟩
  · rintro i x H H' hi ⟨_, b, ys, hD, t, hl⟩ ⟨rfl, hx⟩
    refine hs i x H' hx b _ _ (fun y H4 d b4 td e => ?_) (fun H3 b3 e => ?_)
    · have hD4 := b4.at hD
      refine ⟨ys, hD4, sz_lt (by omega), by omega, (b.trans b4).put_new n0, ys ++ [y], upd_same, ?_, by rw [List.length_append, List.length_singleton]; omega⟩
      rw [e]
      exact ((t.bt b4).snoc td).bt (Bt.mut (o' := .lst (ys ++ [y])) hD4 trivial)
    · refine ⟨by omega, b.trans b3, ys, b3.at hD, ?_, by omega⟩
      rw [e]
      exact t.bt b3
  · rintro H ⟨_, b, ys, hD, t, _⟩
    exact hd H ys b hD t

/-- the same where the elements are told as they are -/
theorem lcX {J : It} {xs : List V} {G : Hp → Prop} (wk : Walk J xs.length G (YAt xs)) {g : TG} {tt : TT} {te : TE} {vs : List Nat} {σ : L2.St} {H1 : Hp} {D : Addr} {Qd : Hp → Prop} (n0 : H1 D = none) (hG : ∀ H, Bt [] H1 H → G H) (hz : xs.length ≤ 100000) (zs : Nat → List V) (h0 : zs 0 = [])
    (hs : ∀ i x H', xs[i]? = some x → Bt [] H1 H' → ∀ (N1 : V → Hp → Prop) (N2 : Hp → Prop), (∀ y H4, Bt [] H' H4 → zs (i + 1) = zs i ++ [y] → N1 y H4) → (∀ H3, Bt [] H' H3 → zs (i + 1) = zs i → N2 H3) →
      g x (wipe σ vs) H' fun σ2 H2 => wipe σ2 vs = wipe σ vs ∧ tt σ2 H2 fun b H3 => if b = true then te σ2 H3 N1 else N2 H3)
    (hd : ∀ H2, Bt [] H1 H2 → H2 D = some (.lst (zs xs.length)) → Qd H2) :
    ∃ W : Nat → Nat → Hp → Prop, (∃ m, W 0 m (upd H1 D (.lst []))) ∧ ∀ i m H, W i m H →
      (J.stop i H ∧ Qd H) ∨ (J.go i H ∧ ∃ Nx : Hp → Prop, (∀ H', Nx H' → ∃ m', m' < m ∧ W (i + 1) m' H') ∧ ∀ x H', J.yld i H x H' → g x (wipe σ vs) H' fun σ2 H2 => wipe σ2 vs = wipe σ vs ∧ tt σ2 H2 fun b H3 =>
        if b = true then te σ2 H3 fun y H4 => ∃ acc, H4 D = some (.lst acc) ∧ acc.length < sizeLine ∧ Nx (upd H4 D (.lst (acc ++ [y]))) else Nx H3) := by
  refine lc_it wk (fun i H => i ≤ xs.length ∧ Bt [] H1 H ∧ H D = some (.lst (zs i)) ∧ (zs i).length ≤ i) ?_ (fun i H _ p => hG H p.2.1) ?_ ?_
  · exact ⟨Nat.zero_le _, Bt.new n0, by rw [h0]; exact upd_same, by rw [h0]; exact Nat.le_refl _⟩
  · rintro i x H H' hi ⟨_, b, hD, hl⟩ ⟨rfl, hx⟩
    refine hs i x H' hx b _ _ (fun y H4 b4 e => ?_) (fun H3 b3 e => ?_)
    · have hD4 := b4.at hD
      exact ⟨zs i, hD4, sz_lt (by omega), by omega, (b.trans b4).put_new n0, by rw [e]; exact upd_same, by rw [e, List.length_append, List.length_singleton]; omega⟩
    · exact ⟨by omega, b.trans b3, by rw [e]; exact b3.at hD, by rw [e]; omega⟩
  · rintro H ⟨_, b, hD, _⟩
    exact hd H b hD
section
variable {P : Program} {w : World} {K : PySem.W.Frag} {mg : Str → Option Value} {base : Heap}
/-! ### carry_out -/
abbrev Wrs := List (List Key × PyData)
def wrD (p : List Key × PyData) : PyData := .tuple [kD p.1, p.2]
def addD : PyData → PyData → PyData
  | .int a, .int b => .int (a + b)
  | _, d => d
def carry1 (vals : Vs) (p : List Key × PyData) : Vs := pt vals p.1 (if amt p.1 = true then addD ((gt vals p.1).getD (fv p.1)) p.2 else p.2)
def carry (vals : Vs) (ws : Wrs) : Vs := ws.foldl carry1 vals
/-- one pair of a value or a write: the key is the house's, an amount is an int, a record is small data -/
structure PrOk (h : Int) (p : List Key × PyData) : Prop where
  key : KeyOk h p.1
  am : amt p.1 = true → ∃ i, p.2 = .int i
  dp : p.2.depth ≤ 8
def PrsOk (h : Int) (l : List (List Key × PyData)) : Prop := ∀ p ∈ l, PrOk h p
theorem PrsOk.get {h : Int} {vals : Vs} {k : List Key} {x : PyData} (o : PrsOk h vals) (e : gt vals k = some x) : PrOk h (k, x) := o _ (mem_of_gt e)
theorem pt_all {p : List Key × PyData → Prop} {vals : Vs} {k : List Key} {x : PyData} (o : ∀ q ∈ vals, p q) (n : p (k, x)) : ∀ q ∈ pt vals k x, p q := by
  intro q m
  unfold pt at m
  split at m
  · obtain ⟨r, h1, h2⟩ := List.mem_map.mp m
    by_cases e : r.1 = k
    · rw [if_pos e] at h2
      rw [← h2, e]
      exact n
    · rw [if_neg e] at h2
      rw [← h2]
      exact o r h1
  · rcases List.mem_append.mp m with m | m
    · exact o q m
    · rw [List.mem_singleton.mp m]
      exact n
theorem PrsOk.gv {h : Int} {vals : Vs} {k : List Key} (o : PrsOk h vals) (hk : KeyOk h k) (ha : amt k = true) : ∃ i, (gt vals k).getD (fv k) = .int i := by
  cases e : gt vals k with
  | none =>
    refine ⟨0, ?_⟩
    show fv k = _
    unfold fv fst0
    rw [ha]
    rfl
  | some x => exact (o.get e).am ha
theorem carry1_ok {h : Int} {vals : Vs} {p : List Key × PyData} (o : PrsOk h vals) (q : PrOk h p) : PrsOk h (carry1 vals p) := by
  refine pt_all o ⟨q.key, fun ha => ?_, ?_⟩
  · obtain ⟨i, e⟩ := o.gv q.key ha
    obtain ⟨j, e2⟩ := q.am ha
    refine ⟨i + j, ?_⟩
    show (if amt p.1 = true then addD ((gt vals p.1).getD (fv p.1)) p.2 else p.2) = _
    rw [if_pos ha, e, e2]
    rfl
  · show PyData.depth (if amt p.1 = true then addD ((gt vals p.1).getD (fv p.1)) p.2 else p.2) ≤ 8
    by_cases ha : amt p.1 = true
    · obtain ⟨i, e⟩ := o.gv q.key ha
      obtain ⟨j, e2⟩ := q.am ha
      rw [if_pos ha, e, e2]
      simp [addD, PyData.depth]
    · rw [if_neg ha]
      exact q.dp
theorem carry_ok {h : Int} : ∀ {ws : Wrs} {vals : Vs}, PrsOk h vals → PrsOk h ws → PrsOk h (carry vals ws)
  | [], _, o, _ => o
  | p :: ws, _, o, q => carry_ok (ws := ws) (carry1_ok o (q p List.mem_cons_self)) fun r m => q r (List.mem_cons_of_mem _ m)
theorem pt_len (vals : Vs) (k : List Key) (x : PyData) : (pt vals k x).length ≤ vals.length + 1 := by
  unfold pt
  split
  · rw [List.length_map]
    omega
  · rw [List.length_append]
    exact Nat.le_refl _
theorem carry_take {ws : Wrs} {vals : Vs} {i : Nat} {p : List Key × PyData} (h : ws[i]? = some p) : carry vals (ws.take (i + 1)) = carry1 (carry vals (ws.take i)) p := by
  unfold carry
  rw [List.take_add_one, h, Option.toList_some, List.foldl_append]
  rfl
theorem carry_len : ∀ (ws : Wrs) (vals : Vs), (carry vals ws).length ≤ vals.length + ws.length
  | [], _ => Nat.le_refl _
  | p :: ws, vals => by
    have h1 := carry_len ws (carry1 vals p)
    have h2 : (carry1 vals p).length ≤ vals.length + 1 := pt_len _ _ _
    show (carry (carry1 vals p) ws).length ≤ _
    rw [List.length_cons]
    omega
theorem DictAt.put {H : Hp} {d b : Addr} {vals : Vs} {k : List Key} {v : V} {x : PyData} (h : DictAt H d vals) (hb : H b = some (.tup (k.map kV))) (t : Td H v x) (hl : vals.length < 1000000) :
    ∃ H', DPut H d (.ref b) v H' ∧ Bt [d] H H' ∧ DictAt H' d (pt vals k x) := by
  obtain ⟨kvs, h1, h2⟩ := h
  have b1 : Bt [d] H (upd H d (.dT (putK kvs k v))) := Bt.mut h1 trivial
  refine ⟨_, DPut.t h1 hb (sz_lt (by rw [h2.len]; omega)), b1, _, upd_same, (h2.put t).bt b1⟩
def spCarry : Sp := fun vs H Q _ => ∃ (d t : Addr) (h : Int) (vals : Vs) (ws : Wrs), vs = [.ref d, .ref t] ∧ DictAt H d vals ∧ Td H (.ref t) (.tuple (ws.map wrD)) ∧ PrsOk h vals ∧ PrsOk h ws ∧ vals.length + ws.length ≤ 100000 ∧
  ∀ H', Bt [d] H H' → DictAt H' d (carry vals ws) → Q .non H'
abbrev s_carry_out : Stmt := top 31
theorem sc_carry_out : FnScope ["values", "writes", "key", "what"] ["values", "writes"] (defScope s_carry_out) := ⟨rfl, rfl, rfl, by decide +kernel, rfl, by decide +kernel, by decide +kernel⟩
theorem ok_carry_out {f : Addr} {fd : FuncData} (F : Fun K "carry_out" "carry_out" s_carry_out f fd) (C_is_amount : Cal P w K mg base "is_amount" 5 spIsAmount) (C_value_in : Cal P w K mg base "value_in" 7 spValueIn) : FnOk P w K mg base CX0 8 f fd ["values", "writes"] spCarry := by
  refine F.ok sc_carry_out (fun vs H Q E h => ?_) (fun cdv A outer s H vs Q E hr h => ?_)
  · obtain ⟨_, _, _, _, _, rfl, _⟩ := h
    rfl
  · obtain ⟨d, t, h, vals, ws, rfl, hd, ht, ho, hw, hl, q⟩ := h
    have hu := hu_of hr
    obtain ⟨_, xs, e, h1, h2⟩ := Td.tup_inv ht
    cases e
    have el : xs.length = ws.length := by rw [h2.len, List.length_map]
    refine ⟨_, ((pss_one (ps_for PassesOwn.never rfl (pi_tup (pv 1)) (pg_tup (by rfl) (pgs_cons (pg_name (i := 2) sc_carry_out.nd rfl (Or.inl rfl)) (pgs_cons (pg_name (i := 3) sc_carry_out.nd rfl (Or.inl rfl)) pgs_nil)))
  (pss_one (ps_if (pt_val (pe_cc C_is_amount hr (by decide) (by rfl) (pa_cons (pv 2) pa_nil))) (pss_one (ps_dput hu (pv 0) (pv 2) (pe_op op_add (pe_cc C_value_in hr (by decide) (by rfl) (pa_cons (pv 0) (pa_cons (pv 2) pa_nil))) (pv 3)) rfl)) (pss_one (ps_dput hu (pv 0) (pv 2) (pv 3) rfl))))))), ?_⟩
    refine ⟨_, rfl, t, rfl, ⟨_, .inl (.inl h1)⟩, ?_⟩
    refine for_tup (K := K) (a := t) (xs := xs) (fun i σ H2 => ∃ u v, σ = [some (.ref d), some (.ref t), u, v] ∧ Bt [d] H H2 ∧ DictAt H2 d (carry vals (ws.take i))) ⟨none, none, rfl, Bt.refl, hd⟩ (fun i σ H2 _ hp => ?_) ?_ ?_
    · obtain ⟨_, _, _, b, _⟩ := hp
      exact .inl (.inl (b.tup _ _ h1))
    · rintro i x σ H2 hx ⟨u, v, rfl, b, hd2⟩
      obtain ⟨dd, e1, td⟩ := (h2.bt b).get' hx
      rw [List.getElem?_map] at e1
      cases ew : ws[i]? with
      | none => rw [ew] at e1; cases e1
      | some p =>
      rw [ew] at e1
      cases e1
      obtain ⟨a, ys, rfl, ha, hys⟩ := Td.tup_inv td
      obtain ⟨kr, r1, rfl, tk, hys⟩ := hys.cons_inv
      obtain ⟨wv, r2, rfl, tw, hys⟩ := hys.cons_inv
      cases hys.nil_inv
      obtain ⟨kb, rfl, hkb, _⟩ := key_td tk
      have pok : PrOk h p := hw p (List.mem_of_getElem? ew)
      have vok : PrsOk h (carry vals (ws.take i)) := carry_ok ho fun r m => hw r (List.mem_of_mem_take m)
      have hlen : (carry vals (ws.take i)).length ≤ 100000 := by
        have := carry_len (ws.take i) vals
        have h3 : (ws.take i).length ≤ ws.length := by rw [List.length_take]; omega
        omega
      refine ⟨a, _, rfl, .inl (.inl ha), rfl, ?_⟩
      refine ⟨_, _, rfl, _, _, rfl, rfl, ?_⟩
      refine ⟨_, rfl, kb, h, p.1, rfl, hkb, pok.key, fun H3 b3 => ?_⟩
      refine ⟨_, rfl, ite1 (fun ea => ?_) (fun ea => ?_)⟩
      · have hd3 := hd2.bt b3 (fun z => nomatch z)
        have hkb3 := b3.tup _ _ hkb
        refine ⟨_, rfl, _, rfl, d, kb, h, p.1, _, rfl, hd3, hkb3, pok.key, fun v4 H4 b4 t4 => ?_⟩
        obtain ⟨m1, e1⟩ := vok.gv pok.key ea
        obtain ⟨m2, e2⟩ := pok.am ea
        rw [e1] at t4
        have e3 := Td.int_inv t4
        rw [e2] at tw
        have e4 := Td.int_inv tw
        subst e3 e4
        refine ⟨_, rfl, _, _, rfl, rfl, ?_⟩
        refine ⟨_, rfl, _, rfl, ?_⟩
        have hd4 := hd3.bt b4 (fun z => nomatch z)
        obtain ⟨H5, put, b5, hd5⟩ := hd4.put (b4.tup _ _ hkb3) (.int (m1 + m2)) (by omega)
        refine ⟨d, H5, rfl, put, ?_⟩
        refine ⟨_, _, rfl, (b.trans ((b3.trans b4).mono fun _ z => nomatch z)).trans b5, ?_⟩
        rw [carry_take ew]
        unfold carry1
        rw [if_pos ea, e1, e2]
        exact hd5
      · have hd3 := hd2.bt b3 (fun z => nomatch z)
        obtain ⟨H5, put, b5, hd5⟩ := hd3.put (b3.tup _ _ hkb) (tw.bt b3) (by omega)
        refine ⟨_, rfl, _, rfl, _, rfl, d, H5, rfl, put, ?_⟩
        refine ⟨_, _, rfl, (b.trans (b3.mono fun _ z => nomatch z)).trans b5, ?_⟩
        rw [carry_take ew]
        unfold carry1
        rw [if_neg (by rw [ea]; exact Bool.false_ne_true)]
        exact hd5
    · rintro σ H2 ⟨u, v, rfl, b, hd2⟩
      rw [el, List.take_length] at hd2
      exact q H2 b hd2

/-! ### pairs_of -/
theorem cmpOk_same : ∀ {x y : List Key}, x.map (fun k => sameK k (.inl 0)) = y.map (fun k => sameK k (.inl 0)) → cmpOk x y
  | [], [], _ => trivial
  | x :: xs, y :: ys, e => by
    rw [List.map_cons, List.map_cons] at e
    injection e with e1 e2
    by_cases h : x = y
    · exact .inl ⟨h, cmpOk_same e2⟩
    · refine .inr ⟨h, ?_⟩
      cases x <;> cases y <;> simp [sameK] at e1 ⊢
  | [], _ :: _, e => by simp at e
  | _ :: _, [], e => by simp at e
theorem fits_same : ∀ {ks : List Knd} {r q : List Key}, Paired fitK ks r → Paired fitK ks q → r.map (fun k => sameK k (.inl 0)) = q.map (fun k => sameK k (.inl 0))
  | _, _, _, .nil, .nil => rfl
  | k :: _, x :: _, y :: _, .cons a t, .cons b u => by
    rw [List.map_cons, List.map_cons, fits_same t u]
    have : sameK x (.inl 0) = sameK y (.inl 0) := by
      cases k <;> cases x <;> cases y <;> first | rfl | exact a.elim | exact b.elim
    rw [this]
theorem KeyOk.cmp {h : Int} {k j : List Key} (a : KeyOk h k) (b : KeyOk h j) : cmpOk k j := by
  obtain ⟨n, r, rfl, _, f⟩ := a
  obtain ⟨m, q, rfl, _, g⟩ := b
  refine .inl ⟨rfl, ?_⟩
  by_cases e : n = m
  · subst e
    exact .inl ⟨rfl, cmpOk_same (fits_same f g)⟩
  · refine .inr ⟨fun z => e (Nm.s_inj (Sum.inr.inj z)), rfl⟩
theorem KeyOk.hd {h : Int} {k : List Key} (a : KeyOk h k) : ∃ i r, k = Sum.inl i :: r := by
  obtain ⟨n, r, rfl, _, f⟩ := a
  exact ⟨_, _, rfl⟩
theorem keyD_depth (k : Key) : (keyD k).depth = 0 := by cases k <;> simp [keyD, PyData.depth]
theorem keyDs_depth : ∀ k : List Key, PyData.depthAll (k.map keyD) = 0
  | [] => by simp [PyData.depthAll]
  | x :: k => by simp [PyData.depthAll, keyD_depth, keyDs_depth k]
theorem kD_depth (k : List Key) : (kD k).depth = 1 := by
  unfold kD
  simp [PyData.depth, keyDs_depth]
theorem fv_depth (k : List Key) : (fv k).depth = 0 := by
  unfold fv
  split <;> simp [PyData.depth]
def gv (vals : Vs) (k : List Key) : PyData := (gt vals k).getD (fv k)
def shows (vals : Vs) (k : List Key) : Bool := !PyData.eqv (gv vals k) (fv k)
def shownOf (vals : Vs) (ks : List (List Key)) : List PyData := (ks.filter (shows vals)).map fun k => .tuple [kD k, gv vals k]
theorem shown_take {vals : Vs} {ks : List (List Key)} {i : Nat} {k : List Key} (h : ks[i]? = some k) : shownOf vals (ks.take (i + 1)) = shownOf vals (ks.take i) ++ (if shows vals k = true then [.tuple [kD k, gv vals k]] else []) := by
  unfold shownOf
  rw [List.take_add_one, h, Option.toList_some, List.filter_append, List.map_append]
  congr 1
  by_cases e : shows vals k = true
  · rw [if_pos e, List.filter_cons_of_pos e]
    rfl
  · rw [if_neg e, List.filter_cons_of_neg e]
    rfl
theorem gv_dp {h : Int} {vals : Vs} {k : List Key} (o : PrsOk h vals) : (gv vals k).depth ≤ 8 := by
  unfold gv
  cases e : gt vals k with
  | none =>
    show (fv k).depth ≤ 8
    rw [fv_depth]
    omega
  | some x => exact (o.get e).dp
def spPairs : Sp := fun vs H Q _ => ∃ (d : Addr) (h : Int) (vals : Vs), vs = [.ref d] ∧ DictAt H d vals ∧ PrsOk h vals ∧ vals.length ≤ 100000 ∧
  ∀ v H' ks, Bt [] H H' → ks.Pairwise (fun x y => ksLt y x = false) → ks.Perm (vals.map (·.1)) → Td H' v (.tuple (shownOf vals ks)) → Q v H'
abbrev s_pairs_of : Stmt := top 32
theorem sc_pairs_of : FnScope ["values", "key"] ["values"] (defScope s_pairs_of) := ⟨rfl, rfl, rfl, by decide +kernel, rfl, by decide +kernel, by decide +kernel⟩
theorem ok_pairs_of {f : Addr} {fd : FuncData} (F : Fun K "pairs_of" "pairs_of" s_pairs_of f fd) (T : Blt mg) (C_first_value : Cal P w K mg base "first_value" 6 spFirst) : FnOk P w K mg base CX0 7 f fd ["values"] spPairs := by
  refine F.ok sc_pairs_of (fun vs H Q E h => ?_) (fun cdv A outer s H vs Q E hr h => ?_)
  · obtain ⟨_, _, _, rfl, _⟩ := h
    rfl
  · obtain ⟨d, h, vals, rfl, hd, ho, hl, q⟩ := h
    have hu := hu_of hr
    obtain ⟨kvs, hk1, hk2⟩ := id hd
    refine ⟨_, ((pss_one (ps_ret (pe_callTy call_tuple_of (by rfl) T.tuple B_tuple (pa_cons (pe_lc (own := [("key", 1)]) (g := gName 1)  rfl sc_pairs_of.nd (pi_list (pe_callB cr_sortedKs (by rfl) T.sorted B_sorted (pa_cons (pe_callTy (call_list_dT rfl) (by rfl) T.list B_list (pa_cons (pv 0) pa_nil)) pa_nil))) (blkOk_by (own := [("key", 1)]) (N := ["values", "key"]) (sc := defScope s_pairs_of) (by decide +kernel)) (fun _ _ _ _ _ => (pg_name (i := 1) sc_pairs_of.nd rfl (Or.inl rfl))) (fun _ _ _ _ _ => pts_one (pt_cmpR (op_neDK (K := K) rfl hr.units) (pe_dget hu (pv 0) (pv 1) (fun _ _ => rfl)) (pe_cc C_first_value hr (by decide) (by rfl) (pa_cons (pv 1) pa_nil)) (nomark _))) (fun _ _ _ _ _ => (pe_tup (pa_cons (pv 1) (pa_cons (pe_dget hu (pv 0) (pv 1) (fun _ _ => rfl)) pa_nil))))) pa_nil))))), ?_⟩
    refine ⟨_, rfl, d, kvs, rfl, .inl hk1, fun p1 bs n1 isk => ?_⟩
    generalize e1 : upd _ p1 _ = H1
    obtain ⟨S1, h1⟩ := new_of e1 n1
    clear e1
    have hko : ∀ p ∈ kvs, KeyOk h p.1 := fun p hp => by
      have : p.1 ∈ vals.map (·.1) := by
        rw [← hk2.keys]
        exact List.mem_map.mpr ⟨p, hp, rfl⟩
      obtain ⟨r, h3, h4⟩ := List.mem_map.mp this
      rw [← h4]
      exact (ho r h3).key
    have hat := isKeys_at isk
    have hmap := isKeys_map isk
    have hkey : ∀ x ∈ bs.map V.ref, KeyOk h (kOf H x) := fun x hx => by
      have : kOf H x ∈ kvs.map (·.1) := by
        rw [← hmap]
        exact List.mem_map.mpr ⟨x, hx, rfl⟩
      obtain ⟨p, h3, h4⟩ := List.mem_map.mp this
      rw [← h4]
      exact hko p h3
    refine ⟨p1, _, kOf H, rfl, .inl (.inl h1), ⟨fun x hx => ?_, fun x hx => (hkey x hx).hd, fun x hx y hy => (hkey x hx).cmp (hkey y hy)⟩, fun ys p2 hs hp n2 => ?_⟩
    · obtain ⟨t, e, ht⟩ := hat x hx
      exact ⟨t, e, S1.tup _ _ ht⟩
    generalize e2 : upd _ p2 _ = H2
    obtain ⟨S2, h2⟩ := new_of e2 n2
    clear e2
    have S02 := S1.trans S2
    have hyl : ys.length = vals.length := by
      rw [hp.length_eq, List.length_map]
      have := congrArg List.length hmap
      rw [List.length_map, List.length_map, List.length_map, hk2.len] at this
      exact this
    refine ⟨p2, rfl, ⟨ys, .inl (.inl h2)⟩, fun D n3 => ?_⟩
    refine lcD (walk_list (K := K) (xs := ys)) n3 (fun H b => b.sqL (.inl (.inl h2))) (by omega) (fun i => shownOf vals ((ys.map (kOf H)).take i)) rfl ?_ ?_
    · intro i x H3 hx b3 N1 N2 k1 k2
      have hxm : x ∈ bs.map V.ref := hp.mem_iff.mp (List.mem_of_getElem? hx)
      obtain ⟨t, rfl, ht⟩ := hat x hxm
      have hok := hkey _ hxm
      have hg : (ys.map (kOf H))[i]? = some (kOf H (.ref t)) := by rw [List.getElem?_map, hx]; rfl
      have hmem : kOf H (.ref t) ∈ vals.map (·.1) := by
        rw [← hk2.keys, ← hmap]
        exact List.mem_map.mpr ⟨_, hxm, rfl⟩
      generalize kOf H (.ref t) = k at ht hok hg hmem
      have S3 := S02.trans b3
      have ht3 := S3.tup _ _ ht
      have hd3 := hd.bt S3 (fun z => nomatch z)
      obtain ⟨o, g3, ho3⟩ := hd3.get ht3
      rcases ho3 with ⟨rfl, e⟩ | ⟨v, y, rfl, e, ty⟩
      · exact absurd hmem (gt_none.mp e)
      have egv : gv vals k = y := by
        unfold gv
        rw [e]
        rfl
      refine ⟨rfl, ?_⟩
      refine ⟨_, rfl, _, rfl, d, v, rfl, g3, ?_⟩
      refine ⟨_, rfl, t, h, k, rfl, ht3, hok, fun H4 b4 => ?_⟩
      have ty4 := ty.bt b4
      have tf4 := td_fv H4 k
      refine ⟨y, fv k, ty4.dp, tf4.dp, ty4.shaped (by rw [← egv]; have := gv_dp (k := k) ho; omega), tf4.shaped (by rw [fv_depth]; omega), _, rfl, ?_⟩
      have est := shown_take (vals := vals) hg
      have esh : shows vals k = !PyData.eqv y (fv k) := by
        unfold shows
        rw [egv]
      refine ite1 (fun ee => ?_) (fun ee => ?_)
      · obtain ⟨o4, g4, ho4⟩ := (hd3.bt b4 (fun z => nomatch z)).get (b4.tup _ _ ht3)
        rcases ho4 with ⟨rfl, e'⟩ | ⟨v4, y4, rfl, e', ty4'⟩
        · rw [e] at e'
          cases e'
        · rw [e] at e'
          cases e'
          refine ⟨_, rfl, _, rfl, _, rfl, d, v4, rfl, g4, ?_⟩
          refine ⟨(by show 2 ≤ sizeLine; decide), fun p5 n5 => ?_⟩
          generalize e5 : upd _ p5 _ = H5
          obtain ⟨S5, h5⟩ := new_of e5 n5
          clear e5
          refine k1 _ H5 _ (b4.trans S5) (.tup h5 (.cons (td_key (S5.tup _ _ (b4.tup _ _ ht3)) hok.ok) (.cons (ty4'.bt S5) .nil))) ?_
          show shownOf vals _ = _
          rw [est, esh, ee, if_pos rfl, egv]
      · refine k2 H4 b4 ?_
        show shownOf vals _ = _
        rw [est, esh, ee, if_neg Bool.false_ne_true, List.append_nil]
    · intro H3 zs b3 hD tz
      refine ⟨D, zs, rfl, .inl ⟨.inl (.inl hD), fun p4 n4 => ?_⟩⟩
      generalize e4 : upd _ p4 _ = H4
      obtain ⟨S4, h4⟩ := new_of e4 n4
      clear e4
      refine q _ H4 (ys.map (kOf H)) ((S02.trans b3).trans S4) (List.pairwise_map.mpr hs) ?_ (.tup h4 ?_)
      · have := hp.map (kOf H)
        rw [hmap, hk2.keys] at this
        exact this
      · have tz4 := tz.bt S4
        rw [show shownOf vals ((ys.map (kOf H)).take ys.length) = shownOf vals (ys.map (kOf H)) from by rw [← List.length_map (f := kOf H), List.take_length]] at tz4
        exact tz4
end
end K33

/-! K6: the pure model of a counter -/
namespace K33
open PySem L2

inductive Md where
  | see | own | add | take
  deriving DecidableEq
inductive Kd where
  | see | own | add | ample | short
  deriving DecidableEq
def Md.s : Md → Str
  | .see => "see"
  | .own => "own"
  | .add => "add"
  | .take => "take"
def Kd.s : Kd → Str
  | .see => "see"
  | .own => "own"
  | .add => "add"
  | .ample => "ample"
  | .short => "short"
theorem Md.ok (m : Md) : PyData.strOk m.s = true := by cases m <;> decide +kernel
theorem Kd.ok (m : Kd) : PyData.strOk m.s = true := by cases m <;> decide +kernel
theorem Md.s_inj {a b : Md} (h : a.s = b.s) : a = b := by
  revert h
  cases a <;> cases b <;> first | (intro _; rfl) | (intro h; exact absurd h (by decide +kernel))
theorem Kd.s_inj {a b : Kd} (h : a.s = b.s) : a = b := by
  revert h
  cases a <;> cases b <;> first | (intro _; rfl) | (intro h; exact absurd h (by decide +kernel))
theorem Md.s_eq (a b : Md) : decide (V.str a.s = V.str b.s) = decide (a = b) := by
  by_cases h : a = b
  · subst h
    simp
  · rw [decide_eq_false h, decide_eq_false fun z => h (Md.s_inj (V.str.inj z))]
theorem Kd.s_eq (a b : Kd) : decide (V.str a.s = V.str b.s) = decide (a = b) := by
  by_cases h : a = b
  · subst h
    simp
  · rw [decide_eq_false h, decide_eq_false fun z => h (Kd.s_inj (V.str.inj z))]
structure Rq where
  key : List Key
  md : Md
  many : Int
structure Gr where
  rq : Rq
  kd : Kd
  ans : PyData
abbrev Ask := List Key × List Rq
abbrev Std := List (List Key × List Gr)
def reqD (r : Rq) : PyData := .tuple [kD r.key, .str r.md.s, .int r.many]
def reqsD (rs : List Rq) : PyData := .tuple (rs.map reqD)
def askD (a : Ask) : PyData := .tuple [kD a.1, reqsD a.2]
def takenI (g : Gr) : Int := if g.kd = .ample then g.rq.many else 0
def cgD (g : Gr) : PyData := .tuple [kD g.rq.key, .str g.kd.s, .int (takenI g)]
def cgsD (gs : List Gr) : PyData := .tuple (gs.map cgD)
def ansD (gs : List Gr) : PyData := .tuple (gs.map (·.ans))
def toldD (p : List Key × List Gr) : PyData := .tuple [kD p.1, ansD p.2]
/-- granted: true, ended: false -/
abbrev Tr := List (Bool × List Key)
def trS (b : Bool) : Str := if b = true then "granted" else "ended"
theorem trS_ok (b : Bool) : PyData.strOk (trS b) = true := by cases b <;> decide +kernel
theorem trS_inj {a b : Bool} (h : trS a = trS b) : a = b := by
  revert h
  cases a <;> cases b <;> first | (intro _; rfl) | (intro h; exact absurd h (by decide +kernel))
def trD (p : Bool × List Key) : PyData := .tuple [.str (trS p.1), kD p.2]

/-- the grants that stand on a key -/
def onKey (st : Std) (k : List Key) : List Gr := (st.flatMap (·.2)).filter fun g => decide (g.rq.key = k)
def softG (g : Gr) : Bool := decide (g.kd = .add) || decide (g.kd = .ample)
def roomOf (l : List Gr) : Int := (l.map takenI).sum
def intD : PyData → Int
  | .int i => i
  | _ => 0
def beside (vals : Vs) (st : Std) (r : Rq) : Option Gr :=
  let l := onKey st r.key
  match r.md with
  | .see => if l.all (fun g => decide (g.kd = .see)) = true then some ⟨r, .see, gv vals r.key⟩ else none
  | .own => if l = [] then some ⟨r, .own, gv vals r.key⟩ else none
  | .add => if l.all softG = true then some ⟨r, .add, .none⟩ else none
  | .take => if l.all softG = true ∧ r.many ≤ intD (gv vals r.key) - roomOf l then some ⟨r, .ample, .int r.many⟩ else if l = [] then some ⟨r, .short, gv vals r.key⟩ else none
def grantsFor (vals : Vs) (st : Std) : List Rq → Option (List Gr)
  | [] => some []
  | r :: rs => match beside vals st r with
    | none => none
    | some g => (grantsFor vals st rs).map (g :: ·)
/-- a shared key with a waiting ask -/
def blockedBy (left : List Ask) (rs : List Rq) : Bool := rs.any fun r => left.any fun a => a.2.any fun q => decide (q.key = r.key)
structure Ps where
  left : List Ask
  st : Std
  tr : Tr
  told : Std
def pass1 (vals : Vs) (p : Ps) (a : Ask) : Ps :=
  match (if blockedBy p.left a.2 = true then none else grantsFor vals p.st a.2) with
  | none => { p with left := p.left ++ [a] }
  | some gs => { left := p.left, st := p.st ++ [(a.1, gs)], tr := p.tr ++ [(true, a.1)], told := p.told ++ [(a.1, gs)] }
def pass (vals : Vs) (asks : List Ask) (st : Std) (tr : Tr) : Ps := asks.foldl (pass1 vals) ⟨[], st, tr, []⟩

/-! ### what holds of requests, grants -/
structure RqOk (h : Int) (r : Rq) : Prop where
  key : KeyOk h r.key
  own : r.md = .own → amt r.key = false
  add : r.md = .add → amt r.key = true
  take : r.md = .take → amt r.key = true
structure AskOk (h : Int) (a : Ask) : Prop where
  id : IdOk a.1
  ne : a.2 ≠ []
  len : a.2.length ≤ 100
  rqs : ∀ r ∈ a.2, RqOk h r
structure GrOk (h : Int) (g : Gr) : Prop where
  rq : RqOk h g.rq
  see : g.kd = .see → g.rq.md = .see
  own : g.kd = .own → g.rq.md = .own
  add : g.kd = .add → g.rq.md = .add ∧ g.ans = .none
  ample : g.kd = .ample → g.rq.md = .take ∧ g.ans = .int g.rq.many
  short : g.kd = .short → g.rq.md = .take ∧ ∃ i, g.ans = .int i
  dp : g.ans.depth ≤ 8
structure StdOk (h : Int) (st : Std) : Prop where
  ids : ∀ p ∈ st, IdOk p.1
  gr : ∀ p ∈ st, ∀ g ∈ p.2, GrOk h g
  len : ∀ p ∈ st, p.2.length ≤ 100

theorem mem_onKey {st : Std} {k : List Key} {g : Gr} (h : g ∈ onKey st k) : ∃ p ∈ st, g ∈ p.2 ∧ g.rq.key = k := by
  unfold onKey at h
  obtain ⟨h1, h2⟩ := List.mem_filter.mp h
  obtain ⟨p, h3, h4⟩ := List.mem_flatMap.mp h1
  exact ⟨p, h3, h4, of_decide_eq_true h2⟩
theorem beside_ok {h : Int} {vals : Vs} {st : Std} {r : Rq} {g : Gr} (o : PrsOk h vals) (q : RqOk h r) (e : beside vals st r = some g) : GrOk h g ∧ g.rq = r := by
  have dv : (gv vals r.key).depth ≤ 8 := gv_dp o
  have d0 : PyData.depth .none ≤ 8 := by simp [PyData.depth]
  have di : ∀ i, PyData.depth (.int i) ≤ 8 := fun i => by simp [PyData.depth]
  unfold beside at e
  cases hm : r.md with
  | see =>
    rw [hm] at e
    dsimp only at e
    split at e
    · cases e
      exact ⟨⟨q, fun _ => hm, (fun z => nomatch z), (fun z => nomatch z), (fun z => nomatch z), (fun z => nomatch z), dv⟩, rfl⟩
    · cases e
  | own =>
    rw [hm] at e
    dsimp only at e
    split at e
    · cases e
      exact ⟨⟨q, (fun z => nomatch z), fun _ => hm, (fun z => nomatch z), (fun z => nomatch z), (fun z => nomatch z), dv⟩, rfl⟩
    · cases e
  | add =>
    rw [hm] at e
    dsimp only at e
    split at e
    · cases e
      exact ⟨⟨q, (fun z => nomatch z), (fun z => nomatch z), fun _ => ⟨hm, rfl⟩, (fun z => nomatch z), (fun z => nomatch z), d0⟩, rfl⟩
    · cases e
  | take =>
    rw [hm] at e
    dsimp only at e
    split at e
    · cases e
      exact ⟨⟨q, (fun z => nomatch z), (fun z => nomatch z), (fun z => nomatch z), fun _ => ⟨hm, rfl⟩, (fun z => nomatch z), di _⟩, rfl⟩
    · split at e
      · cases e
        exact ⟨⟨q, (fun z => nomatch z), (fun z => nomatch z), (fun z => nomatch z), (fun z => nomatch z), fun _ => ⟨hm, o.gv q.key (q.take hm)⟩, dv⟩, rfl⟩
      · cases e
theorem grantsFor_ok {h : Int} {vals : Vs} {st : Std} (o : PrsOk h vals) : ∀ {rs : List Rq} {gs : List Gr}, (∀ r ∈ rs, RqOk h r) → grantsFor vals st rs = some gs → (∀ g ∈ gs, GrOk h g) ∧ gs.map (·.rq) = rs
  | [], gs, _, e => by
    unfold grantsFor at e
    cases e
    exact ⟨(fun g m => nomatch m), rfl⟩
  | r :: rs, gs, q, e => by
    unfold grantsFor at e
    cases hb : beside vals st r with
    | none => rw [hb] at e; cases e
    | some g =>
      rw [hb] at e
      dsimp only at e
      obtain ⟨gs', e1, rfl⟩ := Option.map_eq_some_iff.mp e
      obtain ⟨h1, h2⟩ := beside_ok o (q r List.mem_cons_self) hb
      obtain ⟨h3, h4⟩ := grantsFor_ok o (fun r m => q r (List.mem_cons_of_mem _ m)) e1
      refine ⟨fun x m => ?_, by rw [List.map_cons, h2, h4]⟩
      rcases List.mem_cons.mp m with e | m
      · rw [e]; exact h1
      · exact h3 x m

/-! ### the state of a counter -/
structure PsOk (h : Int) (p : Ps) : Prop where
  left : ∀ a ∈ p.left, AskOk h a
  st : StdOk h p.st
  tr : ∀ q ∈ p.tr, IdOk q.2
  told : StdOk h p.told
theorem StdOk.snoc {h : Int} {st : Std} {id : List Key} {gs : List Gr} (s : StdOk h st) (i : IdOk id) (g : ∀ x ∈ gs, GrOk h x) (l : gs.length ≤ 100) : StdOk h (st ++ [(id, gs)]) := by
  refine ⟨fun p m => ?_, fun p m => ?_, fun p m => ?_⟩ <;> rcases List.mem_append.mp m with m | m
  · exact s.ids p m
  · rw [List.mem_singleton.mp m]; exact i
  · exact s.gr p m
  · rw [List.mem_singleton.mp m]; exact g
  · exact s.len p m
  · rw [List.mem_singleton.mp m]; exact l
theorem pass1_ok {h : Int} {vals : Vs} {p : Ps} {a : Ask} (o : PrsOk h vals) (q : PsOk h p) (b : AskOk h a) : PsOk h (pass1 vals p a) := by
  unfold pass1
  split
  · refine ⟨fun x m => ?_, q.st, q.tr, q.told⟩
    rcases List.mem_append.mp m with m | m
    · exact q.left x m
    · rw [List.mem_singleton.mp m]; exact b
  · rename_i gs e
    split at e
    · cases e
    obtain ⟨h1, h2⟩ := grantsFor_ok o b.rqs e
    have hl : gs.length ≤ 100 := by
      have := congrArg List.length h2
      rw [List.length_map] at this
      rw [this]
      exact b.len
    refine ⟨q.left, q.st.snoc b.id h1 hl, fun x m => ?_, q.told.snoc b.id h1 hl⟩
    rcases List.mem_append.mp m with m | m
    · exact q.tr x m
    · rw [List.mem_singleton.mp m]; exact b.id
theorem pass1_len {vals : Vs} {p : Ps} {a : Ask} : (pass1 vals p a).left.length + (pass1 vals p a).told.length = p.left.length + p.told.length + 1 ∧ (pass1 vals p a).st.length + p.told.length = p.st.length + (pass1 vals p a).told.length ∧
    (pass1 vals p a).tr.length + p.told.length = p.tr.length + (pass1 vals p a).told.length := by
  unfold pass1
  split
  · simp only [List.length_append, List.length_singleton]
    refine ⟨?_, ?_, ?_⟩ <;> first | omega | trivial
  · simp only [List.length_append, List.length_singleton]
    refine ⟨?_, ?_, ?_⟩ <;> first | omega | trivial
theorem fold_ok {h : Int} {vals : Vs} (o : PrsOk h vals) : ∀ {l : List Ask} {p : Ps}, PsOk h p → (∀ a ∈ l, AskOk h a) → PsOk h (l.foldl (pass1 vals) p)
  | [], _, q, _ => q
  | a :: l, _, q, b => fold_ok o (l := l) (pass1_ok o q (b a List.mem_cons_self)) fun x m => b x (List.mem_cons_of_mem _ m)
theorem fold_len {vals : Vs} : ∀ {l : List Ask} {p : Ps}, (l.foldl (pass1 vals) p).left.length + (l.foldl (pass1 vals) p).told.length = p.left.length + p.told.length + l.length ∧ (l.foldl (pass1 vals) p).st.length + p.told.length = p.st.length + (l.foldl (pass1 vals) p).told.length ∧
    (l.foldl (pass1 vals) p).tr.length + p.told.length = p.tr.length + (l.foldl (pass1 vals) p).told.length
  | [], p => ⟨rfl, rfl, rfl⟩
  | a :: l, p => by
    have h1 := fold_len (vals := vals) (l := l) (p := pass1 vals p a)
    have h2 := pass1_len (vals := vals) (p := p) (a := a)
    obtain ⟨a1, a2, a3⟩ := h1
    obtain ⟨b1, b2, b3⟩ := h2
    rw [List.foldl_cons, List.length_cons]
    generalize pass1 vals p a = p' at *
    generalize l.foldl (pass1 vals) p' = q at *
    refine ⟨?_, ?_, ?_⟩
    · omega
    · omega
    · omega
theorem fold_take {vals : Vs} {l : List Ask} {i : Nat} {a : Ask} {p : Ps} (h : l[i]? = some a) : (l.take (i + 1)).foldl (pass1 vals) p = pass1 vals ((l.take i).foldl (pass1 vals) p) a := by
  rw [List.take_add_one, h, Option.toList_some, List.foldl_append]
  rfl
def inB (B : List (List Key)) (k : List Key) : Bool := B.any fun j => decide (j = k)
/-- blocked keys first, then each request: grants_for -/
def grantsB (vals : Vs) (st : Std) (B : List (List Key)) : List Rq → Option (List Gr)
  | [] => some []
  | r :: rs => if inB B r.key = true then none else match beside vals st r with
    | none => none
    | some g => (grantsB vals st B rs).map (g :: ·)
theorem grantsB_eq (vals : Vs) (st : Std) (B : List (List Key)) : ∀ rs : List Rq, grantsB vals st B rs = if (rs.any fun r => inB B r.key) = true then none else grantsFor vals st rs
  | [] => rfl
  | r :: rs => by
    rw [grantsB, grantsFor, List.any_cons]
    cases inB B r.key with
    | true => rfl
    | false =>
      rw [if_neg Bool.false_ne_true, Bool.false_or, grantsB_eq vals st B rs]
      cases beside vals st r with
      | none => simp
      | some g =>
        dsimp only
        split <;> rfl
def keysOf (l : List Ask) : List (List Key) := l.flatMap fun a => a.2.map (·.key)
theorem blocked_eq (left : List Ask) (rs : List Rq) : (rs.any fun r => inB (keysOf left) r.key) = blockedBy left rs := by
  unfold blockedBy inB keysOf
  congr 1
  funext r
  rw [List.any_flatMap]
  congr 1
  funext a
  rw [List.any_map]
  rfl
end K33

/-! K7: the counter's methods -/
namespace K33
open PySem L2
section
variable {ls : List Addr} {H H1 H' : Hp} {a p d : Addr} {o : HO}
theorem Bt.dropN (b : Bt (p :: ls) H H') (n : H p = none) : Bt ls H H' := ⟨fun a o na h => b.keep a o (fun z => by
  rcases List.mem_cons.mp z with e | z
  · subst e
    rw [n] at h
    cases h
  · exact na z) h, b.tup⟩
theorem Bt.restore (b : Bt [d] H H') (e : H d = some o) (e' : H' d = some o) : Bt [] H H' := ⟨fun a u _ h => by
  by_cases z : a = d
  · subst z
    rw [e] at h
    cases h
    exact e'
  · exact b.at1 z h, b.tup⟩
end
def LsAt (H : Hp) (a : Addr) (ds : List PyData) : Prop := ∃ vs, H a = some (.lst vs) ∧ TdA H vs ds
section
variable {ls : List Addr} {H H' : Hp} {a : Addr} {ds : List PyData}
theorem LsAt.bt (b : Bt ls H H') (n : a ∉ ls) (h : LsAt H a ds) : LsAt H' a ds := by
  obtain ⟨vs, h1, h2⟩ := h
  exact ⟨vs, b.keep _ _ n h1, h2.bt b⟩
theorem LsAt.lst {K : PySem.W.Frag} (h : LsAt H a ds) : ∃ xs, SqL K H a xs := by
  obtain ⟨vs, h1, _⟩ := h
  exact ⟨vs, .inl (.inl h1)⟩
end
def flds (h : Int) (dv la dg le : Addr) : List (Str × V) := [("house", .int h), ("values_now", .ref dv), ("asks", .ref la), ("grants", .ref dg), ("entries", .ref le)]
section
variable {h : Int} {dv la dg le : Addr}
theorem flds_house : (flds h dv la dg le).lookup ("house" : Str) = some (.int h) := by
  unfold flds
  rw [List.lookup_cons_self]
theorem lk_ne {x y : Str} {v : V} {l : List (Str × V)} (h : (x == y) = false) : List.lookup x ((y, v) :: l) = List.lookup x l := by
  rw [List.lookup_cons, h]
theorem flds_values : (flds h dv la dg le).lookup ("values_now" : Str) = some (.ref dv) := by
  unfold flds
  rw [lk_ne (by decide +kernel), List.lookup_cons_self]
theorem flds_asks : (flds h dv la dg le).lookup ("asks" : Str) = some (.ref la) := by
  unfold flds
  rw [lk_ne (by decide +kernel), lk_ne (by decide +kernel), List.lookup_cons_self]
theorem flds_grants : (flds h dv la dg le).lookup ("grants" : Str) = some (.ref dg) := by
  unfold flds
  rw [lk_ne (by decide +kernel), lk_ne (by decide +kernel), lk_ne (by decide +kernel), List.lookup_cons_self]
theorem flds_entries : (flds h dv la dg le).lookup ("entries" : Str) = some (.ref le) := by
  unfold flds
  rw [lk_ne (by decide +kernel), lk_ne (by decide +kernel), lk_ne (by decide +kernel), lk_ne (by decide +kernel), List.lookup_cons_self]
theorem flds_no {m : Str} (h1 : (m == ("house" : Str)) = false) (h2 : (m == ("values_now" : Str)) = false) (h3 : (m == ("asks" : Str)) = false) (h4 : (m == ("grants" : Str)) = false) (h5 : (m == ("entries" : Str)) = false) : (flds h dv la dg le).lookup m = none := by
  unfold flds
  rw [lk_ne h1, lk_ne h2, lk_ne h3, lk_ne h4, lk_ne h5]
  rfl
end
def stV (st : Std) : Vs := st.map fun p => (p.1, cgsD p.2)
structure CFx (K : PySem.W.Frag) (C : Addr) : Prop where
  cl : Cls K C
  house : NoAttr K C "house"
  values : NoAttr K C "values_now"
  asks : NoAttr K C "asks"
  grants : NoAttr K C "grants"
  entries : NoAttr K C "entries"
structure CtrAt (C : Addr) (H : Hp) (c dx dv la dg le : Addr) (h : Int) (vals : Vs) (asks : List Ask) (st : Std) (tr : Tr) : Prop where
  fob : H c = some (.ins C dx (flds h dv la dg le))
  fdv : DictAt H dv vals
  fla : LsAt H la (asks.map askD)
  fdg : DictAt H dg (stV st)
  fle : LsAt H le (tr.map trD)
  ne1 : dv ≠ dg
  ne2 : la ≠ le
section
variable {P : Program} {w : World} {K : PySem.W.Frag} {mg : Str → Option Value} {base : Heap} {C : Addr}

/-! ### standing_on -/
def foundD (g : Gr) : PyData := .tuple [.str g.kd.s, .int (takenI g)]
theorem onKey_take {st : Std} {k : List Key} {i : Nat} {p : List Key × List Gr} (h : st[i]? = some p) : onKey (st.take (i + 1)) k = onKey (st.take i) k ++ p.2.filter fun g => decide (g.rq.key = k) := by
  unfold onKey
  rw [List.take_add_one, h, Option.toList_some, List.flatMap_append, List.filter_append, List.flatMap_singleton]
theorem filter_take {l : List Gr} {k : List Key} {i : Nat} {g : Gr} (h : l[i]? = some g) : (l.take (i + 1)).filter (fun g => decide (g.rq.key = k)) = (l.take i).filter (fun g => decide (g.rq.key = k)) ++ if g.rq.key = k then [g] else [] := by
  rw [List.take_add_one, h, Option.toList_some, List.filter_append]
  congr 1
  by_cases e : g.rq.key = k
  · rw [if_pos e, List.filter_cons_of_pos (p := fun g : Gr => decide (g.rq.key = k)) (decide_eq_true e)]
    rfl
  · rw [if_neg e, List.filter_cons_of_neg (p := fun g : Gr => decide (g.rq.key = k)) (by simpa using e)]
    rfl
theorem onKey_len {h : Int} {st : Std} {k : List Key} (s : StdOk h st) (hl : st.length ≤ 1000) : (onKey st k).length ≤ 100000 := by
  have : ∀ st : Std, (∀ p ∈ st, p.2.length ≤ 100) → (st.flatMap (·.2)).length ≤ 100 * st.length := by
    intro st
    induction st with
    | nil => intro _; simp
    | cons p st ih =>
      intro hs
      have h1 := ih fun q m => hs q (List.mem_cons_of_mem _ m)
      have h2 := hs p List.mem_cons_self
      rw [List.flatMap_cons, List.length_append, List.length_cons]
      omega
  have h1 := this st s.len
  have h2 : (onKey st k).length ≤ (st.flatMap (·.2)).length := List.length_filter_le _ _
  omega
def spStanding (C : Addr) : Sp := fun vs H Q _ => ∃ (c dx dv la dg le a : Addr) (h : Int) (st : Std) (k : List Key), vs = [.ref c, .ref a] ∧ H c = some (.ins C dx (flds h dv la dg le)) ∧ DictAt H dg (stV st) ∧ StdOk h st ∧ st.length ≤ 1000 ∧
  H a = some (.tup (k.map kV)) ∧ KeyOk h k ∧ ∀ p H', Bt [] H H' → H p = none → LsAt H' p ((onKey st k).map foundD) → Q (.ref p) H'
abbrev s_Counter_standing_on : Stmt := inClass (top 34) 8
theorem sc_Counter_standing_on : FnScope ["self", "key", "found", "grants", "other", "kind", "many"] ["self", "key"] (defScope s_Counter_standing_on) := ⟨rfl, rfl, rfl, by decide +kernel, rfl, by decide +kernel, by decide +kernel⟩
theorem ok_standing_on {f : Addr} {fd : FuncData} (F : Fun K "standing_on" "Counter.standing_on" s_Counter_standing_on f fd) (T : CFx K C) : FnOk P w K mg base CX0 1 f fd ["self", "key"] (spStanding C) := by
  refine F.ok sc_Counter_standing_on (fun vs H Q E h => ?_) (fun cdv A outer s H vs Q E hr h => ?_)
  · obtain ⟨_, _, _, _, _, _, _, _, _, _, rfl, _⟩ := h
    rfl
  · obtain ⟨c, dx, dv, la, dg, le, a, h, st, k, rfl, hc, hdg, so, hl, ha, hk, q⟩ := h
    have hu := hu_of hr
    obtain ⟨kvs, hk1, hk2⟩ := id hdg
    refine ⟨_, ((pss_cons (ps_set (i := 2) sc_Counter_standing_on.nd rfl (Or.inl rfl) (pe_lst pa_nil))
  (pss_cons (ps_lock (ps_for PassesOwn.never rfl (pi_valuesT (pe_fld (pv 0) rfl)) (pg_name (i := 3) sc_Counter_standing_on.nd rfl (Or.inl rfl))
  (pss_one (ps_for PassesOwn.never rfl (pi_tup (pv 3)) (pg_tup (by rfl) (pgs_cons (pg_name (i := 4) sc_Counter_standing_on.nd rfl (Or.inl rfl)) (pgs_cons (pg_name (i := 5) sc_Counter_standing_on.nd rfl (Or.inl rfl)) (pgs_cons (pg_name (i := 6) sc_Counter_standing_on.nd rfl (Or.inl rfl)) pgs_nil))))
  (pss_one (ps_if (pt_cmpR (op_eqDK (K := K) rfl hr.units) (pv 4) (pv 1) (nomark _)) (pss_one (ps_expr (pe_bm PySem.F.plainAttrs_list PySem.F.slot_list_append PySem.F.type_list_append mt_append (pv 2) (pa_cons (pe_tup (pa_cons (pv 5) (pa_cons (pv 6) pa_nil))) pa_nil)))) pss_nil))))))
  (pss_one (ps_ret (pv 2)))))), ?_⟩
    refine ⟨by show 0 ≤ sizeLine; decide, fun p n1 => ?_⟩
    have hpc : c ≠ p := ne_of_none hc n1
    have hpd : dg ≠ p := ne_of_none hk1 n1
    generalize e1 : upd _ p _ = H1
    obtain ⟨S1, h1⟩ := new_of e1 n1
    clear e1
    have hcd : c ≠ dg := ne_of hc hk1 (by intro z; cases z)
    refine ⟨dg, _, S1.at hk1, trivial, fun od => ?_⟩
    generalize e2 : upd _ dg _ = H2
    obtain ⟨S2, h2⟩ := mut_of e2 (S1.at hk1) trivial
    clear e2
    have hc2 : H2 c = some (.ins C dx (flds h dv la dg le)) := S2.at1 hcd (S1.at hc)
    refine ⟨_, rfl, c, C, dx, _, _, rfl, hc2, T.cl, T.grants, flds_grants, ?_⟩
    refine ⟨dg, od, kvs, rfl, h2, ?_⟩
    have k2 : KvOk H2 kvs (stV st) := hk2.bt (S1.mono (ms := []) (fun _ z => z)) |>.bt S2
    refine for_it walk_valuesT (fun i σ H3 => ∃ u1 u2 u3 u4, σ = [some (.ref c), some (.ref a), some (.ref p), u1, u2, u3, u4] ∧ H3 dg = some (.frz od (.dT kvs)) ∧ Bt [p] H2 H3 ∧ LsAt H3 p ((onKey (st.take i) k).map foundD))
      ⟨none, none, none, none, rfl, h2, Bt.refl, [], S2.at1 hpd.symm h1, .nil⟩ (fun i σ H3 _ hp => ?_) ?_ ?_
    · obtain ⟨_, _, _, _, _, e, _⟩ := hp
      exact e
    · rintro i x σ H3 H3' hi ⟨u1, u2, u3, u4, rfl, hd3, b3, hp3⟩ ⟨rfl, kk, hkv⟩
      obtain ⟨pr, hst, e1, td⟩ : ∃ pr, st[i]? = some pr ∧ kk = pr.1 ∧ Td H2 x (cgsD pr.2) := by
        obtain ⟨z, hz, e1, e2⟩ := paired_get k2 hkv
        unfold stV at hz
        rw [List.getElem?_map] at hz
        cases es : st[i]? with
        | none => rw [es] at hz; cases hz
        | some pr =>
          rw [es] at hz
          cases hz
          exact ⟨pr, rfl, e1, e2⟩
      have hm := List.mem_of_getElem? hst
      obtain ⟨t, xs, rfl, ht, txs⟩ := Td.tup_inv (td.bt b3)
      refine ⟨_, rfl, t, rfl, ⟨_, .inl (.inl ht)⟩, ?_⟩
      refine for_tup (K := K) (a := t) (xs := xs) (fun j σ H4 => ∃ u2 u3 u4, σ = [some (.ref c), some (.ref a), some (.ref p), some (.ref t), u2, u3, u4] ∧ H4 dg = some (.frz od (.dT kvs)) ∧ Bt [p] H2 H4 ∧ H4 t = some (.tup xs) ∧ TdA H4 xs (pr.2.map cgD) ∧
          LsAt H4 p ((onKey (st.take i) k ++ (pr.2.take j).filter fun g => decide (g.rq.key = k)).map foundD))
        ⟨u2, u3, u4, rfl, hd3, b3, ht, txs, by simpa using hp3⟩ (fun j σ H4 _ hp => ?_) ?_ ?_
      · obtain ⟨_, _, _, _, _, _, e, _⟩ := hp
        exact .inl (.inl e)
      · rintro j y σ H4 hy ⟨u2, u3, u4, rfl, hd4, b4, ht4, txs4, hp4⟩
        obtain ⟨dd, e2, td4⟩ := txs4.get' hy
        rw [List.getElem?_map] at e2
        cases eg : pr.2[j]? with
        | none => rw [eg] at e2; cases e2
        | some g =>
        rw [eg] at e2
        cases e2
        obtain ⟨b, ys, rfl, hb, tys⟩ := Td.tup_inv td4
        obtain ⟨v1, r1, rfl, t1, tys⟩ := tys.cons_inv
        obtain ⟨v2, r2, rfl, t2, tys⟩ := tys.cons_inv
        obtain ⟨v3, r3, rfl, t3, tys⟩ := tys.cons_inv
        cases tys.nil_inv
        have e2 := Td.str_inv t2
        have e3 := Td.int_inv t3
        subst e2 e3
        refine ⟨b, _, rfl, .inl (.inl hb), rfl, ?_⟩
        refine ⟨_, _, rfl, _, _, rfl, _, _, rfl, rfl, ?_⟩
        have ha4 : H4 a = some (.tup (k.map kV)) := b4.tup _ _ (S2.tup _ _ (S1.tup _ _ ha))
        have tk4 := td_key ha4 hk.ok
        refine ⟨_, rfl, _, rfl, kD g.rq.key, kD k, t1.dp, tk4.dp, t1.shaped (by rw [kD_depth]; omega), tk4.shaped (by rw [kD_depth]; omega), _, rfl, ?_⟩
        rw [t1.eqv tk4]
        have et := filter_take (k := k) eg
        refine iteD2 (fun ee => ?_) (fun ee => ?_)
        · have ek : g.rq.key = k := kD_inj ee
          obtain ⟨zs, hz1, hz2⟩ := hp4
          refine ⟨_, rfl, .inl ⟨rfl, _, .inl (.inl hz1)⟩, ?_⟩
          refine ⟨_, rfl, _, rfl, by show 2 ≤ sizeLine; decide, fun p5 n5 => ?_⟩
          have np5 : p ≠ p5 := ne_of_none hz1 n5
          have nd5 : dg ≠ p5 := ne_of_none hd4 n5
          generalize e5 : upd _ p5 _ = H5
          obtain ⟨S5, h5⟩ := new_of e5 n5
          clear e5
          have hz5 := S5.at hz1
          refine ⟨p, zs, _, rfl, rfl, hz5, sz_lt ?_, ?_⟩
          · rw [hz2.len, List.length_map, List.length_append]
            have q1 := onKey_len (k := k) (st := st.take i) ⟨fun p m => so.ids p (List.mem_of_mem_take m), fun p m => so.gr p (List.mem_of_mem_take m), fun p m => so.len p (List.mem_of_mem_take m)⟩ (by rw [List.length_take]; omega)
            have q2 : ((pr.2.take j).filter fun g => decide (g.rq.key = k)).length ≤ 100 := by
              refine Nat.le_trans (List.length_filter_le _ _) ?_
              rw [List.length_take]
              have := so.len pr hm
              omega
            omega
          generalize e6 : upd _ p _ = H6
          obtain ⟨S6, h6⟩ := mut_of e6 hz5 trivial
          clear e6
          refine ⟨_, _, _, rfl, S6.at1 hpd (S5.at hd4), (b4.trans (S5.mono fun _ z => nomatch z)).trans S6, S6.tup _ _ (S5.tup _ _ ht4), (txs4.bt S5).bt S6, _, h6, ?_⟩
          rw [et, if_pos ek, ← List.append_assoc, List.map_append]
          refine ((hz2.bt S5).bt S6).app (.one ?_)
          exact (Td.tup h5 (.cons (t2.bt S5) (.cons (t3.bt S5) .nil))).bt S6
        · have ek : ¬ g.rq.key = k := fun z => ee (by rw [z])
          refine ⟨_, _, _, rfl, hd4, b4, ht4, txs4, ?_⟩
          rw [et, if_neg ek, List.append_nil]
          exact hp4
      · rintro σ H4 ⟨u2, u3, u4, rfl, hd4, b4, ht4, txs4, hp4⟩
        refine ⟨_, _, _, _, rfl, hd4, b4, ?_⟩
        rw [onKey_take hst]
        rw [show xs.length = pr.2.length by rw [txs4.len, List.length_map], List.take_length] at hp4
        exact hp4
    · rintro σ H3 ⟨u1, u2, u3, u4, rfl, hd3, b3, hp3⟩
      refine ⟨hd3, ?_⟩
      generalize e4 : upd _ dg _ = H4
      obtain ⟨S4, h4⟩ := mut_of e4 hd3 trivial
      clear e4
      have el : kvs.length = st.length := by rw [hk2.len]; exact List.length_map ..
      rw [el, List.take_length] at hp3
      refine ⟨_, rfl, q p H4 ?_ n1 (hp3.bt S4 (fun z => hpd (List.mem_singleton.mp z).symm))⟩
      have B1 : Bt [p, dg] H H4 := ((S1.mono fun _ z => nomatch z).trans (S2.mono fun _ z => by simp at z; simp [z])).trans ((b3.mono fun _ z => by simp at z; simp [z]).trans (S4.mono fun _ z => by simp at z; simp [z]))
      exact (B1.dropN n1).restore hk1 h4

/-! ### kind_for -/
theorem iteNN {c A B : Prop} [Decidable c] (hc : ¬ c) (h : A) : if (!decide c) = true then A else B := by
  rw [decide_eq_false hc]
  exact h

def kdOf (vals : Vs) (st : Std) (r : Rq) : V := match beside vals st r with
  | some g => .str g.kd.s
  | none => .non
structure CtrR (C : Addr) (H : Hp) (c dx dv la dg le : Addr) (h : Int) (vals : Vs) (st : Std) : Prop where
  fob : H c = some (.ins C dx (flds h dv la dg le))
  fdv : DictAt H dv vals
  fdg : DictAt H dg (stV st)
  po : PrsOk h vals
  so : StdOk h st
  sl : st.length ≤ 1000
theorem CtrR.bt {H H' : Hp} {c dx dv la dg le : Addr} {h : Int} {vals : Vs} {st : Std} (x : CtrR C H c dx dv la dg le h vals st) (b : Bt [] H H') : CtrR C H' c dx dv la dg le h vals st :=
  ⟨b.at x.fob, x.fdv.bt b (fun z => nomatch z), x.fdg.bt b (fun z => nomatch z), x.po, x.so, x.sl⟩
theorem in_soft (k : Kd) : inV (.str k.s) [.str Kd.add.s, .str Kd.ample.s] = (decide (k = .add) || decide (k = .ample)) := by cases k <;> decide +kernel
theorem take_map {α β : Type} (f : α → β) {l : List α} {i : Nat} {a : α} (h : l[i]? = some a) : (l.take (i + 1)).map f = (l.take i).map f ++ [f a] := by
  rw [List.take_add_one, h, Option.toList_some, List.map_append]
  rfl
def spKind (C : Addr) : Sp := fun vs H Q _ => ∃ (c dx dv la dg le a : Addr) (h : Int) (vals : Vs) (st : Std) (r : Rq), vs = [.ref c, .ref a, .str r.md.s, .int r.many] ∧ CtrR C H c dx dv la dg le h vals st ∧ RqOk h r ∧
  H a = some (.tup (r.key.map kV)) ∧ ∀ H', Bt [] H H' → Q (kdOf vals st r) H'
abbrev s_Counter_kind_for : Stmt := inClass (top 34) 9
theorem sc_Counter_kind_for : FnScope ["self", "key", "mode", "many", "standing", "kinds", "left", "kind", "taken"] ["self", "key", "mode", "many"] (defScope s_Counter_kind_for) := ⟨rfl, rfl, rfl, by decide +kernel, rfl, by decide +kernel, by decide +kernel⟩
theorem ok_kind_for {f : Addr} {fd : FuncData} (F : Fun K "kind_for" "Counter.kind_for" s_Counter_kind_for f fd) (T : Blt mg) (TC : CFx K C) (C_value_in : Cal P w K mg base "value_in" 7 spValueIn) (M_standing_on : Mtd P w K mg base C "standing_on" 1 (spStanding C)) :
    FnOk P w K mg base CX0 8 f fd ["self", "key", "mode", "many"] (spKind C) := by
  refine F.ok sc_Counter_kind_for (fun vs H Q E h => ?_) (fun cdv A outer s H vs Q E hr h => ?_)
  · obtain ⟨_, _, _, _, _, _, _, _, _, _, _, rfl, _⟩ := h
    rfl
  · obtain ⟨c, dx, dv, la, dg, le, a, h, vals, st, r, rfl, ct, rq, ha, q⟩ := h
    have hu := hu_of hr
    generalize hL : onKey st r.key = l
    have hll : l.length ≤ 100000 := by rw [← hL]; exact onKey_len ct.so ct.sl
    have hk : ∀ kd ans H', Bt [] H H' → beside vals st r = some ⟨r, kd, ans⟩ → Q (.str kd.s) H' := fun kd ans H' b e => by
      have := q H' b
      unfold kdOf at this
      rw [e] at this
      exact this
    have hn : ∀ H', Bt [] H H' → beside vals st r = none → Q .non H' := fun H' b e => by
      have := q H' b
      unfold kdOf at this
      rw [e] at this
      exact this
    refine ⟨_, ((pss_cons (ps_set (i := 4) sc_Counter_kind_for.nd rfl (Or.inl rfl) (pe_mc M_standing_on TC.cl hr (by decide) (pv 0) (pa_cons (pv 1) pa_nil)))
  (pss_cons (ps_if (PW.pt (pw_and (pt_cmpR op_eq (pe_callB call_len_seq (by rfl) T.len B_len (pa_cons (pv 4) pa_nil)) pe_int (nomark _)) (pw_and1 (pt_cmpR op_ne (pv 2) pe_str (nomark _))))) (pss_one (ps_ret (pv 2))) pss_nil)
  (pss_cons (ps_setLc (i := 5) (own := [("kind", 7), ("taken", 8)]) (g := gTup K 2 (gCons (gName 7) (gCons (gName 8) gNil)))  rfl sc_Counter_kind_for.nd rfl rfl (sw_true rfl rfl rfl (by decide +kernel)) (pi_list (pv 4)) (blkOk_by (own := [("kind", 7), ("taken", 8)]) (N := ["self", "key", "mode", "many", "standing", "kinds", "left", "kind", "taken"]) (sc := defScope s_Counter_kind_for) (by decide +kernel)) (fun _ _ _ _ _ => (pg_tup (by rfl) (pgs_cons (pg_name (i := 7) sc_Counter_kind_for.nd rfl (Or.inl rfl)) (pgs_cons (pg_name (i := 8) sc_Counter_kind_for.nd rfl (Or.inl rfl)) pgs_nil)))) (fun _ _ _ _ _ => pts_nil) (fun _ _ _ _ _ => (pv 7)))
  (pss_cons (ps_if (pt_cmpR op_eq (pv 2) pe_str (nomark _)) (pss_one (ps_ret (pe_ifExp (pt_val (pe_callB (cr_all rfl) (by rfl) T.all B_all (pa_cons (pe_lc (own := [("kind", 7)]) (g := gName 7)  rfl sc_Counter_kind_for.nd (pi_list (pv 5)) (blkOk_by (own := [("kind", 7)]) (N := ["self", "key", "mode", "many", "standing", "kinds", "left", "kind", "taken"]) (sc := defScope s_Counter_kind_for) (by decide +kernel)) (fun _ _ _ _ _ => (pg_name (i := 7) sc_Counter_kind_for.nd rfl (Or.inl rfl))) (fun _ _ _ _ _ => pts_nil) (fun _ _ _ _ _ => (pe_cmpR op_eq (pv 7) pe_str (nomark _)))) pa_nil))) pe_str pe_non))) pss_nil)
  (pss_cons (ps_if (PW.pt (pw_or (pt_cmpR op_eq (pv 2) pe_str (nomark _)) (pw_or1 (pt_not (pt_val (pe_callB (cr_all rfl) (by rfl) T.all B_all (pa_cons (pe_lc (own := [("kind", 7)]) (g := gName 7)  rfl sc_Counter_kind_for.nd (pi_list (pv 5)) (blkOk_by (own := [("kind", 7)]) (N := ["self", "key", "mode", "many", "standing", "kinds", "left", "kind", "taken"]) (sc := defScope s_Counter_kind_for) (by decide +kernel)) (fun _ _ _ _ _ => (pg_name (i := 7) sc_Counter_kind_for.nd rfl (Or.inl rfl))) (fun _ _ _ _ _ => pts_nil) (fun _ _ _ _ _ => (pe_cmpR (op_in_seqK (K := K) rfl) (pv 7) (pe_tup (pa_cons pe_str (pa_cons pe_str pa_nil))) rfl))) pa_nil))))))) (pss_one (ps_ret pe_non)) pss_nil)
  (pss_cons (ps_if (pt_cmpR op_eq (pv 2) pe_str (nomark _)) (pss_one (ps_ret pe_str)) pss_nil)
  (pss_cons (ps_set (i := 6) sc_Counter_kind_for.nd rfl (Or.inl rfl) (pe_op op_sub (pe_cc C_value_in hr (by decide) (by rfl) (pa_cons (pe_fld (pv 0) rfl) (pa_cons (pv 1) pa_nil))) (pe_callB (cr_sum rfl) (by rfl) T.sum B_sum (pa_cons (pe_lc (own := [("kind", 7), ("taken", 8)]) (g := gTup K 2 (gCons (gName 7) (gCons (gName 8) gNil)))  rfl sc_Counter_kind_for.nd (pi_list (pv 4)) (blkOk_by (own := [("kind", 7), ("taken", 8)]) (N := ["self", "key", "mode", "many", "standing", "kinds", "left", "kind", "taken"]) (sc := defScope s_Counter_kind_for) (by decide +kernel)) (fun _ _ _ _ _ => (pg_tup (by rfl) (pgs_cons (pg_name (i := 7) sc_Counter_kind_for.nd rfl (Or.inl rfl)) (pgs_cons (pg_name (i := 8) sc_Counter_kind_for.nd rfl (Or.inl rfl)) pgs_nil)))) (fun _ _ _ _ _ => pts_nil) (fun _ _ _ _ _ => (pv 8))) pa_nil))))
  (pss_cons (ps_if (pt_cmpR op_le (pv 3) (pv 6) (nomark _)) (pss_one (ps_ret pe_str)) pss_nil)
  (pss_one (ps_ret (pe_ifExp (pt_cmpR op_eq (pe_callB call_len_seq (by rfl) T.len B_len (pa_cons (pv 4) pa_nil)) pe_int (nomark _)) pe_str pe_non)))))))))))), ?_⟩
    -- the grants that stand
    refine ⟨_, rfl, c, dx, _, rfl, ct.fob, flds_no (by decide +kernel) (by decide +kernel) (by decide +kernel) (by decide +kernel) (by decide +kernel), ?_⟩
    refine ⟨_, rfl, c, dx, dv, la, dg, le, a, h, st, r.key, rfl, ct.fob, ct.fdg, ct.so, ct.sl, ha, rq.key, fun p H1 S1 np h1 => ?_⟩
    rw [hL] at h1
    obtain ⟨ys, h1, t1⟩ := h1
    have eyl : ys.length = l.length := by rw [t1.len, List.length_map]
    have e0 : (ys.length : Int) = 0 ↔ l = [] := by
      rw [eyl]
      constructor
      · intro z; exact List.length_eq_zero_iff.mp (by omega)
      · intro z; rw [z]; rfl
    refine ⟨_, rfl, p, ys, rfl, .inl (.inl (.inl h1)), ?_⟩
    refine ⟨rfl, _, rfl, ?_⟩
    have hcase : (l = [] ∧ r.md ≠ .take) ∨ ¬ (l = [] ∧ r.md ≠ .take) := Classical.em _
    rcases hcase with ⟨hl0, hmd⟩ | hcond
    · refine iteDT (by rw [e0.mpr hl0]) ?_
      refine ⟨_, rfl, rfl, _, rfl, ?_⟩
      refine iteNN (fun z => hmd (Md.s_inj (b := .take) (V.str.inj z))) ?_
      refine ⟨_, rfl, ?_⟩
      cases em : r.md with
      | take => exact absurd em hmd
      | see => exact hk .see (gv vals r.key) H1 S1 (by unfold beside; rw [em]; dsimp only; rw [hL, hl0]; rfl)
      | own => exact hk .own (gv vals r.key) H1 S1 (by unfold beside; rw [em]; dsimp only; rw [hL, hl0]; rfl)
      | add => exact hk .add .none H1 S1 (by unfold beside; rw [em]; dsimp only; rw [hL, hl0]; rfl)
    have hmt : l = [] → r.md = .take := fun z => Classical.byContradiction fun y => hcond ⟨z, y⟩
    have hget : ∀ (i : Nat) (x : V) (H2 : Hp), ys[i]? = some x → Bt [] H1 H2 → ∃ (g : Gr) (b : Addr), l[i]? = some g ∧ x = V.ref b ∧ H2 b = some (.tup [.str g.kd.s, .int (takenI g)]) := by
      intro i x H2 hx b2
      obtain ⟨dd, e2, t2⟩ := (t1.bt b2).get' hx
      rw [List.getElem?_map] at e2
      cases eg : l[i]? with
      | none => rw [eg] at e2; cases e2
      | some g =>
      rw [eg] at e2
      cases e2
      obtain ⟨b, zs, rfl, hb, tz⟩ := Td.tup_inv t2
      obtain ⟨v1, r1, rfl, u1, tz⟩ := tz.cons_inv
      obtain ⟨v2, r2, rfl, u2, tz⟩ := tz.cons_inv
      cases tz.nil_inv
      have q1 := Td.str_inv u1
      have q2 := Td.int_inv u2
      subst q1 q2
      exact ⟨g, b, rfl, rfl, hb⟩
    refine iteD2 (fun z => ⟨_, rfl, rfl, _, rfl, iteNS ?e ?_⟩) (fun z => ?_)
    case e => rw [hmt (e0.mp (V.int.inj z))]; rfl
    all_goals
      refine ⟨_, rfl, p, rfl, ⟨ys, .inl (.inl h1)⟩, fun D nD => ?_⟩
      refine lcX (walk_list (K := K) (xs := ys)) nD (fun H b => b.sqL (.inl (.inl h1))) (by omega) (fun i => (l.take i).map fun g => V.str g.kd.s) rfl ?_ ?_
      · intro i x H2 hx b2 N1 N2 k1 k2
        obtain ⟨g, b, eg, rfl, hb⟩ := hget i x H2 hx b2
        refine ⟨b, _, rfl, .inl (.inl hb), rfl, ?_⟩
        refine ⟨_, _, rfl, _, _, rfl, rfl, ?_⟩
        refine ⟨rfl, ?_⟩
        refine ⟨_, rfl, ?_⟩
        exact k1 _ H2 Bt.refl (take_map _ eg)
      intro H2 b2 hD
      rw [eyl, List.take_length] at hD
      have hp2 := b2.at h1
      clear z
      have S2 := S1.trans b2
      have hgH : ∀ (i : Nat) (x : V) (H4 : Hp), ys[i]? = some x → Bt [] H2 H4 → ∃ (g : Gr) (b : Addr), l[i]? = some g ∧ x = V.ref b ∧ H4 b = some (.tup [.str g.kd.s, .int (takenI g)]) := fun i x H4 hx b4 => hget i x H4 hx (b2.trans b4)
      clear b2 S1 h1 nD
      refine ⟨_, rfl, rfl, _, rfl, ?_⟩
      have hkx : ∀ (i : Nat) (x : V), (l.map fun g : Gr => V.str g.kd.s)[i]? = some x → ∃ g : Gr, l[i]? = some g ∧ x = V.str g.kd.s := by
        intro i x hx
        rw [List.getElem?_map] at hx
        cases eg : l[i]? with
        | none => rw [eg] at hx; cases hx
        | some g =>
        rw [eg] at hx
        cases hx
        exact ⟨g, rfl, rfl⟩
      refine iteD2 (fun z => ?_) (fun z1 => ?_)
      · have em : r.md = .see := Md.s_inj (b := .see) (V.str.inj z)
        refine ⟨_, rfl, D, rfl, ⟨_, .inl (.inl hD)⟩, fun D2 nD2 => ?_⟩
        refine lcX (walk_list (K := K) (xs := l.map fun g => V.str g.kd.s)) nD2 (fun H b => b.sqL (.inl (.inl hD))) (by rw [List.length_map]; omega) (fun i => (l.take i).map fun g => V.bl (decide (g.kd = .see))) rfl ?_ ?_
        · intro i x H3 hx b3 N1 N2 k1 k2
          obtain ⟨g, eg, rfl⟩ := hkx i x hx
          refine ⟨rfl, ?_⟩
          refine ⟨_, rfl, rfl, ?_⟩
          refine k1 _ H3 Bt.refl ?_
          show List.map (fun g : Gr => V.bl (decide (g.kd = .see))) _ = _
          rw [take_map _ eg, ← Kd.s_eq]
          rfl
        · intro H3 b3 hD3
          rw [List.length_map, List.take_length] at hD3
          refine ⟨D2, l.map (fun g => decide (g.kd = .see)), rfl, .inl (.inl (by rw [List.map_map]; exact hD3)), ?_⟩
          refine ⟨_, rfl, ite1 (fun e => ?_) (fun e => ?_)⟩
          · rw [List.all_map] at e
            refine hk .see (gv vals r.key) H3 (S2.trans b3) ?_
            unfold beside
            rw [em]
            dsimp only
            rw [hL]
            exact if_pos e
          · rw [List.all_map] at e
            refine hn H3 (S2.trans b3) ?_
            unfold beside
            rw [em]
            dsimp only
            rw [hL, if_neg (by rw [show (l.all fun g => decide (g.kd = .see)) = false from e]; exact Bool.false_ne_true)]
      have n1 : r.md ≠ .see := fun e => z1 (by rw [e]; rfl)
      refine ⟨_, rfl, rfl, _, rfl, ?_⟩
      refine iteD2 (fun z => ?_) (fun z2 => ?_)
      · have em : r.md = .own := Md.s_inj (b := .own) (V.str.inj z)
        refine hn H2 S2 ?_
        unfold beside
        rw [em]
        dsimp only
        rw [hL, if_neg (fun e => by have := hmt e; rw [em] at this; cases this)]
      have n2 : r.md ≠ .own := fun e => z2 (by rw [e]; rfl)
      refine ⟨_, rfl, D, rfl, ⟨_, .inl (.inl hD)⟩, fun D2 nD2 => ?_⟩
      refine lcX (walk_list (K := K) (xs := l.map fun g => V.str g.kd.s)) nD2 (fun H b => b.sqL (.inl (.inl hD))) (by rw [List.length_map]; omega) (fun i => (l.take i).map fun g => V.bl (softG g)) rfl ?_ ?_
      · intro i x H3 hx b3 N1 N2 k1 k2
        obtain ⟨g, eg, rfl⟩ := hkx i x hx
        refine ⟨rfl, ?_⟩
        refine ⟨_, rfl, ?_⟩
        refine ⟨by show 2 ≤ sizeLine; decide, fun p5 n5 => ?_⟩
        generalize e5 : upd _ p5 _ = H5
        obtain ⟨S5, h5⟩ := new_of e5 n5
        clear e5
        refine ⟨_, _, rfl, .inr (.inl (.inl h5)), ?_⟩
        refine ⟨rfl, rfl, ?_⟩
        refine k1 _ H5 S5 ?_
        show List.map (fun g : Gr => V.bl (softG g)) _ = _
        rw [take_map _ eg]
        congr 2
        exact congrArg V.bl (in_soft g.kd).symm
      intro H3 b3 hD3
      rw [List.length_map, List.take_length] at hD3
      have hp3 := b3.at hp2
      have S3 := S2.trans b3
      refine ⟨D2, l.map softG, rfl, .inl (.inl (by rw [List.map_map]; exact hD3)), ?_⟩
      have ea : (l.map softG).all id = l.all softG := by rw [List.all_map]; rfl
      rw [ea]
      refine ⟨_, rfl, ?_⟩
      cases es : l.all softG with
      | false =>
        refine iteT ?_
        refine hn H3 S3 ?_
        have hne : l ≠ [] := fun e => by rw [e] at es; cases es
        cases em : r.md with
        | see => exact absurd em n1
        | own => exact absurd em n2
        | add =>
          unfold beside
          rw [em]
          dsimp only
          rw [hL, es, if_neg Bool.false_ne_true]
        | take =>
          unfold beside
          rw [em]
          dsimp only
          rw [hL, es, if_neg (fun e => Bool.false_ne_true e.1), if_neg hne]
      | true =>
        refine iteF ?_
        refine ⟨_, rfl, rfl, _, rfl, ?_⟩
        refine iteD2 (fun z => ?_) (fun z3 => ?_)
        · have em : r.md = .add := Md.s_inj (b := .add) (V.str.inj z)
          refine hk .add .none H3 S3 ?_
          unfold beside
          rw [em]
          dsimp only
          rw [hL, es, if_pos rfl]
        have n3 : r.md ≠ .add := fun e => z3 (by rw [e]; rfl)
        have em : r.md = .take := by
          cases e : r.md with
          | see => exact absurd e n1
          | own => exact absurd e n2
          | add => exact absurd e n3
          | take => rfl
        have ct3 := ct.bt S3
        refine ⟨_, rfl, c, C, dx, _, _, rfl, ct3.fob, TC.cl, TC.values, flds_values, ?_⟩
        refine ⟨_, rfl, dv, a, h, r.key, vals, rfl, ct3.fdv, S3.tup _ _ ha, rq.key, fun v4 H4 b4 t4 => ?_⟩
        obtain ⟨m, em2⟩ := ct.po.gv rq.key (rq.take em)
        rw [em2] at t4
        have ev := Td.int_inv t4
        subst ev
        have S4 := S3.trans b4
        have hp4 := b4.at hp3
        refine ⟨_, rfl, p, rfl, ⟨ys, .inl (.inl hp4)⟩, fun D3 nD3 => ?_⟩
        refine lcX (walk_list (K := K) (xs := ys)) nD3 (fun H b => b.sqL (.inl (.inl hp4))) (by omega) (fun i => (l.take i).map fun g => V.int (takenI g)) rfl ?_ ?_
        · intro i x H5 hx b5 N1 N2 k1 k2
          obtain ⟨g, b, eg, rfl, hb⟩ := hgH i x H5 hx ((b3.trans b4).trans b5)
          refine ⟨b, _, rfl, .inl (.inl hb), rfl, ?_⟩
          refine ⟨_, _, rfl, _, _, rfl, rfl, ?_⟩
          refine ⟨rfl, ?_⟩
          refine ⟨_, rfl, ?_⟩
          exact k1 _ H5 Bt.refl (take_map _ eg)
        intro H5 b5 hD5
        rw [eyl, List.take_length] at hD5
        have S5 := S4.trans b5
        have hp5 := b5.at hp4
        refine ⟨D3, l.map takenI, rfl, .inl (.inl (by rw [List.map_map]; exact hD5)), ?_⟩
        refine ⟨_, _, rfl, rfl, ?_⟩
        refine ⟨_, rfl, _, rfl, _, _, rfl, rfl, _, rfl, ?_⟩
        have eint : intD (gv vals r.key) = m := by
          show intD ((gt vals r.key).getD (fv r.key)) = m
          rw [em2]
          rfl
        refine iteD2 (fun z => ?_) (fun z4 => ?_)
        · refine hk .ample (.int r.many) H5 S5 ?_
          unfold beside
          rw [em]
          dsimp only
          rw [hL, es, eint]
          exact if_pos ⟨rfl, z⟩
        refine ⟨_, rfl, p, ys, rfl, .inl (.inl (.inl hp5)), ?_⟩
        refine ⟨rfl, _, rfl, ?_⟩
        refine iteD2 (fun z => ?_) (fun z5 => ?_)
        · have hl0 := e0.mp (V.int.inj z)
          refine hk .short (gv vals r.key) H5 S5 ?_
          unfold beside
          rw [em]
          dsimp only
          rw [hL, es, eint]
          rw [if_neg (fun e => z4 e.2), if_pos hl0]
        · refine hn H5 S5 ?_
          unfold beside
          rw [em]
          dsimp only
          rw [hL, es, eint]
          rw [if_neg (fun e => z4 e.2), if_neg (fun e => z5 (by rw [e0.mpr e]))]
end
end K33

/-! K8: the counter's methods: answer, grants_for, look -/
namespace K33
open PySem L2
theorem ptd_len (kvs : List (List Key × V)) (k : List Key) (x : V) : (putK kvs k x).length ≤ kvs.length + 1 := by
  unfold putK
  split
  · rw [List.length_map]; omega
  · rw [List.length_append]; exact Nat.le_refl _
/-- a dict whose keys are those of B -/
def BlkAt (H : Hp) (d : Addr) (B : List (List Key)) : Prop := ∃ kvs, H d = some (.dT kvs) ∧ (∀ k, (valV kvs k).isSome = inB B k) ∧ kvs.length ≤ B.length
section
variable {ls : List Addr} {H H' : Hp} {d b : Addr} {B : List (List Key)} {k : List Key} {v : V}
theorem BlkAt.bt (x : Bt ls H H') (n : d ∉ ls) (h : BlkAt H d B) : BlkAt H' d B := by
  obtain ⟨kvs, h1, h2⟩ := h
  exact ⟨kvs, x.keep _ _ n h1, h2⟩
theorem BlkAt.get (h : BlkAt H d B) (hb : H b = some (.tup (k.map kV))) : ∃ o, DGet H d (.ref b) o ∧ o.isSome = inB B k := by
  obtain ⟨kvs, h1, h2, _⟩ := h
  exact ⟨_, DGet.t h1 hb, h2 k⟩
theorem BlkAt.put (h : BlkAt H d B) (hb : H b = some (.tup (k.map kV))) (hl : B.length < 1000000) : ∃ H', DPut H d (.ref b) v H' ∧ Bt [d] H H' ∧ BlkAt H' d (B ++ [k]) := by
  obtain ⟨kvs, h1, h2, h3⟩ := h
  refine ⟨_, DPut.t h1 hb (sz_lt (by omega)), Bt.mut h1 trivial, _, upd_same, fun j => ?_, ?_⟩
  · rw [valV_put]
    unfold inB at h2 ⊢
    rw [List.any_append, ← h2 j]
    by_cases e : j = k
    · subst e
      simp
    · have : ¬ k = j := fun z => e z.symm
      simp [e, this]
  · rw [List.length_append, List.length_singleton]
    have := ptd_len kvs k v
    omega
theorem LsAt.dp {K : PySem.W.Frag} {ds : List PyData} (h : LsAt H d ds) : Dp K H (.ref d) (.list ds) := by
  obtain ⟨vs, h1, h2⟩ := h
  exact .lst (.inl (.inl h1)) (TdA.dp ds vs h2)
theorem depthAll_le {n : Nat} : ∀ {ds : List PyData}, (∀ d ∈ ds, d.depth ≤ n) → PyData.depthAll ds ≤ n
  | [], _ => by simp [PyData.depthAll]
  | d :: ds, h => by
    have h1 := h d List.mem_cons_self
    have h2 := depthAll_le (ds := ds) fun x m => h x (List.mem_cons_of_mem _ m)
    simp only [PyData.depthAll]
    omega
theorem depth_tuple {n : Nat} {ds : List PyData} (h : ∀ d ∈ ds, d.depth ≤ n) : (PyData.tuple ds).depth ≤ n + 1 := by
  have := depthAll_le h
  simp only [PyData.depth]
  omega
theorem LsAt.shaped {ds : List PyData} (h : LsAt H d ds) (hd : ∀ x ∈ ds, x.depth ≤ 60) : SeqAt.shaped (.list ds) = true := by
  obtain ⟨vs, h1, h2⟩ := h
  unfold SeqAt.shaped
  have e : PyData.canLay0 (.list ds) = true := by
    simp only [PyData.canLay0]
    exact TdA.lay ds vs h2
  rw [e, Bool.true_and]
  have := depthAll_le hd
  refine decide_eq_true ?_
  simp only [PyData.depth]
  omega
end
def ansOf (vals : Vs) (g : Gr) : PyData := match g.kd with
  | .add => .none
  | .ample => .int g.rq.many
  | _ => gv vals g.rq.key
theorem beside_ans {vals : Vs} {st : Std} {r : Rq} {g : Gr} (e : beside vals st r = some g) : g.ans = ansOf vals g := by
  unfold beside at e
  cases hm : r.md with
  | see =>
    rw [hm] at e
    dsimp only at e
    split at e
    · cases e; rfl
    · cases e
  | own =>
    rw [hm] at e
    dsimp only at e
    split at e
    · cases e; rfl
    · cases e
  | add =>
    rw [hm] at e
    dsimp only at e
    split at e
    · cases e; rfl
    · cases e
  | take =>
    rw [hm] at e
    dsimp only at e
    split at e
    · cases e; rfl
    · split at e
      · cases e; rfl
      · cases e
theorem grantsFor_ans {vals : Vs} {st : Std} : ∀ {rs : List Rq} {gs : List Gr}, grantsFor vals st rs = some gs → ∀ g ∈ gs, g.ans = ansOf vals g
  | [], gs, e => by
    unfold grantsFor at e
    cases e
    exact fun _ m => nomatch m
  | r :: rs, gs, e => by
    unfold grantsFor at e
    cases hb : beside vals st r with
    | none => rw [hb] at e; cases e
    | some g =>
      rw [hb] at e
      obtain ⟨gs', e1, rfl⟩ := Option.map_eq_some_iff.mp e
      intro x m
      rcases List.mem_cons.mp m with z | m
      · rw [z]; exact beside_ans hb
      · exact grantsFor_ans e1 x m
theorem beside_rq {vals : Vs} {st : Std} {r : Rq} {g : Gr} (e : beside vals st r = some g) : g.rq = r := by
  unfold beside at e
  cases hm : r.md with
  | see =>
    rw [hm] at e
    dsimp only at e
    split at e
    · cases e; rfl
    · cases e
  | own =>
    rw [hm] at e
    dsimp only at e
    split at e
    · cases e; rfl
    · cases e
  | add =>
    rw [hm] at e
    dsimp only at e
    split at e
    · cases e; rfl
    · cases e
  | take =>
    rw [hm] at e
    dsimp only at e
    split at e
    · cases e; rfl
    · split at e
      · cases e; rfl
      · cases e
theorem grantsB_app {vals : Vs} {st : Std} {B : List (List Key)} : ∀ {a b : List Rq}, grantsB vals st B (a ++ b) = (grantsB vals st B a).bind fun x => (grantsB vals st B b).map fun y => x ++ y
  | [], b => by
    rw [List.nil_append, grantsB]
    cases grantsB vals st B b <;> rfl
  | r :: a, b => by
    rw [List.cons_append, grantsB, grantsB]
    split
    · rfl
    · cases beside vals st r with
      | none => rfl
      | some g =>
        dsimp only
        rw [grantsB_app (a := a)]
        cases grantsB vals st B a with
        | none => rfl
        | some x =>
          cases grantsB vals st B b <;> rfl
section
variable {P : Program} {w : World} {K : PySem.W.Frag} {mg : Str → Option Value} {base : Heap} {C : Addr}
/-! ### answer -/
def spAnswer (C : Addr) : Sp := fun vs H Q _ => ∃ (c dx dv la dg le : Addr) (h : Int) (vals : Vs) (st : Std) (g : Gr) (v : V), vs = [.ref c, v] ∧ CtrR C H c dx dv la dg le h vals st ∧ GrOk h g ∧ Td H v (cgD g) ∧ ∀ v' H', Bt [] H H' → Td H' v' (ansOf vals g) → Q v' H'
abbrev s_Counter_answer : Stmt := inClass (top 34) 10
theorem sc_Counter_answer : FnScope ["self", "grant", "key", "kind", "many"] ["self", "grant"] (defScope s_Counter_answer) := ⟨rfl, rfl, rfl, by decide +kernel, rfl, by decide +kernel, by decide +kernel⟩
theorem ok_answer {f : Addr} {fd : FuncData} (F : Fun K "answer" "Counter.answer" s_Counter_answer f fd) (TC : CFx K C) (C_value_in : Cal P w K mg base "value_in" 7 spValueIn) : FnOk P w K mg base CX0 8 f fd ["self", "grant"] (spAnswer C) := by
  refine F.ok sc_Counter_answer (fun vs H Q E h => ?_) (fun cdv A outer s H vs Q E hr h => ?_)
  · obtain ⟨_, _, _, _, _, _, _, _, _, _, _, rfl, _⟩ := h
    rfl
  · obtain ⟨c, dx, dv, la, dg, le, h, vals, st, g, v, rfl, ct, go, tg, q⟩ := h
    obtain ⟨b, ys, rfl, hb, tys⟩ := Td.tup_inv tg
    obtain ⟨v1, r1, rfl, t1, tys⟩ := tys.cons_inv
    obtain ⟨v2, r2, rfl, t2, tys⟩ := tys.cons_inv
    obtain ⟨v3, r3, rfl, t3, tys⟩ := tys.cons_inv
    cases tys.nil_inv
    have e2 := Td.str_inv t2
    have e3 := Td.int_inv t3
    subst e2 e3
    obtain ⟨kb, rfl, hkb, _⟩ := key_td t1
    refine ⟨_, ((pss_cons (ps_asg (pv 1) (pg_tup (by rfl) (pgs_cons (pg_name (i := 2) sc_Counter_answer.nd rfl (Or.inl rfl)) (pgs_cons (pg_name (i := 3) sc_Counter_answer.nd rfl (Or.inl rfl)) (pgs_cons (pg_name (i := 4) sc_Counter_answer.nd rfl (Or.inl rfl)) pgs_nil)))))
  (pss_cons (ps_if (pt_cmpR op_eq (pv 3) pe_str (nomark _)) (pss_one (ps_ret pe_non)) pss_nil)
  (pss_cons (ps_if (pt_cmpR op_eq (pv 3) pe_str (nomark _)) (pss_one (ps_ret (pv 4))) pss_nil)
  (pss_one (ps_ret (pe_cc C_value_in hr (by decide) (by rfl) (pa_cons (pe_fld (pv 0) rfl) (pa_cons (pv 2) pa_nil))))))))), ?_⟩
    refine ⟨_, rfl, b, _, rfl, .inl (.inl hb), rfl, ?_⟩
    refine ⟨_, _, rfl, _, _, rfl, _, _, rfl, rfl, ?_⟩
    refine ⟨_, rfl, rfl, _, rfl, iteD2 (fun z => ?_) (fun z1 => ?_)⟩
    · have e : g.kd = .add := Kd.s_inj (b := .add) (V.str.inj z)
      refine q _ H Bt.refl ?_
      unfold ansOf
      rw [e]
      exact .non
    refine ⟨_, rfl, rfl, _, rfl, iteD2 (fun z => ?_) (fun z2 => ?_)⟩
    · have e : g.kd = .ample := Kd.s_inj (b := .ample) (V.str.inj z)
      refine ⟨_, rfl, ?_⟩
      refine q _ H Bt.refl ?_
      unfold ansOf takenI
      rw [e, if_pos rfl]
      exact .int _
    refine ⟨_, rfl, c, C, dx, _, _, rfl, ct.fob, TC.cl, TC.values, flds_values, ?_⟩
    refine ⟨_, rfl, dv, kb, h, g.rq.key, vals, rfl, ct.fdv, hkb, go.rq.key, fun v4 H4 b4 t4 => ?_⟩
    refine q v4 H4 b4 ?_
    have e : ansOf vals g = gv vals g.rq.key := by
      unfold ansOf
      cases e : g.kd with
      | add => exact absurd (by rw [e]; rfl) z1
      | ample => exact absurd (by rw [e]; rfl) z2
      | see => rfl
      | own => rfl
      | short => rfl
    rw [e]
    exact t4

/-! ### grants_for -/
def spGrants (C : Addr) : Sp := fun vs H Q _ => ∃ (c dx dv la dg le a bd : Addr) (h : Int) (vals : Vs) (st : Std) (rs : List Rq) (B : List (List Key)), vs = [.ref c, .ref a, .ref bd] ∧ CtrR C H c dx dv la dg le h vals st ∧ Td H (.ref a) (reqsD rs) ∧ (∀ r ∈ rs, RqOk h r) ∧ rs.length ≤ 100 ∧ BlkAt H bd B ∧
  (∀ H', Bt [] H H' → grantsB vals st B rs = none → Q .non H') ∧ ∀ v gs H', Bt [] H H' → grantsB vals st B rs = some gs → Td H' v (cgsD gs) → Q v H'
abbrev s_Counter_grants_for : Stmt := inClass (top 34) 7
theorem sc_Counter_grants_for : FnScope ["self", "requests", "blocked", "grants", "key", "mode", "many", "kind"] ["self", "requests", "blocked"] (defScope s_Counter_grants_for) := ⟨rfl, rfl, rfl, by decide +kernel, rfl, by decide +kernel, by decide +kernel⟩
theorem ok_grants_for {f : Addr} {fd : FuncData} (F : Fun K "grants_for" "Counter.grants_for" s_Counter_grants_for f fd) (T : Blt mg) (TC : CFx K C) (M_kind_for : Mtd P w K mg base C "kind_for" 8 (spKind C)) : FnOk P w K mg base CX0 9 f fd ["self", "requests", "blocked"] (spGrants C) := by
  refine F.ok sc_Counter_grants_for (fun vs H Q E h => ?_) (fun cdv A outer s H vs Q E hr h => ?_)
  · obtain ⟨_, _, _, _, _, _, _, _, _, _, _, _, _, rfl, _⟩ := h
    rfl
  · obtain ⟨c, dx, dv, la, dg, le, a, bd, h, vals, st, rs, B, rfl, ct, ta, rok, rl, hB, q0, q1⟩ := h
    have hu := hu_of hr
    obtain ⟨_, xs, e, ha, ta⟩ := Td.tup_inv ta
    cases e
    have exl : xs.length = rs.length := by rw [ta.len, List.length_map]
    refine ⟨_, ((pss_cons (ps_set (i := 3) sc_Counter_grants_for.nd rfl (Or.inl rfl) (pe_lst pa_nil))
  (pss_cons (ps_for PassesOwn.never rfl (pi_tup (pv 1)) (pg_tup (by rfl) (pgs_cons (pg_name (i := 4) sc_Counter_grants_for.nd rfl (Or.inl rfl)) (pgs_cons (pg_name (i := 5) sc_Counter_grants_for.nd rfl (Or.inl rfl)) (pgs_cons (pg_name (i := 6) sc_Counter_grants_for.nd rfl (Or.inl rfl)) pgs_nil))))
  (pss_cons (ps_set (i := 7) sc_Counter_grants_for.nd rfl (Or.inl rfl) (pe_ifExp (pt_cmp (pc_din hu (pv 4) (pv 2))) pe_non (pe_mc M_kind_for TC.cl hr (by decide) (pv 0) (pa_cons (pv 4) (pa_cons (pv 5) (pa_cons (pv 6) pa_nil))))))
  (pss_cons (ps_if (pt_cmpR op_isN (pv 7) pe_non (nomark _)) (pss_one (ps_ret pe_non)) pss_nil)
  (pss_one (ps_expr (pe_bm PySem.F.plainAttrs_list PySem.F.slot_list_append PySem.F.type_list_append mt_append (pv 3) (pa_cons (pe_tup (pa_cons (pv 4) (pa_cons (pv 7) (pa_cons (pe_ifExp (pt_cmpR op_eq (pv 7) pe_str (nomark _)) (pv 6) pe_int) pa_nil)))) pa_nil)))))))
  (pss_one (ps_ret (pe_callTy call_tuple_of (by rfl) T.tuple B_tuple (pa_cons (pv 3) pa_nil))))))), ?_⟩
    refine ⟨by show 0 ≤ sizeLine; decide, fun p np => ?_⟩
    generalize e1 : upd _ p _ = H1
    obtain ⟨S1, h1⟩ := new_of e1 np
    clear e1
    refine ⟨_, rfl, a, rfl, ⟨_, .inl (.inl (S1.tup _ _ ha))⟩, ?_⟩
    refine for_tup (K := K) (a := a) (xs := xs) (fun i σ H2 => ∃ u1 u2 u3 u4 gs, σ = [some (.ref c), some (.ref a), some (.ref bd), some (.ref p), u1, u2, u3, u4] ∧ Bt [p] H H2 ∧ grantsB vals st B (rs.take i) = some gs ∧ gs.length ≤ i ∧ LsAt H2 p (gs.map cgD))
      ⟨none, none, none, none, [], rfl, S1.mono (fun _ z => nomatch z), rfl, Nat.le_refl _, [], h1, .nil⟩ (fun i σ H2 _ hp => ?_) ?_ ?_
    · obtain ⟨_, _, _, _, _, _, b2, _⟩ := hp
      exact .inl (.inl (b2.tup _ _ ha))
    · rintro i x σ H2 hx ⟨u1, u2, u3, u4, gs, rfl, b2, eg, gl, hp2⟩
      have c2 : Bt [] H H2 := b2.dropN np
      obtain ⟨dd, e2, td⟩ := (ta.bt b2).get' hx
      rw [List.getElem?_map] at e2
      cases er : rs[i]? with
      | none => rw [er] at e2; cases e2
      | some r =>
      rw [er] at e2
      cases e2
      obtain ⟨b, ys, rfl, hb, tys⟩ := Td.tup_inv td
      obtain ⟨v1, r1, rfl, t1, tys⟩ := tys.cons_inv
      obtain ⟨v2, r2, rfl, t2, tys⟩ := tys.cons_inv
      obtain ⟨v3, r3, rfl, t3, tys⟩ := tys.cons_inv
      cases tys.nil_inv
      have e2 := Td.str_inv t2
      have e3 := Td.int_inv t3
      subst e2 e3
      obtain ⟨kb, rfl, hkb, _⟩ := key_td t1
      have hrq := rok r (List.mem_of_getElem? er)
      have esplit : rs = rs.take i ++ r :: rs.drop (i + 1) := by
        have hi := List.getElem?_eq_some_iff.mp er
        obtain ⟨hi, e⟩ := hi
        rw [← e, List.getElem_cons_drop, List.take_append_drop]
      have et : rs.take (i + 1) = rs.take i ++ [r] := by rw [List.take_add_one, er]; rfl
      refine ⟨b, _, rfl, .inl (.inl hb), rfl, ?_⟩
      refine ⟨_, _, rfl, _, _, rfl, _, _, rfl, rfl, ?_⟩
      obtain ⟨o, og, oe⟩ := (hB.bt c2 (fun z => nomatch z)).get hkb
      refine ⟨_, rfl, _, rfl, bd, o, rfl, og, _, rfl, ?_⟩
      rw [oe]
      have hnone : ∀ H3, Bt [] H2 H3 → (inB B r.key = true ∨ beside vals st r = none) → Q .non H3 := fun H3 b3 z => by
        refine q0 H3 (c2.trans b3) ?_
        rw [esplit, grantsB_app, eg]
        show Option.map _ (grantsB vals st B (r :: _)) = none
        rw [grantsB]
        rcases z with z | z
        · rw [if_pos z]; rfl
        · rw [z]; split <;> rfl
      refine ite1 (fun eb => ?_) (fun eb => ?_)
      · refine ⟨_, rfl, rfl, _, rfl, iteDT rfl ?_⟩
        exact hnone H2 Bt.refl (.inl eb)
      · refine ⟨_, rfl, c, dx, _, rfl, c2.at ct.fob, flds_no (by decide +kernel) (by decide +kernel) (by decide +kernel) (by decide +kernel) (by decide +kernel), ?_⟩
        refine ⟨_, rfl, _, rfl, _, rfl, c, dx, dv, la, dg, le, kb, h, vals, st, r, rfl, ct.bt c2, hrq, hkb, fun H3 b3 => ?_⟩
        cases ebs : beside vals st r with
        | none =>
          have ek : kdOf vals st r = .non := by unfold kdOf; rw [ebs]
          rw [ek]
          refine ⟨_, rfl, rfl, _, rfl, iteDT rfl ?_⟩
          exact hnone H3 b3 (.inr ebs)
        | some g =>
          have ek : kdOf vals st r = .str g.kd.s := by unfold kdOf; rw [ebs]
          rw [ek]
          refine ⟨_, rfl, rfl, _, rfl, iteDF (fun z => nomatch z) ?_⟩
          have egr := beside_rq ebs
          obtain ⟨zs, hz1, hz2⟩ := hp2
          refine ⟨_, rfl, .inl ⟨rfl, _, .inl (.inl (b3.at hz1))⟩, ?_⟩
          refine ⟨_, rfl, _, rfl, ?_⟩
          refine ⟨_, rfl, rfl, _, rfl, ?_⟩
          have hnp : H3 p = some (.lst zs) := b3.at hz1
          have et2 : (if g.kd = Kd.ample then g.rq.many else 0) = takenI g := rfl
          have hil : i < rs.length := (List.getElem?_eq_some_iff.mp er).1
          have egs : grantsB vals st B (rs.take (i + 1)) = some (gs ++ [g]) := by
            rw [et, grantsB_app, eg]
            show Option.map _ (grantsB vals st B [r]) = _
            rw [grantsB, if_neg (by rw [eb]; exact Bool.false_ne_true), ebs]
            rfl
          refine iteD2 (fun z => ?_) (fun z => ?_)
          · have e : g.kd = .ample := Kd.s_inj (b := .ample) (V.str.inj z)
            refine ⟨_, rfl, ?_⟩
            refine ⟨by show 3 ≤ sizeLine; decide, fun p5 n5 => ?_⟩
            have np5 : p ≠ p5 := ne_of_none hnp n5
            generalize e5 : upd _ p5 _ = H5
            obtain ⟨S5, h5⟩ := new_of e5 n5
            clear e5
            refine ⟨p, zs, _, rfl, rfl, S5.at hnp, sz_lt (by rw [hz2.len, List.length_map]; omega), ?_⟩
            generalize e6 : upd _ p _ = H6
            obtain ⟨S6, h6⟩ := mut_of e6 (S5.at hnp) trivial
            clear e6
            refine ⟨_, _, _, _, gs ++ [g], rfl, ((b2.trans (b3.mono fun _ z => nomatch z)).trans (S5.mono fun _ z => nomatch z)).trans S6, egs, by rw [List.length_append, List.length_singleton]; omega, _, h6, ?_⟩
            rw [List.map_append]
            refine (((hz2.bt b3).bt S5).bt S6).app (.one ?_)
            refine (Td.tup h5 (.cons ?_ (.cons ?_ (.cons ?_ .nil)))).bt S6
            · rw [egr]; exact (t1.bt b3).bt S5
            · exact .str _ (Kd.ok _)
            · rw [show takenI g = r.many by unfold takenI; rw [if_pos e, egr]]; exact .int _
          · have e : ¬ g.kd = .ample := fun y => z (by rw [y]; rfl)
            refine ⟨by show 3 ≤ sizeLine; decide, fun p5 n5 => ?_⟩
            have np5 : p ≠ p5 := ne_of_none hnp n5
            generalize e5 : upd _ p5 _ = H5
            obtain ⟨S5, h5⟩ := new_of e5 n5
            clear e5
            refine ⟨p, zs, _, rfl, rfl, S5.at hnp, sz_lt (by rw [hz2.len, List.length_map]; omega), ?_⟩
            generalize e6 : upd _ p _ = H6
            obtain ⟨S6, h6⟩ := mut_of e6 (S5.at hnp) trivial
            clear e6
            refine ⟨_, _, _, _, gs ++ [g], rfl, ((b2.trans (b3.mono fun _ z => nomatch z)).trans (S5.mono fun _ z => nomatch z)).trans S6, egs, by rw [List.length_append, List.length_singleton]; omega, _, h6, ?_⟩
            rw [List.map_append]
            refine (((hz2.bt b3).bt S5).bt S6).app (.one ?_)
            refine (Td.tup h5 (.cons ?_ (.cons ?_ (.cons ?_ .nil)))).bt S6
            · rw [egr]; exact (t1.bt b3).bt S5
            · exact .str _ (Kd.ok _)
            · rw [show takenI g = 0 by unfold takenI; rw [if_neg e]]; exact .int _
    · rintro σ H2 ⟨u1, u2, u3, u4, gs, rfl, b2, eg, gl, hp2⟩
      obtain ⟨zs, hz1, hz2⟩ := hp2
      refine ⟨_, rfl, p, zs, rfl, .inl ⟨.inl (.inl hz1), fun p4 n4 => ?_⟩⟩
      generalize e4 : upd _ p4 _ = H4
      obtain ⟨S4, h4⟩ := new_of e4 n4
      clear e4
      rw [exl, List.take_length] at eg
      exact q1 _ gs H4 ((b2.dropN np).trans S4) eg (.tup h4 (hz2.bt S4))
end
end K33

/-! K9: the counter's methods: look -/
namespace K33
open PySem L2
theorem no1 {a b : Addr} (h : a ≠ b) : a ∉ [b] := fun z => h (List.mem_singleton.mp z)
theorem kD_dp (k : List Key) : (kD k).depth ≤ 1 := by rw [kD_depth]; omega
theorem flds_put {h : Int} {dv la dg le p : Addr} : putF ("asks" : Str) (.ref p) (flds h dv la dg le) = flds h dv p dg le := by
  unfold flds
  have n1 : ¬ ("house" : Str) = ("asks" : Str) := by decide +kernel
  have n2 : ¬ ("values_now" : Str) = ("asks" : Str) := by decide +kernel
  rw [putF, if_neg n1, putF, if_neg n2, putF, if_pos rfl]
structure StOk (h : Int) (vals : Vs) (asks : List Ask) (st : Std) (tr : Tr) : Prop where
  po : PrsOk h vals
  ao : ∀ a ∈ asks, AskOk h a
  so : StdOk h st
  to : ∀ q ∈ tr, IdOk q.2
  nd : ((st.map (·.1)) ++ (asks.map (·.1))).Nodup
  sz : asks.length + st.length ≤ 60
  tz : tr.length ≤ 200
theorem pass1_ids {vals : Vs} {p : Ps} {a : Ask} {x : List Key} (h : x ∈ (pass1 vals p a).st.map (·.1)) : x ∈ p.st.map (·.1) ∨ x = a.1 := by
  unfold pass1 at h
  split at h
  · exact .inl h
  · rw [List.map_append, List.mem_append] at h
    rcases h with h | h
    · exact .inl h
    · exact .inr (List.mem_singleton.mp h)
theorem fold_ids {vals : Vs} {x : List Key} : ∀ {l : List Ask} {p : Ps}, x ∈ (l.foldl (pass1 vals) p).st.map (·.1) → x ∈ p.st.map (·.1) ∨ x ∈ l.map (·.1)
  | [], _, h => .inl h
  | a :: l, p, h => by
    rcases fold_ids (l := l) (p := pass1 vals p a) h with z | z
    · rcases pass1_ids z with z | z
      · exact .inl z
      · exact .inr (by rw [z]; exact List.mem_cons_self)
    · exact .inr (List.mem_cons_of_mem _ z)
theorem StOk.fresh {h : Int} {vals : Vs} {asks : List Ask} {st : Std} {tr : Tr} (s : StOk h vals asks st tr) {i : Nat} {a : Ask} (e : asks[i]? = some a) : a.1 ∉ ((asks.take i).foldl (pass1 vals) ⟨[], st, tr, []⟩).st.map (·.1) := by
  intro m
  have nd := s.nd
  rw [List.nodup_append] at nd
  obtain ⟨_, n2, n3⟩ := nd
  have ma : a.1 ∈ asks.map (·.1) := List.mem_map.mpr ⟨a, List.mem_of_getElem? e, rfl⟩
  rcases fold_ids m with z | z
  · exact n3 _ z _ ma rfl
  · obtain ⟨hi, e2⟩ := List.getElem?_eq_some_iff.mp e
    have esp : asks.map (·.1) = (asks.take i).map (·.1) ++ a.1 :: (asks.drop (i + 1)).map (·.1) := by
      rw [← List.map_cons (f := fun a : Ask => a.1), ← List.map_append, ← e2, List.getElem_cons_drop, List.take_append_drop]
    rw [esp, List.nodup_append] at n2
    exact n2.2.2 _ z _ List.mem_cons_self rfl
theorem pt_new {st : Std} {id : List Key} {gs : List Gr} (n : id ∉ st.map (·.1)) : pt (stV st) id (cgsD gs) = stV (st ++ [(id, gs)]) := by
  have hm : (stV st).map (·.1) = st.map (·.1) := by
    unfold stV
    rw [List.map_map]
    rfl
  unfold pt
  rw [if_neg (fun z => n (by rw [← hm]; exact any_mem.mp z))]
  unfold stV
  rw [List.map_append]
  rfl
theorem keysOf_snoc (l : List Ask) (a : Ask) : keysOf (l ++ [a]) = keysOf l ++ a.2.map (·.key) := by
  unfold keysOf
  rw [List.flatMap_append, List.flatMap_singleton]
theorem keysOf_len : ∀ {l : List Ask}, (∀ a ∈ l, a.2.length ≤ 100) → (keysOf l).length ≤ 100 * l.length
  | [], _ => Nat.le_refl _
  | a :: l, h => by
    have h1 := keysOf_len (l := l) fun x m => h x (List.mem_cons_of_mem _ m)
    have h2 := h a List.mem_cons_self
    unfold keysOf at h1 ⊢
    rw [List.flatMap_cons, List.length_append, List.length_map, List.length_cons]
    omega
structure LkAt (H0 : Hp) (p1 p2 p3 dg le : Addr) (ps : Ps) (H : Hp) : Prop where
  b : Bt [p1, p2, p3, dg, le] H0 H
  h1 : LsAt H p1 (ps.told.map toldD)
  h2 : LsAt H p2 (ps.left.map askD)
  h3 : BlkAt H p3 (keysOf ps.left)
  hg : DictAt H dg (stV ps.st)
  he : LsAt H le (ps.tr.map trD)
section
variable {P : Program} {w : World} {K : PySem.W.Frag} {mg : Str → Option Value} {base : Heap} {C : Addr}
def spLook (C : Addr) : Sp := fun vs H Q _ => ∃ (c dx dv la dg le : Addr) (h : Int) (vals : Vs) (asks : List Ask) (st : Std) (tr : Tr), vs = [.ref c] ∧ CtrAt C H c dx dv la dg le h vals asks st tr ∧ StOk h vals asks st tr ∧
  ∀ v H' la', H la' = none → Bt [c, dg, le] H H' → CtrAt C H' c dx dv la' dg le h vals (pass vals asks st tr).left (pass vals asks st tr).st (pass vals asks st tr).tr → Td H' v (.tuple ((pass vals asks st tr).told.map toldD)) → Q v H'
abbrev s_Counter_look : Stmt := inClass (top 34) 6
theorem sc_Counter_look : FnScope ["self", "granted", "waiting", "blocked", "deed_id", "requests", "grants", "request", "grant"] ["self"] (defScope s_Counter_look) := ⟨rfl, rfl, rfl, by decide +kernel, rfl, by decide +kernel, by decide +kernel⟩
theorem ok_look {f : Addr} {fd : FuncData} (F : Fun K "look" "Counter.look" s_Counter_look f fd) (T : Blt mg) (TC : CFx K C) (M_grants_for : Mtd P w K mg base C "grants_for" 9 (spGrants C)) (M_answer : Mtd P w K mg base C "answer" 8 (spAnswer C)) : FnOk P w K mg base CX0 10 f fd ["self"] (spLook C) := by
  refine F.ok sc_Counter_look (fun vs H Q E h => ?_) (fun cdv A outer s H vs Q E hr h => ?_)
  · obtain ⟨_, _, _, _, _, _, _, _, _, _, _, rfl, _⟩ := h
    rfl
  · obtain ⟨c, dx, dv, la, dg, le, h, vals, asks, st, tr, rfl, ct, so, q⟩ := h
    have hu := hu_of hr
    obtain ⟨⟨lvs, hla, tla⟩, ⟨kvg, hdg, _⟩, ⟨lve, hle, _⟩, ⟨kvv, hdv, _⟩⟩ := And.intro ct.fla (And.intro ct.fdg (And.intro ct.fle ct.fdv))
    have lal : lvs.length = asks.length := by rw [tla.len, List.length_map]
    have hsz := so.sz
    refine ⟨_, ((pss_cons (ps_set (i := 1) sc_Counter_look.nd rfl (Or.inl rfl) (pe_lst pa_nil))
  (pss_cons (ps_set (i := 2) sc_Counter_look.nd rfl (Or.inl rfl) (pe_lst pa_nil))
  (pss_cons (ps_set (i := 3) sc_Counter_look.nd rfl (Or.inl rfl) pe_dnewT)
  (pss_cons (ps_for PassesOwn.never rfl (pi_list (pe_fld (pv 0) rfl)) (pg_tup (by rfl) (pgs_cons (pg_name (i := 4) sc_Counter_look.nd rfl (Or.inl rfl)) (pgs_cons (pg_name (i := 5) sc_Counter_look.nd rfl (Or.inl rfl)) pgs_nil)))
  (pss_cons (ps_set (i := 6) sc_Counter_look.nd rfl (Or.inl rfl) (pe_mc M_grants_for TC.cl hr (by decide) (pv 0) (pa_cons (pv 5) (pa_cons (pv 3) pa_nil))))
  (pss_one (ps_if (pt_cmpR op_isN (pv 6) pe_non (nomark _)) (pss_cons (ps_expr (pe_bm PySem.F.plainAttrs_list PySem.F.slot_list_append PySem.F.type_list_append mt_append (pv 2) (pa_cons (pe_tup (pa_cons (pv 4) (pa_cons (pv 5) pa_nil))) pa_nil)))
  (pss_one (ps_for PassesOwn.never rfl (pi_tup (pv 5)) (pg_name (i := 7) sc_Counter_look.nd rfl (Or.inl rfl))
  (pss_one (ps_dput hu (pv 3) (pe_ix (ix_tupK (K := K) rfl) (pv 7) pe_int (fun _ _ => rfl)) pe_bl rfl))))) (pss_cons (ps_dput hu (pe_fld (pv 0) rfl) (pv 4) (pv 6) rfl)
  (pss_cons (ps_expr (pe_bm PySem.F.plainAttrs_list PySem.F.slot_list_append PySem.F.type_list_append mt_append (pe_fld (pv 0) rfl) (pa_cons (pe_tup (pa_cons pe_str (pa_cons (pv 4) pa_nil))) pa_nil)))
  (pss_one (ps_expr (pe_bm PySem.F.plainAttrs_list PySem.F.slot_list_append PySem.F.type_list_append mt_append (pv 1) (pa_cons (pe_tup (pa_cons (pv 4) (pa_cons (pe_callTy call_tuple_of (by rfl) T.tuple B_tuple (pa_cons (pe_lc (own := [("grant", 8)]) (g := gName 8)  rfl sc_Counter_look.nd (pi_tup (pv 6)) (blkOk_by (own := [("grant", 8)]) (N := ["self", "granted", "waiting", "blocked", "deed_id", "requests", "grants", "request", "grant"]) (sc := defScope s_Counter_look) (by decide +kernel)) (fun _ _ _ _ _ => (pg_name (i := 8) sc_Counter_look.nd rfl (Or.inl rfl))) (fun _ _ _ _ _ => pts_nil) (fun _ _ _ _ _ => (pe_mc M_answer TC.cl hr (by decide) (pv 0) (pa_cons (pv 8) pa_nil)))) pa_nil)) pa_nil))) pa_nil))))))))))
  (pss_cons (ps_fld (pv 0) (pv 2) rfl)
  (pss_one (ps_ret (pe_callTy call_tuple_of (by rfl) T.tuple B_tuple (pa_cons (pv 1) pa_nil)))))))))), ?_⟩
    refine ⟨by show 0 ≤ sizeLine; decide, fun p1 n1 => ?_⟩
    generalize e1 : upd _ p1 _ = H1
    obtain ⟨S1, h1⟩ := new_of e1 n1
    clear e1
    refine ⟨by show 0 ≤ sizeLine; decide, fun p2 n2 => ?_⟩
    generalize e2 : upd _ p2 _ = H2
    obtain ⟨S2, h2⟩ := new_of e2 n2
    clear e2
    intro p3 n3
    generalize e3 : upd _ p3 _ = H3
    obtain ⟨S3, h3⟩ := new_of e3 n3
    clear e3
    have b3 : Bt [] H H3 := (S1.trans S2).trans S3
    have hp2 : H p2 = none := by
      cases e : H p2 with
      | none => rfl
      | some o => rw [S1.at e] at n2; cases n2
    have hp3 : H p3 = none := by
      cases e : H p3 with
      | none => rfl
      | some o => rw [S2.at (S1.at e)] at n3; cases n3
    have n12 : p1 ≠ p2 := ne_of_none h1 n2
    have n13 : p1 ≠ p3 := ne_of_none (S2.at h1) n3
    have n23 : p2 ≠ p3 := ne_of_none h2 n3
    have dg1 : dg ≠ p1 := ne_of_none hdg n1
    have dg2 : dg ≠ p2 := ne_of_none hdg hp2
    have dg3 : dg ≠ p3 := ne_of_none hdg hp3
    have le1 : le ≠ p1 := ne_of_none hle n1
    have le2 : le ≠ p2 := ne_of_none hle hp2
    have le3 : le ≠ p3 := ne_of_none hle hp3
    have lg : le ≠ dg := ne_of hle hdg (by intro z; cases z)
    have out : ∀ (x : Addr) (o : HO), H x = some o → x ≠ dg → x ≠ le → x ∉ [p1, p2, p3, dg, le] := by
      intro x o hx ng nl z
      have m1 := ne_of_none hx n1
      have m2 := ne_of_none hx hp2
      have m3 := ne_of_none hx hp3
      simp only [List.mem_cons, List.not_mem_nil, or_false] at z
      rcases z with z | z | z | z | z
      · exact m1 z
      · exact m2 z
      · exact m3 z
      · exact ng z
      · exact nl z
    have oc := out c _ ct.fob (ne_of ct.fob hdg (by intro z; cases z)) (ne_of ct.fob hle (by intro z; cases z))
    have ov := out dv _ hdv ct.ne1 (ne_of hdv hle (by intro z; cases z))
    have ola := out la _ hla (ne_of hla hdg (by intro z; cases z)) ct.ne2
    refine ⟨_, rfl, c, C, dx, _, _, rfl, b3.at ct.fob, TC.cl, TC.asks, flds_asks, ?_⟩
    refine ⟨la, rfl, ⟨lvs, .inl (.inl (b3.at hla))⟩, ?_⟩
    generalize hps : (fun i : Nat => (asks.take i).foldl (pass1 vals) ⟨[], st, tr, []⟩) = ps
    have hps' : ∀ i, ps i = (asks.take i).foldl (pass1 vals) ⟨[], st, tr, []⟩ := fun i => by rw [← hps]
    refine for_list (K := K) (a := la) (xs := lvs) (fun i σ H4 => ∃ u1 u2 u3 u4 u5, σ = [some (.ref c), some (.ref p1), some (.ref p2), some (.ref p3), u1, u2, u3, u4, u5] ∧ LkAt H p1 p2 p3 dg le (ps i) H4)
      ⟨none, none, none, none, none, rfl, b3.nil, ?_, ?_, ?_, ?_, ?_⟩ (fun i σ H2 _ hp => ?_) ?_ ?_
    · rw [hps']
      exact ⟨[], (S2.trans S3).at h1, .nil⟩
    · rw [hps']
      exact ⟨[], S3.at h2, .nil⟩
    · rw [hps']
      exact ⟨[], h3, fun _ => rfl, Nat.le_refl _⟩
    · rw [hps']
      exact ct.fdg.bt b3 (fun z => nomatch z)
    · rw [hps']
      exact ct.fle.bt b3 (fun z => nomatch z)
    · obtain ⟨_, _, _, _, _, _, lk⟩ := hp
      exact .inl (.inl (lk.b.keep _ _ ola hla))
    · rintro i x σ H4 hx ⟨u1, u2, u3, u4, u5, rfl, lk⟩
      have hil : i < asks.length := by rw [← lal]; exact (List.getElem?_eq_some_iff.mp hx).1
      obtain ⟨dd, e2, td⟩ := (tla.bt lk.b).get' hx
      rw [List.getElem?_map] at e2
      cases er : asks[i]? with
      | none => rw [er] at e2; cases e2
      | some a =>
      rw [er] at e2
      cases e2
      have hao := so.ao a (List.mem_of_getElem? er)
      have fr := so.fresh (vals := vals) er
      rw [← hps'] at fr
      have epass : ps (i + 1) = pass1 vals (ps i) a := by
        rw [hps', hps']
        exact fold_take er
      have pok : PsOk h (ps i) := by
        rw [hps']
        exact fold_ok so.po ⟨(fun _ m => nomatch m), so.so, so.to, ⟨(fun _ m => nomatch m), (fun _ m => nomatch m), (fun _ m => nomatch m)⟩⟩ fun a m => so.ao a (List.mem_of_mem_take m)
      have plen : (ps i).left.length ≤ 100 ∧ (ps i).st.length ≤ 100 ∧ (ps i).tr.length ≤ 400 ∧ (ps i).told.length ≤ 100 := by
        rw [hps']
        have := fold_len (vals := vals) (l := asks.take i) (p := ⟨[], st, tr, []⟩)
        obtain ⟨a1, a2, a3⟩ := this
        have htz := so.tz
        generalize (asks.take i).foldl (pass1 vals) ⟨[], st, tr, []⟩ = q at *
        have h9 : (asks.take i).length ≤ asks.length := by rw [List.length_take]; omega
        simp only [List.length_nil] at a1 a2 a3
        refine ⟨?_, ?_, ?_, ?_⟩ <;> omega
      obtain ⟨l1, l2, l3, l4⟩ := plen
      have heq : grantsB vals (ps i).st (keysOf (ps i).left) a.2 = if blockedBy (ps i).left a.2 = true then none else grantsFor vals (ps i).st a.2 := by rw [grantsB_eq, blocked_eq]
      have hklen : (keysOf (ps i).left).length ≤ 10000 := by
        have := keysOf_len (l := (ps i).left) fun a m => (pok.left a m).len
        omega
      obtain ⟨b, ys, rfl, hb, tys⟩ := Td.tup_inv td
      obtain ⟨v1, r1, rfl, t1, tys⟩ := tys.cons_inv
      obtain ⟨v2, r2, rfl, t2, tys⟩ := tys.cons_inv
      cases tys.nil_inv
      obtain ⟨kb, rfl, hkb, _⟩ := key_td t1
      obtain ⟨rb, rxs, rfl, hrb, trx⟩ := Td.tup_inv t2
      have rxl : rxs.length = a.2.length := by rw [trx.len, List.length_map]
      have ctr4 : CtrR C H4 c dx dv la dg le h vals (ps i).st := ⟨lk.b.keep _ _ oc ct.fob, ct.fdv.bt lk.b ov, lk.hg, so.po, pok.st, by omega⟩
      refine ⟨b, _, rfl, .inl (.inl hb), rfl, ?_⟩
      refine ⟨_, _, rfl, _, _, rfl, rfl, ?_⟩
      refine ⟨_, rfl, c, dx, _, rfl, ctr4.fob, flds_no (by decide +kernel) (by decide +kernel) (by decide +kernel) (by decide +kernel) (by decide +kernel), ?_⟩
      refine ⟨_, rfl, _, rfl, c, dx, dv, la, dg, le, rb, p3, h, vals, (ps i).st, a.2, keysOf (ps i).left, rfl, ctr4, t2, hao.rqs, hao.len, lk.h3, fun H5 b5 eg => ?_, fun v gs H5 b5 eg tv => ?_⟩
      · refine ⟨_, rfl, rfl, _, rfl, iteDT rfl ?_⟩
        obtain ⟨zs, hz1, hz2⟩ := lk.h2.bt b5 (fun z => nomatch z)
        refine ⟨_, rfl, .inl ⟨rfl, _, .inl (.inl hz1)⟩, ?_⟩
        refine ⟨_, rfl, _, rfl, by show 2 ≤ sizeLine; decide, fun p6 n6 => ?_⟩
        generalize e6 : upd _ p6 _ = H6
        obtain ⟨S6, h6⟩ := new_of e6 n6
        clear e6
        refine ⟨p2, zs, _, rfl, rfl, S6.at hz1, sz_lt (by rw [hz2.len, List.length_map]; omega), ?_⟩
        generalize e7 : upd _ p2 _ = H7
        obtain ⟨S7, h7⟩ := mut_of e7 (S6.at hz1) trivial
        clear e7
        have b57 : Bt [p2] H5 H7 := (S6.mono fun _ z => nomatch z).trans S7
        have b47 : Bt [p2] H4 H7 := (b5.mono fun _ z => nomatch z).trans b57
        refine ⟨_, rfl, rb, rfl, ⟨_, .inl (.inl (b47.tup _ _ hrb))⟩, ?_⟩
        refine for_tup (K := K) (a := rb) (xs := rxs) (fun j σ H8 => ∃ u7, σ = [some (.ref c), some (.ref p1), some (.ref p2), some (.ref p3), some (.ref kb), some (.ref rb), some .non, u7, u5] ∧ Bt [p3] H7 H8 ∧ BlkAt H8 p3 (keysOf (ps i).left ++ (a.2.take j).map (·.key)))
          ⟨u4, rfl, Bt.refl, by simpa using lk.h3.bt b47 (no1 n23.symm)⟩ (fun j σ H8 _ hp => ?_) ?_ ?_
        · obtain ⟨_, _, b8, _⟩ := hp
          exact .inl (.inl (b8.tup _ _ (b47.tup _ _ hrb)))
        · rintro j y σ H8 hy ⟨u7, rfl, b8, hB8⟩
          obtain ⟨dd, e8, td8⟩ := ((trx.bt b47).bt b8).get' hy
          rw [List.getElem?_map] at e8
          cases ej : a.2[j]? with
          | none => rw [ej] at e8; cases e8
          | some r =>
          rw [ej] at e8
          cases e8
          obtain ⟨qb, qs, rfl, hqb, tqs⟩ := Td.tup_inv td8
          obtain ⟨w1, q1, rfl, tw1, tqs⟩ := tqs.cons_inv
          obtain ⟨kb2, rfl, hkb2, _⟩ := key_td tw1
          obtain ⟨H9, put, b9, hB9⟩ := hB8.put (v := .bl true) hkb2 (by
            rw [List.length_append, List.length_map, List.length_take]
            have := hao.len
            omega)
          refine ⟨_, rfl, ?_⟩
          refine ⟨_, rfl, qb, _, _, _, rfl, rfl, .inl (.inl hqb), atI_nat (j := 0) rfl, ?_⟩
          refine ⟨p3, H9, rfl, put, ?_⟩
          refine ⟨_, rfl, b8.trans b9, ?_⟩
          rw [take_map _ ej, ← List.append_assoc]
          exact hB9
        · rintro σ H8 ⟨u7, rfl, b8, hB8⟩
          rw [rxl, List.take_length] at hB8
          have b58 : Bt [p2, p3] H4 H8 := (b47.mono fun _ z => by simp at z; simp [z]).trans (b8.mono fun _ z => by simp at z; simp [z])
          have ep : ps (i + 1) = { ps i with left := (ps i).left ++ [a] } := by
            rw [epass]
            unfold pass1
            rw [← heq, eg]
          refine ⟨_, _, _, _, _, rfl, ?_⟩
          rw [ep]
          refine ⟨lk.b.trans (b58.mono fun _ z => by simp at z; rcases z with z | z <;> simp [z]), lk.h1.bt b58 (by simp [n12, n13]), ?_, ?_, lk.hg.bt b58 (by simp [dg2, dg3]), lk.he.bt b58 (by simp [le2, le3])⟩
          · refine LsAt.bt b8 (no1 n23) ⟨_, h7, ?_⟩
            rw [List.map_append]
            refine (hz2.bt b57).app (.one ?_)
            exact (Td.tup h6 (.cons ((t1.bt b5).bt S6) (.cons ((t2.bt b5).bt S6) .nil))).bt S7
          · show BlkAt H8 p3 (keysOf ((ps i).left ++ [a]))
            rw [keysOf_snoc]
            exact hB8
      · obtain ⟨gb, gxs, rfl, hgb, tgx⟩ := Td.tup_inv tv
        have gxl : gxs.length = gs.length := by rw [tgx.len, List.length_map]
        have gsl : gs.length ≤ 100 := by
          rw [heq] at eg
          split at eg
          · cases eg
          · have := congrArg List.length (grantsFor_ok so.po hao.rqs eg).2
            rw [List.length_map] at this
            have := hao.len
            omega
        have gok : ∀ g ∈ gs, GrOk h g := by
          rw [heq] at eg
          split at eg
          · cases eg
          · exact (grantsFor_ok so.po hao.rqs eg).1
        have gans : ∀ g ∈ gs, g.ans = ansOf vals g := by
          rw [heq] at eg
          split at eg
          · cases eg
          · exact grantsFor_ans eg
        have ep : ps (i + 1) = { left := (ps i).left, st := (ps i).st ++ [(a.1, gs)], tr := (ps i).tr ++ [(true, a.1)], told := (ps i).told ++ [(a.1, gs)] } := by
          rw [epass]
          unfold pass1
          rw [← heq, eg]
        refine ⟨_, rfl, rfl, _, rfl, iteDF (fun z => nomatch z) ?_⟩
        refine ⟨_, rfl, ?_⟩
        refine ⟨_, rfl, c, C, dx, _, _, rfl, b5.at ctr4.fob, TC.cl, TC.grants, flds_grants, ?_⟩
        obtain ⟨H6, put, S6, hg6⟩ := (lk.hg.bt b5 (fun z => nomatch z)).put (b5.tup _ _ hkb) tv (by
          unfold stV
          rw [List.length_map]
          omega)
        rw [pt_new fr] at hg6
        refine ⟨_, rfl, dg, H6, rfl, put, ?_⟩
        have b46 : Bt [dg] H4 H6 := (b5.mono fun _ z => nomatch z).trans S6
        have c6 : H6 c = some (.ins C dx (flds h dv la dg le)) := b46.keep _ _ (fun z => oc (by simp at z; simp [z])) ctr4.fob
        obtain ⟨zs, hz1, hz2⟩ := lk.he.bt b46 (no1 lg)
        refine ⟨_, rfl, c, C, dx, _, _, rfl, c6, TC.cl, TC.entries, flds_entries, ?_⟩
        refine ⟨.inl ⟨rfl, _, .inl (.inl hz1)⟩, ?_⟩
        refine ⟨_, rfl, by show 2 ≤ sizeLine; decide, fun p7 n7 => ?_⟩
        generalize e7 : upd _ p7 _ = H7
        obtain ⟨S7, h7⟩ := new_of e7 n7
        clear e7
        refine ⟨le, zs, _, rfl, rfl, S7.at hz1, sz_lt (by rw [hz2.len, List.length_map]; omega), ?_⟩
        generalize e8 : upd _ le _ = H8
        obtain ⟨S8, h8⟩ := mut_of e8 (S7.at hz1) trivial
        clear e8
        have b68 : Bt [le] H6 H8 := (S7.mono fun _ z => nomatch z).trans S8
        have b48 : Bt [dg, le] H4 H8 := (b46.mono fun _ z => by simp at z; simp [z]).trans (b68.mono fun _ z => by simp at z; simp [z])
        have he8 : LsAt H8 le (((ps i).tr ++ [(true, a.1)]).map trD) := by
          refine ⟨_, h8, ?_⟩
          rw [List.map_append]
          refine (hz2.bt b68).app (.one ?_)
          exact (Td.tup h7 (.cons (.str _ (trS_ok true)) (.cons (((t1.bt b46)).bt S7) .nil))).bt S8
        have hg8 := hg6.bt b68 (no1 lg.symm)
        have nst : StdOk h ((ps i).st ++ [(a.1, gs)]) := pok.st.snoc hao.id gok gsl
        have c8 : H8 c = some (.ins C dx (flds h dv la dg le)) := b48.keep _ _ (fun z => oc (by simp at z; rcases z with z | z <;> simp [z])) ctr4.fob
        have ctr8 : CtrR C H8 c dx dv la dg le h vals ((ps i).st ++ [(a.1, gs)]) := ⟨c8, ctr4.fdv.bt b48 (fun z => ov (by simp at z; rcases z with z | z <;> simp [z])), hg8, so.po, nst, by rw [List.length_append, List.length_singleton]; omega⟩
        obtain ⟨ts, hp1, tts⟩ := lk.h1.bt b48 (by simp [dg1.symm, le1.symm])
        refine ⟨_, rfl, .inl ⟨rfl, _, .inl (.inl hp1)⟩, ?_⟩
        refine ⟨_, rfl, ?_⟩
        have hgb8 : H8 gb = some (.tup gxs) := b68.tup _ _ (S6.tup _ _ hgb)
        refine ⟨_, rfl, gb, rfl, ⟨_, .inl (.inl hgb8)⟩, fun D nD => ?_⟩
        refine lcD (walk_tup (K := K) (xs := gxs)) nD (fun H b => .inl (.inl (b.tup _ _ hgb8))) (by omega) (fun i => (gs.take i).map (·.ans)) rfl ?_ ?_
        · intro j y H9 hy b9 N1 N2 k1 k2
          obtain ⟨dd, e9, td9⟩ := ((tgx.bt S6).bt b68 |>.bt b9).get' hy
          rw [List.getElem?_map] at e9
          cases ej : gs[j]? with
          | none => rw [ej] at e9; cases e9
          | some g =>
          rw [ej] at e9
          cases e9
          have gm := List.mem_of_getElem? ej
          refine ⟨rfl, ?_⟩
          refine ⟨_, rfl, c, dx, _, rfl, b9.at c8, flds_no (by decide +kernel) (by decide +kernel) (by decide +kernel) (by decide +kernel) (by decide +kernel), ?_⟩
          refine ⟨_, rfl, c, dx, dv, la, dg, le, h, vals, _, g, _, rfl, ctr8.bt b9, gok g gm, td9, fun v' H10 b10 tv' => ?_⟩
          exact k1 v' H10 _ b10 tv' (by rw [← gans g gm]; exact take_map _ ej)
        · intro H9 zs9 b9 hD tz9
          refine ⟨D, zs9, rfl, .inl ⟨.inl (.inl hD), fun p10 n10 => ?_⟩⟩
          generalize e10 : upd _ p10 _ = H10
          obtain ⟨S10, h10⟩ := new_of e10 n10
          clear e10
          rw [gxl, List.take_length] at tz9
          have ta10 : Td H10 (.ref p10) (ansD gs) := .tup h10 (tz9.bt S10)
          refine ⟨by show 2 ≤ sizeLine; decide, fun p11 n11 => ?_⟩
          generalize e11 : upd _ p11 _ = H11
          obtain ⟨S11, h11⟩ := new_of e11 n11
          clear e11
          have b8b : Bt [] H8 H11 := (b9.trans S10).trans S11
          refine ⟨p1, ts, _, rfl, rfl, b8b.at hp1, sz_lt (by rw [tts.len, List.length_map]; omega), ?_⟩
          generalize e12 : upd _ p1 _ = H12
          obtain ⟨S12, h12⟩ := mut_of e12 (b8b.at hp1) trivial
          clear e12
          have b8c : Bt [p1] H8 H12 := b8b.nil.trans S12
          refine ⟨_, _, _, _, _, rfl, ?_⟩
          rw [ep]
          have b4c : Bt [p1, dg, le] H4 H12 := (b48.mono fun _ z => by simp at z; rcases z with z | z <;> simp [z]).trans (b8c.mono fun _ z => by simp at z; simp [z])
          refine ⟨lk.b.trans (b4c.mono fun _ z => by simp at z; rcases z with z | z | z <;> simp [z]), ?_, lk.h2.bt b4c (by simp [n12.symm, dg2.symm, le2.symm]), lk.h3.bt b4c (by simp [n13.symm, dg3.symm, le3.symm]), hg8.bt b8c (no1 dg1), he8.bt b8c (no1 le1)⟩
          refine ⟨_, h12, ?_⟩
          rw [List.map_append]
          refine (tts.bt b8c).app (.one ?_)
          exact (Td.tup h11 (.cons (((t1.bt b48).bt b8b)) (.cons (ta10.bt S11) .nil))).bt S12
    · rintro σ H4 ⟨u1, u2, u3, u4, u5, rfl, lk⟩
      rw [show ps lvs.length = pass vals asks st tr by rw [hps', lal, List.take_length]; rfl] at lk
      have c4 := lk.b.keep _ _ oc ct.fob
      refine ⟨_, rfl, _, rfl, c, C, dx, _, rfl, c4, TC.cl, TC.asks, (by show 5 < 1000; decide), ?_⟩
      rw [flds_put]
      generalize e5 : upd _ c _ = H5
      obtain ⟨S5, h5⟩ := mut_of e5 c4 trivial
      clear e5
      have c1 : c ≠ p1 := ne_of_none ct.fob n1
      have c2 : c ≠ p2 := ne_of_none ct.fob hp2
      have c3 : c ≠ p3 := ne_of_none ct.fob hp3
      have cdg : c ≠ dg := fun z => oc (by simp [z])
      have cle : c ≠ le := fun z => oc (by simp [z])
      have cdv : c ≠ dv := ne_of ct.fob hdv (by intro z; cases z)
      obtain ⟨ts, hp1, tts⟩ := lk.h1.bt S5 (no1 c1.symm)
      refine ⟨_, rfl, p1, ts, rfl, .inl ⟨.inl (.inl hp1), fun p6 n6 => ?_⟩⟩
      generalize e6 : upd _ p6 _ = H6
      obtain ⟨S6, h6⟩ := new_of e6 n6
      clear e6
      refine q _ H6 p2 hp2 ?_ ⟨S6.at h5, ?_, ?_, ?_, ?_, ct.ne1, le2.symm⟩ (.tup h6 (tts.bt S6))
      · have b0 : Bt (p1 :: p2 :: p3 :: [c, dg, le]) H H6 := (lk.b.mono fun _ z => by simp at z; rcases z with z | z | z | z | z <;> simp [z]).trans ((S5.mono fun _ z => by simp at z; simp [z]).trans S6.nil)
        exact ((b0.dropN n1).dropN hp2).dropN hp3
      · exact ((ct.fdv.bt lk.b ov).bt S5 (no1 cdv.symm)).bt S6 (fun z => nomatch z)
      · exact (lk.h2.bt S5 (no1 c2.symm)).bt S6 (fun z => nomatch z)
      · exact (lk.hg.bt S5 (no1 cdg.symm)).bt S6 (fun z => nomatch z)
      · exact (lk.he.bt S5 (no1 cle.symm)).bt S6 (fun z => nomatch z)
end
end K33

/-! K10: the counter's methods: was_asked, ask, end and the small ones -/
namespace K33
open PySem L2
theorem fresh_back {ls : List Addr} {H H' : Hp} {a : Addr} (b : Bt ls H H') (h : ∀ x ∈ ls, H' x ≠ none) (n : H' a = none) : H a = none := by
  cases e : H a with
  | none => rfl
  | some o =>
    by_cases m : a ∈ ls
    · exact absurd n (h a m)
    · rw [b.keep _ _ m e] at n
      cases n
theorem LsAt.any {H : Hp} {a : Addr} {ds : List PyData} {v : V} {d : PyData} (h : LsAt H a ds) (t : Td H v d) : (ds.any fun z => PyData.eqv z d) = decide (d ∈ ds) := by
  obtain ⟨vs, _, h2⟩ := h
  revert vs
  induction ds with
  | nil => intro vs _ _; simp
  | cons x ds ih =>
    intro vs h1 h2
    obtain ⟨u, ws, rfl, t1, t2⟩ := h2.cons_inv
    rw [List.any_cons, t1.eqv t]
    have : ∀ ws, TdA H ws ds → (ds.any fun z => PyData.eqv z d) = decide (d ∈ ds) := by
      clear ih h1 h2 t2
      induction ds with
      | nil => intro vs _; simp
      | cons y ds ih =>
        intro vs h2
        obtain ⟨u, ws, rfl, t1, t2⟩ := h2.cons_inv
        rw [List.any_cons, t1.eqv t, ih ws t2]
        by_cases e : y = d
        · subst e; simp
        · have : ¬ d = y := fun z => e z.symm
          simp [e, this]
    rw [this ws t2]
    by_cases e : x = d
    · subst e; simp
    · have : ¬ d = x := fun z => e z.symm
      simp [e, this]
theorem askD_dp (a : Ask) : (askD a).depth ≤ 5 := by
  unfold askD
  refine depth_tuple (n := 4) fun d m => ?_
  rcases List.mem_cons.mp m with e | m
  · rw [e, kD_depth]; omega
  · rw [List.mem_singleton.mp m]
    unfold reqsD
    refine depth_tuple (n := 3) fun d m => ?_
    obtain ⟨r, _, e⟩ := List.mem_map.mp m
    rw [← e]
    unfold reqD
    refine depth_tuple (n := 2) fun d m => ?_
    simp only [List.mem_cons, List.not_mem_nil, or_false] at m
    rcases m with e | e | e
    · rw [e, kD_depth]; omega
    · rw [e]; simp [PyData.depth]
    · rw [e]; simp [PyData.depth]
theorem trD_dp (a : Bool × List Key) : (trD a).depth ≤ 3 := by
  unfold trD
  refine depth_tuple (n := 2) fun d m => ?_
  simp only [List.mem_cons, List.not_mem_nil, or_false] at m
  rcases m with e | e
  · rw [e]; simp [PyData.depth]
  · rw [e, kD_depth]; omega
theorem trD_inj {a b : Bool × List Key} (h : trD a = trD b) : a = b := by
  unfold trD at h
  simp only [PyData.tuple.injEq, List.cons.injEq, PyData.str.injEq, and_true] at h
  exact Prod.ext (trS_inj h.1) (kD_inj h.2)
section
variable {P : Program} {w : World} {K : PySem.W.Frag} {mg : Str → Option Value} {base : Heap} {C : Addr}
/-! ### was_asked -/
def spWas (C : Addr) : Sp := fun vs H Q _ => ∃ (c dx dv la dg le : Addr) (h : Int) (vals : Vs) (asks : List Ask) (st : Std) (tr : Tr) (id : List Key) (v : V), vs = [.ref c, v] ∧ CtrAt C H c dx dv la dg le h vals asks st tr ∧ Td H v (kD id) ∧ (true, id) ∉ tr ∧ id ∉ asks.map (·.1) ∧ ∀ H', Bt [] H H' → Q (.bl false) H'
abbrev s_Counter_was_asked : Stmt := inClass (top 34) 5
theorem sc_Counter_was_asked : FnScope ["self", "deed_id", "waiting_id", "requests"] ["self", "deed_id"] (defScope s_Counter_was_asked) := ⟨rfl, rfl, rfl, by decide +kernel, rfl, by decide +kernel, by decide +kernel⟩
theorem ok_was_asked {f : Addr} {fd : FuncData} (F : Fun K "was_asked" "Counter.was_asked" s_Counter_was_asked f fd) (TC : CFx K C) : FnOk P w K mg base CX0 1 f fd ["self", "deed_id"] (spWas C) := by
  refine F.ok sc_Counter_was_asked (fun vs H Q E h => ?_) (fun cdv A outer s H vs Q E hr h => ?_)
  · obtain ⟨_, _, _, _, _, _, _, _, _, _, _, _, _, rfl, _⟩ := h
    rfl
  · obtain ⟨c, dx, dv, la, dg, le, h, vals, asks, st, tr, id, v, rfl, ct, ti, nt, na, q⟩ := h
    obtain ⟨kb, rfl, hkb, kk⟩ := key_td ti
    refine ⟨_, ((pss_cons (ps_if (pt_cmpR (op_inDK (K := K) rfl (u65 hr)) (pe_tup (pa_cons pe_str (pa_cons (pv 1) pa_nil))) (pe_fld (pv 0) rfl) rfl) (pss_one (ps_ret pe_bl)) pss_nil)
  (pss_cons (ps_for PassesOwn.never rfl (pi_list (pe_fld (pv 0) rfl)) (pg_tup (by rfl) (pgs_cons (pg_name (i := 2) sc_Counter_was_asked.nd rfl (Or.inl rfl)) (pgs_cons (pg_name (i := 3) sc_Counter_was_asked.nd rfl (Or.inl rfl)) pgs_nil)))
  (pss_one (ps_if (pt_cmpR (op_eqDK (K := K) rfl hr.units) (pv 2) (pv 1) (nomark _)) (pss_one (ps_ret pe_bl)) pss_nil)))
  (pss_one (ps_ret pe_bl))))), ?_⟩
    refine ⟨_, rfl, by show 2 ≤ sizeLine; decide, fun p1 n1 => ?_⟩
    generalize e1 : upd _ p1 _ = H1
    obtain ⟨S1, h1⟩ := new_of e1 n1
    clear e1
    refine ⟨_, rfl, c, C, dx, _, _, rfl, S1.at ct.fob, TC.cl, TC.entries, flds_entries, ?_⟩
    have te : Td H1 (.ref p1) (trD (true, id)) := .tup h1 (.cons (.str _ (trS_ok true)) (.cons (ti.bt S1) .nil))
    have hle := ct.fle.bt S1 (fun z => nomatch z)
    refine ⟨_, _, te.dp, hle.dp, te.shaped (Nat.le_trans (trD_dp _) (by omega)), hle.shaped (fun x m => ?_), ?_⟩
    · obtain ⟨t, _, e⟩ := List.mem_map.mp m
      rw [← e]
      exact Nat.le_trans (trD_dp _) (by omega)
    rw [hle.any te]
    refine ⟨_, rfl, iteDF (fun z => ?_) ?_⟩
    · obtain ⟨t, m, e⟩ := List.mem_map.mp z
      rw [trD_inj e] at m
      exact nt m
    obtain ⟨lvs, hla, tla⟩ := ct.fla.bt S1 (fun z => nomatch z)
    refine ⟨_, rfl, c, C, dx, _, _, rfl, S1.at ct.fob, TC.cl, TC.asks, flds_asks, ?_⟩
    refine ⟨la, rfl, ⟨lvs, .inl (.inl hla)⟩, ?_⟩
    refine for_list (K := K) (a := la) (xs := lvs) (fun i σ H2 => ∃ u1 u2, σ = [some (.ref c), some (.ref kb), u1, u2] ∧ H2 = H1) ⟨none, none, rfl, rfl⟩ (fun i σ H2 _ hp => ?_) ?_ ?_
    · obtain ⟨_, _, _, e⟩ := hp
      subst e
      exact .inl (.inl hla)
    · rintro i x σ H2 hx ⟨u1, u2, rfl, rfl⟩
      obtain ⟨dd, e2, td⟩ := tla.get' hx
      rw [List.getElem?_map] at e2
      cases er : asks[i]? with
      | none => rw [er] at e2; cases e2
      | some a =>
      rw [er] at e2
      cases e2
      obtain ⟨b, ys, rfl, hb, tys⟩ := Td.tup_inv td
      obtain ⟨v1, r1, rfl, t1, tys⟩ := tys.cons_inv
      obtain ⟨v2, r2, rfl, t2, tys⟩ := tys.cons_inv
      cases tys.nil_inv
      refine ⟨b, _, rfl, .inl (.inl hb), rfl, ?_⟩
      refine ⟨_, _, rfl, _, _, rfl, rfl, ?_⟩
      refine ⟨_, rfl, _, rfl, kD a.1, kD id, t1.dp, (ti.bt S1).dp, t1.shaped (by rw [kD_depth]; omega), (ti.bt S1).shaped (by rw [kD_depth]; omega), _, rfl, ?_⟩
      rw [t1.eqv (ti.bt S1)]
      refine iteDF (fun ee => na (List.mem_map.mpr ⟨a, List.mem_of_getElem? er, kD_inj ee⟩)) ?_
      exact ⟨_, _, rfl, rfl⟩
    · rintro σ H2 ⟨u1, u2, rfl, rfl⟩
      exact q _ S1

/-! ### ask -/
def spAsk (C : Addr) : Sp := fun vs H Q _ => ∃ (c dx dv la dg le : Addr) (h : Int) (vals : Vs) (asks : List Ask) (st : Std) (tr : Tr) (a : Ask) (v1 v2 : V), vs = [.ref c, v1, v2] ∧ CtrAt C H c dx dv la dg le h vals asks st tr ∧ StOk h vals (asks ++ [a]) st tr ∧ Td H v1 (kD a.1) ∧ Td H v2 (reqsD a.2) ∧ (true, a.1) ∉ tr ∧
  ∀ v H' la', H la' = none → Bt [c, la, dg, le] H H' → CtrAt C H' c dx dv la' dg le h vals (pass vals (asks ++ [a]) st tr).left (pass vals (asks ++ [a]) st tr).st (pass vals (asks ++ [a]) st tr).tr → Td H' v (.tuple ((pass vals (asks ++ [a]) st tr).told.map toldD)) → Q v H'
abbrev s_Counter_ask : Stmt := inClass (top 34) 3
theorem sc_Counter_ask : FnScope ["self", "deed_id", "requests", "key", "mode", "many"] ["self", "deed_id", "requests"] (defScope s_Counter_ask) := ⟨rfl, rfl, rfl, by decide +kernel, rfl, by decide +kernel, by decide +kernel⟩
theorem ok_ask {f : Addr} {fd : FuncData} (F : Fun K "ask" "Counter.ask" s_Counter_ask f fd) (T : Blt mg) (TC : CFx K C) (C_is_key_of : Cal P w K mg base "is_key_of" 5 spIsKeyOf) (M_was_asked : Mtd P w K mg base C "was_asked" 1 (spWas C)) (M_look : Mtd P w K mg base C "look" 10 (spLook C)) : FnOk P w K mg base CX0 11 f fd ["self", "deed_id", "requests"] (spAsk C) := by
  refine F.ok sc_Counter_ask (fun vs H Q E h => ?_) (fun cdv A outer s H vs Q E hr h => ?_)
  · obtain ⟨_, _, _, _, _, _, _, _, _, _, _, _, _, _, rfl, _⟩ := h
    rfl
  · obtain ⟨c, dx, dv, la, dg, le, h, vals, asks, st, tr, a, v1, v2, rfl, ct, so, t1, t2, nt, q⟩ := h
    obtain ⟨rb, rxs, rfl, hrb, trx⟩ := Td.tup_inv t2
    have rxl : rxs.length = a.2.length := by rw [trx.len, List.length_map]
    have hao := so.ao a (List.mem_append_right _ (List.mem_singleton.mpr rfl))
    obtain ⟨lvs, hla, tla⟩ := ct.fla
    have hsz := so.sz
    rw [List.length_append, List.length_singleton] at hsz
    have lal : lvs.length = asks.length := by rw [tla.len, List.length_map]
    refine ⟨_, ((pss_cons (ps_if (pt_val (pe_mc M_was_asked TC.cl hr (by decide) (pv 0) (pa_cons (pv 1) pa_nil))) (pss_one ps_never) pss_nil)
  (pss_cons (ps_for PassesOwn.never rfl (pi_tup (pv 2)) (pg_tup (by rfl) (pgs_cons (pg_name (i := 3) sc_Counter_ask.nd rfl (Or.inl rfl)) (pgs_cons (pg_name (i := 4) sc_Counter_ask.nd rfl (Or.inl rfl)) (pgs_cons (pg_name (i := 5) sc_Counter_ask.nd rfl (Or.inl rfl)) pgs_nil))))
  (pss_one (ps_if (pt_not (pt_val (pe_cc C_is_key_of hr (by decide) (by rfl) (pa_cons (pe_fld (pv 0) rfl) (pa_cons (pv 3) pa_nil))))) (pss_one ps_never) pss_nil)))
  (pss_cons (ps_expr (pe_bm PySem.F.plainAttrs_list PySem.F.slot_list_append PySem.F.type_list_append mt_append (pe_fld (pv 0) rfl) (pa_cons (pe_tup (pa_cons (pv 1) (pa_cons (pe_callTy call_tuple_of (by rfl) T.tuple B_tuple (pa_cons (pv 2) pa_nil)) pa_nil))) pa_nil)))
  (pss_one (ps_ret (pe_mc0 M_look TC.cl hr (by decide) (pv 0)))))))), ?_⟩
    refine ⟨_, rfl, c, dx, _, rfl, ct.fob, flds_no (by decide +kernel) (by decide +kernel) (by decide +kernel) (by decide +kernel) (by decide +kernel), ?_⟩
    refine ⟨_, rfl, c, dx, dv, la, dg, le, h, vals, asks, st, tr, a.1, _, rfl, ct, t1, nt, ?_, fun H1 b1 => ?_⟩
    · intro m
      have nd := so.nd
      rw [List.map_append, ← List.append_assoc, List.nodup_append] at nd
      exact nd.2.2 _ (List.mem_append_right _ m) _ List.mem_cons_self rfl
    refine ⟨_, rfl, iteF ?_⟩
    refine ⟨_, rfl, rb, rfl, ⟨_, .inl (.inl (b1.tup _ _ hrb))⟩, ?_⟩
    refine for_tup (K := K) (a := rb) (xs := rxs) (fun i σ H2 => ∃ u1 u2 u3, σ = [some (.ref c), some v1, some (.ref rb), u1, u2, u3] ∧ Bt [] H H2) ⟨none, none, none, rfl, b1⟩ (fun i σ H2 _ hp => ?_) ?_ ?_
    · obtain ⟨_, _, _, _, b2⟩ := hp
      exact .inl (.inl (b2.tup _ _ hrb))
    · rintro i x σ H2 hx ⟨u1, u2, u3, rfl, b2⟩
      obtain ⟨dd, e2, td⟩ := (trx.bt b2).get' hx
      rw [List.getElem?_map] at e2
      cases er : a.2[i]? with
      | none => rw [er] at e2; cases e2
      | some r =>
      rw [er] at e2
      cases e2
      obtain ⟨b, ys, rfl, hb, tys⟩ := Td.tup_inv td
      obtain ⟨w1, r1, rfl, tw1, tys⟩ := tys.cons_inv
      obtain ⟨w2, r2, rfl, tw2, tys⟩ := tys.cons_inv
      obtain ⟨w3, r3, rfl, tw3, tys⟩ := tys.cons_inv
      cases tys.nil_inv
      obtain ⟨kb, rfl, hkb, _⟩ := key_td tw1
      refine ⟨b, _, rfl, .inl (.inl hb), rfl, ?_⟩
      refine ⟨_, _, rfl, _, _, rfl, _, _, rfl, rfl, ?_⟩
      refine ⟨_, rfl, c, C, dx, _, _, rfl, b2.at ct.fob, TC.cl, TC.house, flds_house, ?_⟩
      refine ⟨_, rfl, kb, h, r.key, rfl, hkb, (hao.rqs r (List.mem_of_getElem? er)).key, fun H3 b3 => ?_⟩
      refine ⟨_, rfl, iteF ?_⟩
      exact ⟨_, _, _, rfl, b2.trans b3⟩
    · rintro σ H2 ⟨u1, u2, u3, rfl, b2⟩
      refine ⟨_, rfl, c, C, dx, _, _, rfl, b2.at ct.fob, TC.cl, TC.asks, flds_asks, ?_⟩
      refine ⟨.inl ⟨rfl, _, .inl (.inl (b2.at hla))⟩, ?_⟩
      refine ⟨_, rfl, _, rfl, rb, rxs, rfl, .inr ⟨.inl (.inl (b2.tup _ _ hrb)), ?_⟩⟩
      refine ⟨by show 2 ≤ sizeLine; decide, fun p3 n3 => ?_⟩
      generalize e3 : upd _ p3 _ = H3
      obtain ⟨S3, h3⟩ := new_of e3 n3
      clear e3
      refine ⟨la, lvs, _, rfl, rfl, S3.at (b2.at hla), sz_lt (by omega), ?_⟩
      generalize e4 : upd _ la _ = H4
      obtain ⟨S4, h4⟩ := mut_of e4 (S3.at (b2.at hla)) trivial
      clear e4
      have b3 := b2.trans S3
      have b4 : Bt [la] H H4 := b3.nil.trans S4
      have ncl : c ≠ la := ne_of ct.fob hla (by intro z; cases z)
      have ndv : dv ≠ la := by
        obtain ⟨_, h9, _⟩ := ct.fdv
        exact ne_of h9 hla (by intro z; cases z)
      have ndg : dg ≠ la := by
        obtain ⟨_, h9, _⟩ := ct.fdg
        exact ne_of h9 hla (by intro z; cases z)
      have ct4 : CtrAt C H4 c dx dv la dg le h vals (asks ++ [a]) st tr := by
        refine ⟨b4.at1 ncl ct.fob, ct.fdv.bt b4 (no1 ndv), ⟨_, h4, ?_⟩, ct.fdg.bt b4 (no1 ndg), ct.fle.bt b4 (no1 ct.ne2.symm), ct.ne1, ct.ne2⟩
        rw [List.map_append]
        refine (tla.bt b4).app (.one ?_)
        exact (Td.tup h3 (.cons (t1.bt b3) (.cons (t2.bt b3) .nil))).bt S4
      refine ⟨_, rfl, c, dx, _, rfl, ct4.fob, flds_no (by decide +kernel) (by decide +kernel) (by decide +kernel) (by decide +kernel) (by decide +kernel), ?_⟩
      refine ⟨c, dx, dv, la, dg, le, h, vals, asks ++ [a], st, tr, rfl, ct4, so, fun v H5 la' n5 b5 ct5 tv => ?_⟩
      refine q v H5 la' (fresh_back b4 (fun x m => ?_) n5) ((b4.mono fun _ z => by simp at z; simp [z]).trans (b5.mono fun _ z => by simp at z; rcases z with z | z | z <;> simp [z])) ct5 tv
      rw [List.mem_singleton.mp m, h4]
      exact fun z => nomatch z
end
end K33

/-! K11: the counter's methods: end and the small ones -/
namespace K33
open PySem L2
theorem gt_st {st : Std} {id : List Key} {gs : List Gr} (nd : (st.map (·.1)).Nodup) (m : (id, gs) ∈ st) : gt (stV st) id = some (cgsD gs) := by
  refine gt_mem ?_ ?_
  · have e : (stV st).map (·.1) = st.map (·.1) := by
      unfold stV
      rw [List.map_map]
      rfl
    rw [e]
    exact nd
  · exact List.mem_map.mpr ⟨_, m, rfl⟩
def stDel (st : Std) (id : List Key) : Std := st.filter fun p => decide (p.1 ≠ id)
theorem dl_st (st : Std) (id : List Key) : dl (stV st) id = stV (stDel st id) := by
  unfold dl stV stDel
  rw [List.filter_map]
  rfl
theorem DictAt.del {H : Hp} {d : Addr} {vals : Vs} {k : List Key} (h : DictAt H d vals) (hm : (gt vals k).isSome = true) : ∃ kvs, H d = some (.dT kvs) ∧ (valV kvs k).isSome = true ∧ Bt [d] H (upd H d (.dT (dropK kvs k))) ∧ DictAt (upd H d (.dT (dropK kvs k))) d (dl vals k) := by
  obtain ⟨kvs, h1, h2⟩ := h
  have b : Bt [d] H (upd H d (.dT (dropK kvs k))) := Bt.mut h1 trivial
  refine ⟨kvs, h1, ?_, b, _, upd_same, (h2.drop k).bt b⟩
  rcases h2.val (k := k) with ⟨e1, e2⟩ | ⟨v, x, e1, e2, _⟩
  · rw [e2] at hm; cases hm
  · rw [e1]; rfl
def chg (gs : List Gr) : List PyData := (gs.filter fun g => decide (g.kd ≠ .see)).map fun g => kD g.rq.key
theorem chg_take {gs : List Gr} {i : Nat} {g : Gr} (h : gs[i]? = some g) : chg (gs.take (i + 1)) = chg (gs.take i) ++ (if g.kd ≠ .see then [kD g.rq.key] else []) := by
  unfold chg
  rw [List.take_add_one, h, Option.toList_some, List.filter_append, List.map_append]
  congr 1
  by_cases e : g.kd = .see
  · rw [if_neg (fun z => z e), List.filter_cons_of_neg (p := fun g : Gr => decide (g.kd ≠ .see)) (by simp [e])]
    rfl
  · rw [if_pos e, List.filter_cons_of_pos (p := fun g : Gr => decide (g.kd ≠ .see)) (by simp [e])]
    rfl
section
variable {P : Program} {w : World} {K : PySem.W.Frag} {mg : Str → Option Value} {base : Heap} {C : Addr}
/-! ### end -/
def spEnd (C : Addr) : Sp := fun vs H Q _ => ∃ (c dx dv la dg le : Addr) (h : Int) (vals : Vs) (asks : List Ask) (st : Std) (tr : Tr) (id : List Key) (gs : List Gr) (ws : Wrs) (v1 v2 : V), vs = [.ref c, v1, v2] ∧ CtrAt C H c dx dv la dg le h vals asks st tr ∧ PrsOk h vals ∧ PrsOk h ws ∧ vals.length + ws.length ≤ 100000 ∧
  (id, gs) ∈ st ∧ (st.map (·.1)).Nodup ∧ StdOk h st ∧ tr.length ≤ 199 ∧ StOk h (carry vals ws) asks (stDel st id) (tr ++ [(false, id)]) ∧ Td H v1 (kD id) ∧ Td H v2 (.tuple (ws.map wrD)) ∧ (∀ p ∈ ws, ∃ g ∈ gs, g.kd ≠ .see ∧ g.rq.key = p.1) ∧
  ∀ v H' la', H la' = none → Bt [c, dv, dg, le] H H' → CtrAt C H' c dx dv la' dg le h (carry vals ws) (pass (carry vals ws) asks (stDel st id) (tr ++ [(false, id)])).left (pass (carry vals ws) asks (stDel st id) (tr ++ [(false, id)])).st (pass (carry vals ws) asks (stDel st id) (tr ++ [(false, id)])).tr →
    Td H' v (.tuple ((pass (carry vals ws) asks (stDel st id) (tr ++ [(false, id)])).told.map toldD)) → Q v H'
abbrev s_Counter_end : Stmt := inClass (top 34) 4
theorem sc_Counter_end : FnScope ["self", "deed_id", "writes", "changing", "key", "what", "kind", "many"] ["self", "deed_id", "writes"] (defScope s_Counter_end) := ⟨rfl, rfl, rfl, by decide +kernel, rfl, by decide +kernel, by decide +kernel⟩
theorem ok_end {f : Addr} {fd : FuncData} (F : Fun K "end" "Counter.end" s_Counter_end f fd) (T : Blt mg) (TC : CFx K C) (C_is_id : Cal P w K mg base "is_id" 4 spIsId) (C_is_key_of : Cal P w K mg base "is_key_of" 5 spIsKeyOf) (C_carry_out : Cal P w K mg base "carry_out" 8 spCarry) (M_look : Mtd P w K mg base C "look" 10 (spLook C)) :
    FnOk P w K mg base CX0 11 f fd ["self", "deed_id", "writes"] (spEnd C) := by
  refine F.ok sc_Counter_end (fun vs H Q E h => ?_) (fun cdv A outer s H vs Q E hr h => ?_)
  · obtain ⟨_, _, _, _, _, _, _, _, _, _, _, _, _, _, _, _, rfl, _⟩ := h
    rfl
  · obtain ⟨c, dx, dv, la, dg, le, h, vals, asks, st, tr, id, gs, ws, v1, v2, rfl, ct, po, wo, vl, hm, hnd, sto, trl, so, t1, t2, hch, q⟩ := h
    have hu := hu_of hr
    obtain ⟨kb, rfl, hkb, kk⟩ := key_td t1
    obtain ⟨wb, wxs, rfl, hwb, twx⟩ := Td.tup_inv t2
    have wxl : wxs.length = ws.length := by rw [twx.len, List.length_map]
    have gok := sto.gr _ hm
    have gl : gs.length ≤ 100 := sto.len _ hm
    obtain ⟨kvg, hdg, _⟩ := _root_.id ct.fdg
    obtain ⟨kvv, hdv, _⟩ := _root_.id ct.fdv
    obtain ⟨lve, hle, _⟩ := _root_.id ct.fle
    obtain ⟨lva, hla, _⟩ := _root_.id ct.fla
    refine ⟨_, ((pss_cons (ps_if (PW.pt (pw_or (pt_not (pt_val (pe_cc C_is_id hr (by decide) (by rfl) (pa_cons (pv 1) pa_nil)))) (pw_or1 (pt_cmp (pc_dnotin hu (pv 1) (pe_fld (pv 0) rfl)))))) (pss_one ps_never) pss_nil)
  (pss_cons (ps_setLc (i := 3) (own := [("key", 4), ("kind", 6), ("many", 7)]) (g := gTup K 3 (gCons (gName 4) (gCons (gName 6) (gCons (gName 7) gNil))))  rfl sc_Counter_end.nd rfl rfl (sw_true rfl rfl rfl (by decide +kernel)) (pi_tup (pe_dget hu (pe_fld (pv 0) rfl) (pv 1) (fun _ _ => rfl))) (blkOk_by (own := [("key", 4), ("kind", 6), ("many", 7)]) (N := ["self", "deed_id", "writes", "changing", "key", "what", "kind", "many"]) (sc := defScope s_Counter_end) (by decide +kernel)) (fun _ _ _ _ _ => (pg_tup (by rfl) (pgs_cons (pg_name (i := 4) sc_Counter_end.nd rfl (Or.inl rfl)) (pgs_cons (pg_name (i := 6) sc_Counter_end.nd rfl (Or.inl rfl)) (pgs_cons (pg_name (i := 7) sc_Counter_end.nd rfl (Or.inl rfl)) pgs_nil))))) (fun _ _ _ _ _ => pts_one (pt_cmpR op_ne (pv 6) pe_str (nomark _))) (fun _ _ _ _ _ => (pv 4)))
  (pss_cons (ps_for PassesOwn.never rfl (pi_tup (pv 2)) (pg_tup (by rfl) (pgs_cons (pg_name (i := 4) sc_Counter_end.nd rfl (Or.inl rfl)) (pgs_cons (pg_name (i := 5) sc_Counter_end.nd rfl (Or.inl rfl)) pgs_nil)))
  (pss_one (ps_if (PW.pt (pw_or (pt_not (pt_val (pe_cc C_is_key_of hr (by decide) (by rfl) (pa_cons (pe_fld (pv 0) rfl) (pa_cons (pv 4) pa_nil))))) (pw_or1 (pt_cmpR (op_notInDK (K := K) rfl (u65 hr)) (pv 4) (pv 3) rfl)))) (pss_one ps_never) pss_nil)))
  (pss_cons (ps_expr (pe_cc C_carry_out hr (by decide) (by rfl) (pa_cons (pe_fld (pv 0) rfl) (pa_cons (pv 2) pa_nil))))
  (pss_cons (ps_ddelT hu (pe_fld (pv 0) rfl) (pv 1))
  (pss_cons (ps_expr (pe_bm PySem.F.plainAttrs_list PySem.F.slot_list_append PySem.F.type_list_append mt_append (pe_fld (pv 0) rfl) (pa_cons (pe_tup (pa_cons pe_str (pa_cons (pv 1) pa_nil))) pa_nil)))
  (pss_one (ps_ret (pe_mc0 M_look TC.cl hr (by decide) (pv 0))))))))))), ?_⟩
    refine ⟨_, rfl, kb, id, rfl, hkb, sto.ids _ hm, fun H1 b1 => ?_⟩
    refine ⟨_, rfl, iteF ?_⟩
    obtain ⟨o1, g1, ho1⟩ := (ct.fdg.bt b1 (fun z => nomatch z)).get (b1.tup _ _ hkb)
    have egt := gt_st hnd hm
    rcases ho1 with ⟨rfl, e⟩ | ⟨gv1, gx, rfl, e, _⟩
    · rw [e] at egt; cases egt
    refine ⟨_, rfl, _, rfl, c, C, dx, _, _, rfl, b1.at ct.fob, TC.cl, TC.grants, flds_grants, ?_⟩
    refine ⟨dg, _, rfl, g1, _, rfl, iteF ?_⟩
    -- changing
    obtain ⟨o2, g2, ho2⟩ := (ct.fdg.bt b1 (fun z => nomatch z)).get (b1.tup _ _ hkb)
    rcases ho2 with ⟨rfl, e⟩ | ⟨gv, gx, rfl, e, tg⟩
    · rw [e] at egt; cases egt
    rw [e] at egt
    cases egt
    obtain ⟨gb, gxs, rfl, hgb, tgx⟩ := Td.tup_inv tg
    have gxl : gxs.length = gs.length := by rw [tgx.len, List.length_map]
    refine ⟨_, rfl, c, C, dx, _, _, rfl, b1.at ct.fob, TC.cl, TC.grants, flds_grants, ?_⟩
    refine ⟨_, rfl, dg, _, rfl, g2, ?_⟩
    refine ⟨gb, rfl, ⟨_, .inl (.inl hgb)⟩, fun D nD => ?_⟩
    refine lcD (walk_tup (K := K) (xs := gxs)) nD (fun H b => .inl (.inl (b.tup _ _ hgb))) (by omega) (fun i => chg (gs.take i)) rfl ?_ ?_
    · intro j y H9 hy b9 N1 N2 k1 k2
      obtain ⟨dd, e9, td9⟩ := (tgx.bt b9).get' hy
      rw [List.getElem?_map] at e9
      cases ej : gs[j]? with
      | none => rw [ej] at e9; cases e9
      | some g =>
      rw [ej] at e9
      cases e9
      obtain ⟨b, ys, rfl, hb, tys⟩ := Td.tup_inv td9
      obtain ⟨w1, r1, rfl, tw1, tys⟩ := tys.cons_inv
      obtain ⟨w2, r2, rfl, tw2, tys⟩ := tys.cons_inv
      obtain ⟨w3, r3, rfl, tw3, tys⟩ := tys.cons_inv
      cases tys.nil_inv
      have e2 := Td.str_inv tw2
      subst e2
      refine ⟨b, _, rfl, .inl (.inl hb), rfl, ?_⟩
      refine ⟨_, _, rfl, _, _, rfl, _, _, rfl, rfl, ?_⟩
      refine ⟨rfl, ?_⟩
      refine ⟨_, rfl, rfl, _, rfl, ?_⟩
      have ect := chg_take ej
      by_cases ek : g.kd = .see
      · refine iteNS (by rw [ek]; rfl) ?_
        refine k2 H9 Bt.refl ?_
        show chg _ = _
        rw [ect, if_neg (fun z => z ek), List.append_nil]
      · refine iteNN (fun z => ek (Kd.s_inj (b := .see) (V.str.inj z))) ?_
        refine ⟨_, rfl, ?_⟩
        refine k1 _ H9 (kD g.rq.key) Bt.refl tw1 ?_
        show chg _ = _
        rw [ect, if_pos ek]
    intro H2 cs b2 hD tcs
    rw [gxl, List.take_length] at tcs
    have lsD : LsAt H2 D (chg gs) := ⟨_, hD, tcs⟩
    have b02 := b1.trans b2
    clear b1 b2
    refine ⟨_, rfl, wb, rfl, ⟨_, .inl (.inl (b02.tup _ _ hwb))⟩, ?_⟩
    refine for_tup (K := K) (a := wb) (xs := wxs) (fun i σ H3 => ∃ u1 u2 u3 u4, σ = [some (.ref c), some (.ref kb), some (.ref wb), some (.ref D), u1, u2, u3, u4] ∧ Bt [] H2 H3) ⟨_, _, _, _, rfl, Bt.refl⟩ (fun i σ H3 _ hp => ?_) ?_ ?_
    · obtain ⟨_, _, _, _, _, b3⟩ := hp
      exact .inl (.inl (b3.tup _ _ (b02.tup _ _ hwb)))
    · rintro i x σ H3 hx ⟨u1, u2, u3, u4, rfl, b3⟩
      obtain ⟨dd, e2, td⟩ := ((twx.bt b02).bt b3).get' hx
      rw [List.getElem?_map] at e2
      cases er : ws[i]? with
      | none => rw [er] at e2; cases e2
      | some p =>
      rw [er] at e2
      cases e2
      have pm := List.mem_of_getElem? er
      obtain ⟨b, ys, rfl, hb, tys⟩ := Td.tup_inv td
      obtain ⟨w1, r1, rfl, tw1, tys⟩ := tys.cons_inv
      obtain ⟨w2, r2, rfl, tw2, tys⟩ := tys.cons_inv
      cases tys.nil_inv
      obtain ⟨kb2, rfl, hkb2, _⟩ := key_td tw1
      refine ⟨b, _, rfl, .inl (.inl hb), rfl, ?_⟩
      refine ⟨_, _, rfl, _, _, rfl, rfl, ?_⟩
      refine ⟨_, rfl, c, C, dx, _, _, rfl, b3.at (b02.at ct.fob), TC.cl, TC.house, flds_house, ?_⟩
      refine ⟨_, rfl, kb2, h, p.1, rfl, hkb2, (wo p pm).key, fun H4 b4 => ?_⟩
      refine ⟨_, rfl, iteF ?_⟩
      have ls4 := (lsD.bt b3 (fun z => nomatch z)).bt b4 (fun z => nomatch z)
      have tw4 := tw1.bt b4
      refine ⟨_, rfl, _, rfl, _, _, tw4.dp, ls4.dp, tw4.shaped (by rw [kD_depth]; omega), ls4.shaped (fun x m => ?_), _, rfl, ?_⟩
      · unfold chg at m
        obtain ⟨g, _, e⟩ := List.mem_map.mp m
        rw [← e, kD_depth]
        omega
      rw [ls4.any tw4]
      have hin : kD p.1 ∈ chg gs := by
        obtain ⟨g, g1, g2, g3⟩ := hch p pm
        unfold chg
        exact List.mem_map.mpr ⟨g, List.mem_filter.mpr ⟨g1, decide_eq_true g2⟩, by rw [g3]⟩
      rw [decide_eq_true hin]
      refine iteF ?_
      exact ⟨_, _, _, _, rfl, b3.trans b4⟩
    · rintro σ H3 ⟨u1, u2, u3, u4, rfl, b3⟩
      have b03 := b02.trans b3
      refine ⟨_, rfl, c, C, dx, _, _, rfl, b03.at ct.fob, TC.cl, TC.values, flds_values, ?_⟩
      refine ⟨_, rfl, dv, wb, h, vals, ws, rfl, ct.fdv.bt b03 (fun z => nomatch z), t2.bt b03, po, wo, vl, fun H4 b4 hd4 => ?_⟩
      have b04 : Bt [dv] H H4 := b03.nil.trans b4
      have ncv : c ≠ dv := ne_of ct.fob hdv (by intro z; cases z)
      have ncg : c ≠ dg := ne_of ct.fob hdg (by intro z; cases z)
      have nce : c ≠ le := ne_of ct.fob hle (by intro z; cases z)
      have nev : le ≠ dv := ne_of hle hdv (by intro z; cases z)
      have neg : le ≠ dg := ne_of hle hdg (by intro z; cases z)
      have nav : la ≠ dv := ne_of hla hdv (by intro z; cases z)
      have nag : la ≠ dg := ne_of hla hdg (by intro z; cases z)
      have c4 := b04.at1 ncv ct.fob
      refine ⟨_, rfl, c, C, dx, _, _, rfl, c4, TC.cl, TC.grants, flds_grants, ?_⟩
      have hg4 := ct.fdg.bt b04 (no1 ct.ne1.symm)
      obtain ⟨kvs, hk1, hk2, S5, hg5⟩ := hg4.del (k := id) (by rw [gt_st hnd hm]; rfl)
      refine ⟨_, rfl, dg, kb, kvs, id, rfl, rfl, hk1, b04.tup _ _ hkb, hk2, ?_⟩
      rw [dl_st] at hg5
      have h5s : upd H4 dg (.dT (dropK kvs id)) dg ≠ none := by rw [upd_same]; exact fun z => nomatch z
      generalize upd H4 dg _ = H5 at S5 hg5 h5s
      have b05 : Bt [dv, dg] H H5 := (b04.mono fun _ z => by simp at z; simp [z]).trans (S5.mono fun _ z => by simp at z; simp [z])
      obtain ⟨zs, hz1, hz2⟩ := ct.fle.bt b05 (by simp [nev, neg])
      have c5 := S5.at1 ncg c4
      refine ⟨_, rfl, c, C, dx, _, _, rfl, c5, TC.cl, TC.entries, flds_entries, ?_⟩
      refine ⟨.inl ⟨rfl, _, .inl (.inl hz1)⟩, ?_⟩
      refine ⟨_, rfl, by show 2 ≤ sizeLine; decide, fun p7 n7 => ?_⟩
      generalize e7 : upd _ p7 _ = H7
      obtain ⟨S7, h7⟩ := new_of e7 n7
      clear e7
      refine ⟨le, zs, _, rfl, rfl, S7.at hz1, sz_lt (by rw [hz2.len, List.length_map]; omega), ?_⟩
      generalize e8 : upd _ le _ = H8
      obtain ⟨S8, h8⟩ := mut_of e8 (S7.at hz1) trivial
      clear e8
      have b58 : Bt [le] H5 H8 := S7.nil.trans S8
      have b08 : Bt [dv, dg, le] H H8 := (b05.mono fun _ z => by simp at z; rcases z with z | z <;> simp [z]).trans (b58.mono fun _ z => by simp at z; simp [z])
      have c8 := b58.at1 nce c5
      have ct8 : CtrAt C H8 c dx dv la dg le h (carry vals ws) asks (stDel st id) (tr ++ [(false, id)]) := by
        refine ⟨c8, (hd4.bt S5 (no1 ct.ne1)).bt b58 (no1 nev.symm), ct.fla.bt b08 (by simp [nav, nag, ct.ne2]), hg5.bt b58 (no1 neg.symm), ⟨_, h8, ?_⟩, ct.ne1, ct.ne2⟩
        rw [List.map_append]
        refine (hz2.bt b58).app (.one ?_)
        exact (Td.tup h7 (.cons (.str _ (trS_ok false)) (.cons ((t1.bt b05).bt S7) .nil))).bt S8
      refine ⟨_, rfl, c, dx, _, rfl, ct8.fob, flds_no (by decide +kernel) (by decide +kernel) (by decide +kernel) (by decide +kernel) (by decide +kernel), ?_⟩
      refine ⟨c, dx, dv, la, dg, le, h, carry vals ws, asks, _, _, rfl, ct8, so, fun v H9 la' n9 b9 ct9 tv => ?_⟩
      have hg8 := ct8.fdg
      have hv8 := ct8.fdv
      refine q v H9 la' (fresh_back b08 (fun x m => ?_) n9) ((b08.mono fun _ z => by simp at z; rcases z with z | z | z <;> simp [z]).trans (b9.mono fun _ z => by simp at z; rcases z with z | z | z <;> simp [z])) ct9 tv
      simp only [List.mem_cons, List.not_mem_nil, or_false] at m
      rcases m with m | m | m
      · obtain ⟨_, z, _⟩ := hv8
        rw [m, z]
        exact fun z => nomatch z
      · obtain ⟨_, z, _⟩ := hg8
        rw [m, z]
        exact fun z => nomatch z
      · rw [m, h8]
        exact fun z => nomatch z
end
end K33

/-! K12: the counter's small methods, its making -/
namespace K33
open PySem L2
theorem IdOk.cmp {k j : List Key} (a : IdOk k) (b : IdOk j) : cmpOk k j := by
  obtain ⟨c, n, rfl, _⟩ := a.sh
  obtain ⟨d, m, rfl, _⟩ := b.sh
  exact cmpOk_same rfl
theorem IdOk.hd {k : List Key} (a : IdOk k) : ∃ i r, k = Sum.inl i :: r := by
  obtain ⟨c, n, rfl, _⟩ := a.sh
  exact ⟨_, _, rfl⟩
theorem IdOk.kok {k : List Key} (a : IdOk k) : kOk k := by
  obtain ⟨c, n, rfl, _⟩ := a.sh
  intro x m
  simp at m
/-- a sorted list of keys, told as data -/
theorem sorted_td {H : Hp} {k : V → List Key} : ∀ {ys : List V}, (∀ x ∈ ys, ∃ t, x = V.ref t ∧ H t = some (.tup ((k x).map kV))) → (∀ x ∈ ys, kOk (k x)) → TdA H ys ((ys.map k).map kD)
  | [], _, _ => .nil
  | y :: ys, h, o => by
    obtain ⟨t, e, ht⟩ := h y List.mem_cons_self
    refine .cons ?_ (sorted_td (fun x m => h x (List.mem_cons_of_mem _ m)) fun x m => o x (List.mem_cons_of_mem _ m))
    have := td_key ht (o y List.mem_cons_self)
    rw [← e] at this
    exact this
section
variable {P : Program} {w : World} {K : PySem.W.Frag} {mg : Str → Option Value} {base : Heap} {C : Addr}
def spValue (C : Addr) : Sp := fun vs H Q _ => ∃ (c dx dv la dg le a : Addr) (h : Int) (vals : Vs) (asks : List Ask) (st : Std) (tr : Tr) (k : List Key), vs = [.ref c, .ref a] ∧ CtrAt C H c dx dv la dg le h vals asks st tr ∧ H a = some (.tup (k.map kV)) ∧ KeyOk h k ∧ ∀ v H', Bt [] H H' → Td H' v (gv vals k) → Q v H'
abbrev s_Counter_value : Stmt := inClass (top 34) 11
theorem sc_Counter_value : FnScope ["self", "key"] ["self", "key"] (defScope s_Counter_value) := ⟨rfl, rfl, rfl, by decide +kernel, rfl, by decide +kernel, by decide +kernel⟩
theorem ok_value {f : Addr} {fd : FuncData} (F : Fun K "value" "Counter.value" s_Counter_value f fd) (TC : CFx K C) (C_is_key_of : Cal P w K mg base "is_key_of" 5 spIsKeyOf) (C_value_in : Cal P w K mg base "value_in" 7 spValueIn) : FnOk P w K mg base CX0 8 f fd ["self", "key"] (spValue C) := by
  refine F.ok sc_Counter_value (fun vs H Q E h => ?_) (fun cdv A outer s H vs Q E hr h => ?_)
  · obtain ⟨_, _, _, _, _, _, _, _, _, _, _, _, _, rfl, _⟩ := h
    rfl
  · obtain ⟨c, dx, dv, la, dg, le, a, h, vals, asks, st, tr, k, rfl, ct, ha, hk, q⟩ := h
    refine ⟨_, ((pss_cons (ps_if (pt_not (pt_val (pe_cc C_is_key_of hr (by decide) (by rfl) (pa_cons (pe_fld (pv 0) rfl) (pa_cons (pv 1) pa_nil))))) (pss_one ps_never) pss_nil)
  (pss_one (ps_ret (pe_cc C_value_in hr (by decide) (by rfl) (pa_cons (pe_fld (pv 0) rfl) (pa_cons (pv 1) pa_nil))))))), ?_⟩
    refine ⟨_, rfl, c, C, dx, _, _, rfl, ct.fob, TC.cl, TC.house, flds_house, ?_⟩
    refine ⟨_, rfl, a, h, k, rfl, ha, hk, fun H1 b1 => ?_⟩
    refine ⟨_, rfl, iteF ?_⟩
    refine ⟨_, rfl, c, C, dx, _, _, rfl, b1.at ct.fob, TC.cl, TC.values, flds_values, ?_⟩
    refine ⟨_, rfl, dv, a, h, k, vals, rfl, ct.fdv.bt b1 (fun z => nomatch z), b1.tup _ _ ha, hk, fun v H2 b2 t2 => ?_⟩
    exact q v H2 (b1.trans b2) t2
def spAllValues (C : Addr) : Sp := fun vs H Q _ => ∃ (c dx dv la dg le : Addr) (h : Int) (vals : Vs) (asks : List Ask) (st : Std) (tr : Tr), vs = [.ref c] ∧ CtrAt C H c dx dv la dg le h vals asks st tr ∧ PrsOk h vals ∧ vals.length ≤ 100000 ∧
  ∀ v H' (ks : List (List Key)), Bt [] H H' → ks.Pairwise (fun x y => ksLt y x = false) → ks.Perm (vals.map (·.1)) → Td H' v (.tuple (shownOf vals ks)) → Q v H'
abbrev s_Counter_all_values : Stmt := inClass (top 34) 12
theorem sc_Counter_all_values : FnScope ["self"] ["self"] (defScope s_Counter_all_values) := ⟨rfl, rfl, rfl, by decide +kernel, rfl, by decide +kernel, by decide +kernel⟩
theorem ok_all_values {f : Addr} {fd : FuncData} (F : Fun K "all_values" "Counter.all_values" s_Counter_all_values f fd) (TC : CFx K C) (C_pairs_of : Cal P w K mg base "pairs_of" 7 spPairs) : FnOk P w K mg base CX0 8 f fd ["self"] (spAllValues C) := by
  refine F.ok sc_Counter_all_values (fun vs H Q E h => ?_) (fun cdv A outer s H vs Q E hr h => ?_)
  · obtain ⟨_, _, _, _, _, _, _, _, _, _, _, rfl, _⟩ := h
    rfl
  · obtain ⟨c, dx, dv, la, dg, le, h, vals, asks, st, tr, rfl, ct, po, hl, q⟩ := h
    refine ⟨_, ((pss_one (ps_ret (pe_cc C_pairs_of hr (by decide) (by rfl) (pa_cons (pe_fld (pv 0) rfl) pa_nil))))), ?_⟩
    refine ⟨_, rfl, c, C, dx, _, _, rfl, ct.fob, TC.cl, TC.values, flds_values, ?_⟩
    exact ⟨dv, h, vals, rfl, ct.fdv, po, hl, q⟩
def spWaiting (C : Addr) : Sp := fun vs H Q _ => ∃ (c dx dv la dg le : Addr) (h : Int) (vals : Vs) (asks : List Ask) (st : Std) (tr : Tr), vs = [.ref c] ∧ CtrAt C H c dx dv la dg le h vals asks st tr ∧ asks.length ≤ 100000 ∧
  ∀ v H', Bt [] H H' → Td H' v (.tuple (asks.map fun a => kD a.1)) → Q v H'
abbrev s_Counter_waiting : Stmt := inClass (top 34) 13
theorem sc_Counter_waiting : FnScope ["self", "deed_id", "requests"] ["self"] (defScope s_Counter_waiting) := ⟨rfl, rfl, rfl, by decide +kernel, rfl, by decide +kernel, by decide +kernel⟩
theorem ok_waiting {f : Addr} {fd : FuncData} (F : Fun K "waiting" "Counter.waiting" s_Counter_waiting f fd) (T : Blt mg) (TC : CFx K C) : FnOk P w K mg base CX0 1 f fd ["self"] (spWaiting C) := by
  refine F.ok sc_Counter_waiting (fun vs H Q E h => ?_) (fun cdv A outer s H vs Q E hr h => ?_)
  · obtain ⟨_, _, _, _, _, _, _, _, _, _, _, rfl, _⟩ := h
    rfl
  · obtain ⟨c, dx, dv, la, dg, le, h, vals, asks, st, tr, rfl, ct, hl, q⟩ := h
    obtain ⟨lvs, hla, tla⟩ := ct.fla
    have lal : lvs.length = asks.length := by rw [tla.len, List.length_map]
    refine ⟨_, ((pss_one (ps_ret (pe_callTy call_tuple_of (by rfl) T.tuple B_tuple (pa_cons (pe_lc (own := [("deed_id", 1), ("requests", 2)]) (g := gTup K 2 (gCons (gName 1) (gCons (gName 2) gNil)))  rfl sc_Counter_waiting.nd (pi_list (pe_fld (pv 0) rfl)) (blkOk_by (own := [("deed_id", 1), ("requests", 2)]) (N := ["self", "deed_id", "requests"]) (sc := defScope s_Counter_waiting) (by decide +kernel)) (fun _ _ _ _ _ => (pg_tup (by rfl) (pgs_cons (pg_name (i := 1) sc_Counter_waiting.nd rfl (Or.inl rfl)) (pgs_cons (pg_name (i := 2) sc_Counter_waiting.nd rfl (Or.inl rfl)) pgs_nil)))) (fun _ _ _ _ _ => pts_nil) (fun _ _ _ _ _ => (pv 1))) pa_nil))))), ?_⟩
    refine ⟨_, rfl, c, C, dx, _, _, rfl, ct.fob, TC.cl, TC.asks, flds_asks, ?_⟩
    refine ⟨la, rfl, ⟨lvs, .inl (.inl hla)⟩, fun D nD => ?_⟩
    refine lcD (walk_list (K := K) (xs := lvs)) nD (fun H b => b.sqL (.inl (.inl hla))) (by omega) (fun i => (asks.take i).map fun a => kD a.1) rfl ?_ ?_
    · intro j y H9 hy b9 N1 N2 k1 k2
      obtain ⟨dd, e9, td9⟩ := (tla.bt b9).get' hy
      rw [List.getElem?_map] at e9
      cases ej : asks[j]? with
      | none => rw [ej] at e9; cases e9
      | some a =>
      rw [ej] at e9
      cases e9
      obtain ⟨b, ys, rfl, hb, tys⟩ := Td.tup_inv td9
      obtain ⟨w1, r1, rfl, tw1, tys⟩ := tys.cons_inv
      obtain ⟨w2, r2, rfl, tw2, tys⟩ := tys.cons_inv
      cases tys.nil_inv
      refine ⟨b, _, rfl, .inl (.inl hb), rfl, ?_⟩
      refine ⟨_, _, rfl, _, _, rfl, rfl, ?_⟩
      refine ⟨rfl, ?_⟩
      refine ⟨_, rfl, ?_⟩
      exact k1 _ H9 _ Bt.refl tw1 (take_map _ ej)
    · intro H2 zs b2 hD tz
      refine ⟨D, zs, rfl, .inl ⟨.inl (.inl hD), fun p4 n4 => ?_⟩⟩
      generalize e4 : upd _ p4 _ = H4
      obtain ⟨S4, h4⟩ := new_of e4 n4
      clear e4
      rw [lal, List.take_length] at tz
      exact q _ H4 (b2.trans S4) (.tup h4 (tz.bt S4))
def spGranted (C : Addr) : Sp := fun vs H Q _ => ∃ (c dx dv la dg le : Addr) (h : Int) (vals : Vs) (asks : List Ask) (st : Std) (tr : Tr), vs = [.ref c] ∧ CtrAt C H c dx dv la dg le h vals asks st tr ∧ StdOk h st ∧
  ∀ v H' (ks : List (List Key)), Bt [] H H' → ks.Pairwise (fun x y => ksLt y x = false) → ks.Perm (st.map (·.1)) → Td H' v (.tuple (ks.map kD)) → Q v H'
abbrev s_Counter_granted : Stmt := inClass (top 34) 14
theorem sc_Counter_granted : FnScope ["self"] ["self"] (defScope s_Counter_granted) := ⟨rfl, rfl, rfl, by decide +kernel, rfl, by decide +kernel, by decide +kernel⟩
theorem ok_granted {f : Addr} {fd : FuncData} (F : Fun K "granted" "Counter.granted" s_Counter_granted f fd) (T : Blt mg) (TC : CFx K C) : FnOk P w K mg base CX0 1 f fd ["self"] (spGranted C) := by
  refine F.ok sc_Counter_granted (fun vs H Q E h => ?_) (fun cdv A outer s H vs Q E hr h => ?_)
  · obtain ⟨_, _, _, _, _, _, _, _, _, _, _, rfl, _⟩ := h
    rfl
  · obtain ⟨c, dx, dv, la, dg, le, h, vals, asks, st, tr, rfl, ct, so, q⟩ := h
    obtain ⟨kvs, hk1, hk2⟩ := ct.fdg
    have ekeys : kvs.map (·.1) = st.map (·.1) := by
      rw [hk2.keys]
      unfold stV
      rw [List.map_map]
      rfl
    refine ⟨_, ((pss_one (ps_ret (pe_callTy call_tuple_of (by rfl) T.tuple B_tuple (pa_cons (pe_callB cr_sortedKs (by rfl) T.sorted B_sorted (pa_cons (pe_callTy (call_list_dT rfl) (by rfl) T.list B_list (pa_cons (pe_fld (pv 0) rfl) pa_nil)) pa_nil)) pa_nil))))), ?_⟩
    refine ⟨_, rfl, c, C, dx, _, _, rfl, ct.fob, TC.cl, TC.grants, flds_grants, ?_⟩
    refine ⟨dg, kvs, rfl, .inl hk1, fun p1 bs n1 isk => ?_⟩
    generalize e1 : upd _ p1 _ = H1
    obtain ⟨S1, h1⟩ := new_of e1 n1
    clear e1
    have hat := isKeys_at isk
    have hmap := isKeys_map isk
    have hkey : ∀ x ∈ bs.map V.ref, IdOk (kOf H x) := fun x hx => by
      have : kOf H x ∈ st.map (·.1) := by
        rw [← ekeys, ← hmap]
        exact List.mem_map.mpr ⟨x, hx, rfl⟩
      obtain ⟨p, h3, h4⟩ := List.mem_map.mp this
      rw [← h4]
      exact so.ids p h3
    refine ⟨p1, _, kOf H, rfl, .inl (.inl h1), ⟨fun x hx => ?_, fun x hx => (hkey x hx).hd, fun x hx y hy => (hkey x hx).cmp (hkey y hy)⟩, fun ys p2 hs hp n2 => ?_⟩
    · obtain ⟨t, e, ht⟩ := hat x hx
      exact ⟨t, e, S1.tup _ _ ht⟩
    generalize e2 : upd _ p2 _ = H2
    obtain ⟨S2, h2⟩ := new_of e2 n2
    clear e2
    refine ⟨p2, ys, rfl, .inl ⟨.inl (.inl h2), fun p3 n3 => ?_⟩⟩
    generalize e3 : upd _ p3 _ = H3
    obtain ⟨S3, h3⟩ := new_of e3 n3
    clear e3
    have S03 := (S1.trans S2).trans S3
    refine q _ H3 (ys.map (kOf H)) S03 (List.pairwise_map.mpr hs) ?_ (.tup h3 ?_)
    · have := hp.map (kOf H)
      rw [hmap, ekeys] at this
      exact this
    · refine sorted_td (fun x m => ?_) (fun x m => (hkey x (hp.mem_iff.mp m)).kok)
      obtain ⟨t, e, ht⟩ := hat x (hp.mem_iff.mp m)
      exact ⟨t, e, S03.tup _ _ ht⟩
def spTrace (C : Addr) : Sp := fun vs H Q _ => ∃ (c dx dv la dg le : Addr) (h : Int) (vals : Vs) (asks : List Ask) (st : Std) (tr : Tr), vs = [.ref c] ∧ CtrAt C H c dx dv la dg le h vals asks st tr ∧ ∀ v H', Bt [] H H' → Td H' v (.tuple (tr.map trD)) → Q v H'
abbrev s_Counter_trace : Stmt := inClass (top 34) 15
theorem sc_Counter_trace : FnScope ["self"] ["self"] (defScope s_Counter_trace) := ⟨rfl, rfl, rfl, by decide +kernel, rfl, by decide +kernel, by decide +kernel⟩
theorem ok_trace {f : Addr} {fd : FuncData} (F : Fun K "trace" "Counter.trace" s_Counter_trace f fd) (T : Blt mg) (TC : CFx K C) : FnOk P w K mg base CX0 1 f fd ["self"] (spTrace C) := by
  refine F.ok sc_Counter_trace (fun vs H Q E h => ?_) (fun cdv A outer s H vs Q E hr h => ?_)
  · obtain ⟨_, _, _, _, _, _, _, _, _, _, _, rfl, _⟩ := h
    rfl
  · obtain ⟨c, dx, dv, la, dg, le, h, vals, asks, st, tr, rfl, ct, q⟩ := h
    obtain ⟨lve, hle, tle⟩ := ct.fle
    refine ⟨_, ((pss_one (ps_ret (pe_callTy call_tuple_of (by rfl) T.tuple B_tuple (pa_cons (pe_fld (pv 0) rfl) pa_nil))))), ?_⟩
    refine ⟨_, rfl, c, C, dx, _, _, rfl, ct.fob, TC.cl, TC.entries, flds_entries, ?_⟩
    refine ⟨le, lve, rfl, .inl ⟨.inl (.inl hle), fun p3 n3 => ?_⟩⟩
    generalize e3 : upd _ p3 _ = H3
    obtain ⟨S3, h3⟩ := new_of e3 n3
    clear e3
    exact q _ H3 S3 (.tup h3 (tle.bt S3))

/-! ### making -/
def hdI : List Key → Int
  | .inl i :: _ => i
  | _ => 0
def start1 (h : Int) (vals : Vs) (p : List Key × PyData) : Vs := if hdI p.1 = h then pt vals p.1 p.2 else vals
def startV (h : Int) (ps : Wrs) : Vs := ps.foldl (start1 h) []
theorem start_take {h : Int} {ps : Wrs} {i : Nat} {p : List Key × PyData} (e : ps[i]? = some p) : startV h (ps.take (i + 1)) = start1 h (startV h (ps.take i)) p := by
  unfold startV
  rw [List.take_add_one, e, Option.toList_some, List.foldl_append]
  rfl
theorem start_len {h : Int} : ∀ (ps : Wrs) (vals : Vs), (ps.foldl (start1 h) vals).length ≤ vals.length + ps.length
  | [], _ => Nat.le_refl _
  | p :: ps, vals => by
    have h1 := start_len (h := h) ps (start1 h vals p)
    have h2 : (start1 h vals p).length ≤ vals.length + 1 := by
      unfold start1
      split
      · exact pt_len _ _ _
      · omega
    rw [List.foldl_cons, List.length_cons]
    omega
theorem KeyOk.hdI {h : Int} {k : List Key} (x : KeyOk h k) : K33.hdI k = h := by
  obtain ⟨n, r, rfl, _⟩ := x
  rfl
def spInit (K : PySem.W.Frag) (C : Addr) : Sp := fun vs H Q _ => ∃ (c dx s : Addr) (h : Int) (xs : List V) (ps : Wrs), vs = [.ref c, .int h, .ref s] ∧ H c = some (.ins C dx []) ∧ 1 ≤ h ∧ h ≤ 5 ∧ (H s = some (.lst xs) ∨ H s = some (.tup xs)) ∧ TdA H xs (ps.map wrD) ∧ (∀ p ∈ ps, ∃ h', KeyOk h' p.1) ∧ ps.length ≤ 100000 ∧
  ∀ H' dv la dg le, H dv = none → H la = none → H dg = none → H le = none → Bt [c] H H' → CtrAt C H' c dx dv la dg le h (startV h ps) [] [] [] → Q .non H'
abbrev s_Counter___init__ : Stmt := inClass (top 34) 0
theorem sc_Counter___init__ : FnScope ["self", "house", "start", "key", "value"] ["self", "house", "start"] (defScope s_Counter___init__) := ⟨rfl, rfl, rfl, by decide +kernel, rfl, by decide +kernel, by decide +kernel⟩

theorem ok_init {f : Addr} {fd : FuncData} (F : Fun K "__init__" "Counter.__init__" s_Counter___init__ f fd) (T : Blt mg) (G : Glb K w mg) (TC : CFx K C) (C_is_between : Cal P w K mg base "is_between" 1 spBetween) : FnOk P w K mg base CX0 2 f fd ["self", "house", "start"] (spInit K C) := by
  refine F.ok sc_Counter___init__ (fun vs H Q E h => ?_) (fun cdv A outer s H vs Q E hr h => ?_)
  · obtain ⟨_, _, _, _, _, _, rfl, _⟩ := h
    rfl
  · obtain ⟨c, dx, s0, h, xs, ps, rfl, hc, h1, h5, hs, txs, pok, pl, q⟩ := h
    have hu := hu_of hr
    have xl : xs.length = ps.length := by rw [txs.len, List.length_map]
    have hs0 : c ≠ s0 := by
      rcases hs with hs | hs
      · exact ne_of hc hs (by intro z; cases z)
      · exact ne_of hc hs (by intro z; cases z)
    rcases hs with hs | hs
    · refine ⟨_, ((pss_cons (ps_if (pt_not (pt_val (pe_cc C_is_between hr (by decide) (by rfl) (pa_cons (pv 1) (pa_cons (pe_gc (by rfl) G.OFFICE) (pa_cons (pe_gc (by rfl) G.BANK) pa_nil)))))) (pss_one ps_never) pss_nil)
  (pss_cons (ps_fld (pv 0) (pv 1) rfl)
  (pss_cons (ps_fld (pv 0) pe_dnewT rfl)
  (pss_cons (ps_fld (pv 0) (pe_lst pa_nil) rfl)
  (pss_cons (ps_fld (pv 0) pe_dnewT rfl)
  (pss_cons (ps_fld (pv 0) (pe_lst pa_nil) rfl)
  (pss_one (ps_for PassesOwn.never rfl (pi_list (pv 2)) (pg_tup (by rfl) (pgs_cons (pg_name (i := 3) sc_Counter___init__.nd rfl (Or.inl rfl)) (pgs_cons (pg_name (i := 4) sc_Counter___init__.nd rfl (Or.inl rfl)) pgs_nil)))
  (pss_one (ps_if (pt_cmpR op_eq (pe_ix (ix_tupK (K := K) rfl) (pv 3) pe_int (fun _ _ => rfl)) (pv 1) (nomark _)) (pss_one (ps_dput hu (pe_fld (pv 0) rfl) (pv 3) (pv 4) rfl)) pss_nil))))))))))), ?_⟩
      refine ⟨_, rfl, h, 1, 5, rfl, h1, h5, ?_⟩
      refine ⟨_, rfl, iteF ?_⟩
      refine ⟨_, rfl, _, rfl, c, C, dx, _, rfl, hc, TC.cl, TC.house, (by show 0 < 1000; decide), ?_⟩
      generalize e1 : upd _ c _ = H1
      obtain ⟨S1, g1⟩ := mut_of e1 hc trivial
      clear e1
      intro dv n2
      generalize e2 : upd _ dv _ = H2
      obtain ⟨S2, g2⟩ := new_of e2 n2
      clear e2
      refine ⟨_, rfl, c, C, dx, _, rfl, S2.at g1, TC.cl, TC.values, (by show 1 < 1000; decide), ?_⟩
      generalize e3 : upd _ c _ = H3
      obtain ⟨S3, g3⟩ := mut_of e3 (S2.at g1) trivial
      clear e3
      have ncdv : c ≠ dv := ne_of_none g1 n2
      refine ⟨by show 0 ≤ sizeLine; decide, fun la n4 => ?_⟩
      generalize e4 : upd _ la _ = H4
      obtain ⟨S4, g4⟩ := new_of e4 n4
      clear e4
      refine ⟨_, rfl, c, C, dx, _, rfl, S4.at g3, TC.cl, TC.asks, (by show 2 < 1000; decide), ?_⟩
      generalize e5 : upd _ c _ = H5
      obtain ⟨S5, g5⟩ := mut_of e5 (S4.at g3) trivial
      clear e5
      have ncla : c ≠ la := ne_of_none g3 n4
      intro dg n6
      generalize e6 : upd _ dg _ = H6
      obtain ⟨S6, g6⟩ := new_of e6 n6
      clear e6
      refine ⟨_, rfl, c, C, dx, _, rfl, S6.at g5, TC.cl, TC.grants, (by show 3 < 1000; decide), ?_⟩
      generalize e7 : upd _ c _ = H7
      obtain ⟨S7, g7⟩ := mut_of e7 (S6.at g5) trivial
      clear e7
      have ncdg : c ≠ dg := ne_of_none g5 n6
      refine ⟨by show 0 ≤ sizeLine; decide, fun le n8 => ?_⟩
      generalize e8 : upd _ le _ = H8
      obtain ⟨S8, g8⟩ := new_of e8 n8
      clear e8
      refine ⟨_, rfl, c, C, dx, _, rfl, S8.at g7, TC.cl, TC.entries, (by show 4 < 1000; decide), ?_⟩
      generalize e9 : upd _ c _ = H9
      obtain ⟨S9, g9⟩ := mut_of e9 (S8.at g7) trivial
      clear e9
      have ncle : c ≠ le := ne_of_none g7 n8
      have efl : putF ("entries" : Str) (.ref le) (putF ("grants" : Str) (.ref dg) (putF ("asks" : Str) (.ref la) (putF ("values_now" : Str) (.ref dv) (putF ("house" : Str) (.int h) [])))) = flds h dv la dg le := by
        unfold flds
        have z1 : ¬ ("house" : Str) = ("values_now" : Str) := by decide +kernel
        have z2 : ¬ ("house" : Str) = ("asks" : Str) := by decide +kernel
        have z3 : ¬ ("house" : Str) = ("grants" : Str) := by decide +kernel
        have z4 : ¬ ("house" : Str) = ("entries" : Str) := by decide +kernel
        have y2 : ¬ ("values_now" : Str) = ("asks" : Str) := by decide +kernel
        have y3 : ¬ ("values_now" : Str) = ("grants" : Str) := by decide +kernel
        have y4 : ¬ ("values_now" : Str) = ("entries" : Str) := by decide +kernel
        have x3 : ¬ ("asks" : Str) = ("grants" : Str) := by decide +kernel
        have x4 : ¬ ("asks" : Str) = ("entries" : Str) := by decide +kernel
        have w4 : ¬ ("grants" : Str) = ("entries" : Str) := by decide +kernel
        simp only [putF, z1, z2, z3, z4, y2, y3, y4, x3, x4, w4, if_false]
      rw [efl] at g9
      clear efl
      have nvl : dv ≠ la := ne_of_none (S3.at1 ncdv.symm g2) n4
      have nvg : dv ≠ dg := ne_of_none (S5.at1 ncdv.symm (S4.at (S3.at1 ncdv.symm g2))) n6
      have v8 : H8 dv = some (.dT []) := S8.at (S7.at1 ncdv.symm (S6.at (S5.at1 ncdv.symm (S4.at (S3.at1 ncdv.symm g2)))))
      have l8 : H8 la = some (.lst []) := S8.at (S7.at1 ncla.symm (S6.at (S5.at1 ncla.symm g4)))
      have d8 : H8 dg = some (.dT []) := S8.at (S7.at1 ncdg.symm g6)
      have nle : la ≠ le := ne_of_none (S7.at1 ncla.symm (S6.at (S5.at1 ncla.symm g4))) n8
      have nvle : dv ≠ le := ne_of v8 g8 (by intro z; cases z)
      have nlg : la ≠ dg := ne_of l8 d8 (by intro z; cases z)
      have ngle : dg ≠ le := ne_of d8 g8 (by intro z; cases z)
      have B03 : Bt [c] H H3 := (S1.trans S2.nil).trans S3
      have B05 : Bt [c] H H5 := (B03.trans S4.nil).trans S5
      have B07 : Bt [c] H H7 := (B05.trans S6.nil).trans S7
      have B09 : Bt [c] H H9 := (B07.trans S8.nil).trans S9
      have m2 : H dv = none := fresh_back S1 (fun x m => by rw [List.mem_singleton.mp m, g1]; exact fun z => nomatch z) n2
      have m4 : H la = none := fresh_back B03 (fun x m => by rw [List.mem_singleton.mp m, g3]; exact fun z => nomatch z) n4
      have m6 : H dg = none := fresh_back B05 (fun x m => by rw [List.mem_singleton.mp m, g5]; exact fun z => nomatch z) n6
      have m8 : H le = none := fresh_back B07 (fun x m => by rw [List.mem_singleton.mp m, g7]; exact fun z => nomatch z) n8
      have ct9 : CtrAt C H9 c dx dv la dg le h [] [] [] [] := by
        refine ⟨g9, ⟨[], S9.at1 ncdv.symm v8, .nil⟩, ⟨[], S9.at1 ncla.symm l8, .nil⟩, ⟨[], S9.at1 ncdg.symm d8, .nil⟩, ⟨[], S9.at1 ncle.symm g8, .nil⟩, nvg, nle⟩
      have hs9 := B09.keep _ _ (no1 hs0.symm) hs
      have txs9 := txs.bt B09
      refine ⟨_, rfl, s0, rfl, ⟨xs, .inl (.inl hs9)⟩, ?_⟩
      refine for_list (K := K) (a := s0) (xs := xs) (fun i σ H10 => ∃ u1 u2, σ = [some (.ref c), some (.int h), some (.ref s0), u1, u2] ∧ Bt [dv] H9 H10 ∧ DictAt H10 dv (startV h (ps.take i))) ⟨none, none, rfl, Bt.refl, ct9.fdv⟩ (fun i σ H10 _ hp => ?_) ?_ ?_
      · obtain ⟨_, _, _, b, _⟩ := hp
        exact .inl (.inl (b.keep _ _ (no1 (ne_of_none hs m2)) hs9))
      · rintro i x σ H10 hx ⟨u1, u2, rfl, b, hd⟩
        obtain ⟨dd, e2, td⟩ := (txs9.bt b).get' hx
        rw [List.getElem?_map] at e2
        cases er : ps[i]? with
        | none => rw [er] at e2; cases e2
        | some p =>
        rw [er] at e2
        cases e2
        obtain ⟨tb, ys, rfl, hb, tys⟩ := Td.tup_inv td
        obtain ⟨w1, r1, rfl, tw1, tys⟩ := tys.cons_inv
        obtain ⟨w2, r2, rfl, tw2, tys⟩ := tys.cons_inv
        cases tys.nil_inv
        obtain ⟨kb, rfl, hkb, _⟩ := key_td tw1
        obtain ⟨h', hk'⟩ := pok p (List.mem_of_getElem? er)
        have hhd : hdI p.1 = h' := hk'.hdI
        have egx : (p.1.map kV)[0]? = some (.int h') := by
          obtain ⟨n, r, e, _⟩ := hk'
          rw [e]
          rfl
        refine ⟨tb, _, rfl, .inl (.inl hb), rfl, ?_⟩
        refine ⟨_, _, rfl, _, _, rfl, rfl, ?_⟩
        refine ⟨_, rfl, kb, _, _, _, rfl, rfl, .inl (.inl hkb), atI_nat (j := 0) egx, ?_⟩
        refine ⟨_, rfl, rfl, _, rfl, ?_⟩
        have est := start_take (h := h) er
        refine iteD2 (fun z => ?_) (fun z => ?_)
        · have e := V.int.inj z
          obtain ⟨H11, put, b11, hd11⟩ := hd.put hkb tw2 (by
            have := start_len (h := h) (ps.take i) []
            have h3 : (ps.take i).length ≤ ps.length := by rw [List.length_take]; omega
            unfold startV
            rw [List.length_nil] at this
            omega)
          refine ⟨_, rfl, ?_⟩
          refine ⟨_, rfl, c, C, dx, _, _, rfl, b.at1 ncdv g9, TC.cl, TC.values, flds_values, ?_⟩
          refine ⟨_, rfl, dv, H11, rfl, put, ?_⟩
          refine ⟨_, _, rfl, b.trans b11, ?_⟩
          rw [est]
          unfold start1
          rw [if_pos (by rw [hhd]; exact e)]
          exact hd11
        · refine ⟨_, _, rfl, b, ?_⟩
          rw [est]
          unfold start1
          rw [if_neg (fun y => z (by rw [← y, hhd]))]
          exact hd
      · rintro σ H10 ⟨u1, u2, rfl, b, hd⟩
        rw [xl, List.take_length] at hd
        refine q H10 dv la dg le m2 m4 m6 m8 ?_ ⟨b.at1 ncdv g9, hd, ct9.fla.bt b (no1 nvl.symm), ct9.fdg.bt b (no1 nvg.symm), ct9.fle.bt b (no1 nvle.symm), nvg, nle⟩
        have : Bt (dv :: [c]) H H10 := (B09.mono fun _ z => by simp at z; simp [z]).trans (b.mono fun _ z => by simp at z; simp [z])
        exact this.dropN m2
    · refine ⟨_, ((pss_cons (ps_if (pt_not (pt_val (pe_cc C_is_between hr (by decide) (by rfl) (pa_cons (pv 1) (pa_cons (pe_gc (by rfl) G.OFFICE) (pa_cons (pe_gc (by rfl) G.BANK) pa_nil)))))) (pss_one ps_never) pss_nil)
  (pss_cons (ps_fld (pv 0) (pv 1) rfl)
  (pss_cons (ps_fld (pv 0) pe_dnewT rfl)
  (pss_cons (ps_fld (pv 0) (pe_lst pa_nil) rfl)
  (pss_cons (ps_fld (pv 0) pe_dnewT rfl)
  (pss_cons (ps_fld (pv 0) (pe_lst pa_nil) rfl)
  (pss_one (ps_for PassesOwn.never rfl (pi_tup (pv 2)) (pg_tup (by rfl) (pgs_cons (pg_name (i := 3) sc_Counter___init__.nd rfl (Or.inl rfl)) (pgs_cons (pg_name (i := 4) sc_Counter___init__.nd rfl (Or.inl rfl)) pgs_nil)))
  (pss_one (ps_if (pt_cmpR op_eq (pe_ix (ix_tupK (K := K) rfl) (pv 3) pe_int (fun _ _ => rfl)) (pv 1) (nomark _)) (pss_one (ps_dput hu (pe_fld (pv 0) rfl) (pv 3) (pv 4) rfl)) pss_nil))))))))))), ?_⟩
      refine ⟨_, rfl, h, 1, 5, rfl, h1, h5, ?_⟩
      refine ⟨_, rfl, iteF ?_⟩
      refine ⟨_, rfl, _, rfl, c, C, dx, _, rfl, hc, TC.cl, TC.house, (by show 0 < 1000; decide), ?_⟩
      generalize e1 : upd _ c _ = H1
      obtain ⟨S1, g1⟩ := mut_of e1 hc trivial
      clear e1
      intro dv n2
      generalize e2 : upd _ dv _ = H2
      obtain ⟨S2, g2⟩ := new_of e2 n2
      clear e2
      refine ⟨_, rfl, c, C, dx, _, rfl, S2.at g1, TC.cl, TC.values, (by show 1 < 1000; decide), ?_⟩
      generalize e3 : upd _ c _ = H3
      obtain ⟨S3, g3⟩ := mut_of e3 (S2.at g1) trivial
      clear e3
      have ncdv : c ≠ dv := ne_of_none g1 n2
      refine ⟨by show 0 ≤ sizeLine; decide, fun la n4 => ?_⟩
      generalize e4 : upd _ la _ = H4
      obtain ⟨S4, g4⟩ := new_of e4 n4
      clear e4
      refine ⟨_, rfl, c, C, dx, _, rfl, S4.at g3, TC.cl, TC.asks, (by show 2 < 1000; decide), ?_⟩
      generalize e5 : upd _ c _ = H5
      obtain ⟨S5, g5⟩ := mut_of e5 (S4.at g3) trivial
      clear e5
      have ncla : c ≠ la := ne_of_none g3 n4
      intro dg n6
      generalize e6 : upd _ dg _ = H6
      obtain ⟨S6, g6⟩ := new_of e6 n6
      clear e6
      refine ⟨_, rfl, c, C, dx, _, rfl, S6.at g5, TC.cl, TC.grants, (by show 3 < 1000; decide), ?_⟩
      generalize e7 : upd _ c _ = H7
      obtain ⟨S7, g7⟩ := mut_of e7 (S6.at g5) trivial
      clear e7
      have ncdg : c ≠ dg := ne_of_none g5 n6
      refine ⟨by show 0 ≤ sizeLine; decide, fun le n8 => ?_⟩
      generalize e8 : upd _ le _ = H8
      obtain ⟨S8, g8⟩ := new_of e8 n8
      clear e8
      refine ⟨_, rfl, c, C, dx, _, rfl, S8.at g7, TC.cl, TC.entries, (by show 4 < 1000; decide), ?_⟩
      generalize e9 : upd _ c _ = H9
      obtain ⟨S9, g9⟩ := mut_of e9 (S8.at g7) trivial
      clear e9
      have ncle : c ≠ le := ne_of_none g7 n8
      have efl : putF ("entries" : Str) (.ref le) (putF ("grants" : Str) (.ref dg) (putF ("asks" : Str) (.ref la) (putF ("values_now" : Str) (.ref dv) (putF ("house" : Str) (.int h) [])))) = flds h dv la dg le := by
        unfold flds
        have z1 : ¬ ("house" : Str) = ("values_now" : Str) := by decide +kernel
        have z2 : ¬ ("house" : Str) = ("asks" : Str) := by decide +kernel
        have z3 : ¬ ("house" : Str) = ("grants" : Str) := by decide +kernel
        have z4 : ¬ ("house" : Str) = ("entries" : Str) := by decide +kernel
        have y2 : ¬ ("values_now" : Str) = ("asks" : Str) := by decide +kernel
        have y3 : ¬ ("values_now" : Str) = ("grants" : Str) := by decide +kernel
        have y4 : ¬ ("values_now" : Str) = ("entries" : Str) := by decide +kernel
        have x3 : ¬ ("asks" : Str) = ("grants" : Str) := by decide +kernel
        have x4 : ¬ ("asks" : Str) = ("entries" : Str) := by decide +kernel
        have w4 : ¬ ("grants" : Str) = ("entries" : Str) := by decide +kernel
        simp only [putF, z1, z2, z3, z4, y2, y3, y4, x3, x4, w4, if_false]
      rw [efl] at g9
      clear efl
      have nvl : dv ≠ la := ne_of_none (S3.at1 ncdv.symm g2) n4
      have nvg : dv ≠ dg := ne_of_none (S5.at1 ncdv.symm (S4.at (S3.at1 ncdv.symm g2))) n6
      have v8 : H8 dv = some (.dT []) := S8.at (S7.at1 ncdv.symm (S6.at (S5.at1 ncdv.symm (S4.at (S3.at1 ncdv.symm g2)))))
      have l8 : H8 la = some (.lst []) := S8.at (S7.at1 ncla.symm (S6.at (S5.at1 ncla.symm g4)))
      have d8 : H8 dg = some (.dT []) := S8.at (S7.at1 ncdg.symm g6)
      have nle : la ≠ le := ne_of_none (S7.at1 ncla.symm (S6.at (S5.at1 ncla.symm g4))) n8
      have nvle : dv ≠ le := ne_of v8 g8 (by intro z; cases z)
      have nlg : la ≠ dg := ne_of l8 d8 (by intro z; cases z)
      have ngle : dg ≠ le := ne_of d8 g8 (by intro z; cases z)
      have B03 : Bt [c] H H3 := (S1.trans S2.nil).trans S3
      have B05 : Bt [c] H H5 := (B03.trans S4.nil).trans S5
      have B07 : Bt [c] H H7 := (B05.trans S6.nil).trans S7
      have B09 : Bt [c] H H9 := (B07.trans S8.nil).trans S9
      have m2 : H dv = none := fresh_back S1 (fun x m => by rw [List.mem_singleton.mp m, g1]; exact fun z => nomatch z) n2
      have m4 : H la = none := fresh_back B03 (fun x m => by rw [List.mem_singleton.mp m, g3]; exact fun z => nomatch z) n4
      have m6 : H dg = none := fresh_back B05 (fun x m => by rw [List.mem_singleton.mp m, g5]; exact fun z => nomatch z) n6
      have m8 : H le = none := fresh_back B07 (fun x m => by rw [List.mem_singleton.mp m, g7]; exact fun z => nomatch z) n8
      have ct9 : CtrAt C H9 c dx dv la dg le h [] [] [] [] := by
        refine ⟨g9, ⟨[], S9.at1 ncdv.symm v8, .nil⟩, ⟨[], S9.at1 ncla.symm l8, .nil⟩, ⟨[], S9.at1 ncdg.symm d8, .nil⟩, ⟨[], S9.at1 ncle.symm g8, .nil⟩, nvg, nle⟩
      have hs9 := B09.keep _ _ (no1 hs0.symm) hs
      have txs9 := txs.bt B09
      refine ⟨_, rfl, s0, rfl, ⟨xs, .inl (.inl hs9)⟩, ?_⟩
      refine for_tup (K := K) (a := s0) (xs := xs) (fun i σ H10 => ∃ u1 u2, σ = [some (.ref c), some (.int h), some (.ref s0), u1, u2] ∧ Bt [dv] H9 H10 ∧ DictAt H10 dv (startV h (ps.take i))) ⟨none, none, rfl, Bt.refl, ct9.fdv⟩ (fun i σ H10 _ hp => ?_) ?_ ?_
      · obtain ⟨_, _, _, b, _⟩ := hp
        exact .inl (.inl (b.keep _ _ (no1 (ne_of_none hs m2)) hs9))
      · rintro i x σ H10 hx ⟨u1, u2, rfl, b, hd⟩
        obtain ⟨dd, e2, td⟩ := (txs9.bt b).get' hx
        rw [List.getElem?_map] at e2
        cases er : ps[i]? with
        | none => rw [er] at e2; cases e2
        | some p =>
        rw [er] at e2
        cases e2
        obtain ⟨tb, ys, rfl, hb, tys⟩ := Td.tup_inv td
        obtain ⟨w1, r1, rfl, tw1, tys⟩ := tys.cons_inv
        obtain ⟨w2, r2, rfl, tw2, tys⟩ := tys.cons_inv
        cases tys.nil_inv
        obtain ⟨kb, rfl, hkb, _⟩ := key_td tw1
        obtain ⟨h', hk'⟩ := pok p (List.mem_of_getElem? er)
        have hhd : hdI p.1 = h' := hk'.hdI
        have egx : (p.1.map kV)[0]? = some (.int h') := by
          obtain ⟨n, r, e, _⟩ := hk'
          rw [e]
          rfl
        refine ⟨tb, _, rfl, .inl (.inl hb), rfl, ?_⟩
        refine ⟨_, _, rfl, _, _, rfl, rfl, ?_⟩
        refine ⟨_, rfl, kb, _, _, _, rfl, rfl, .inl (.inl hkb), atI_nat (j := 0) egx, ?_⟩
        refine ⟨_, rfl, rfl, _, rfl, ?_⟩
        have est := start_take (h := h) er
        refine iteD2 (fun z => ?_) (fun z => ?_)
        · have e := V.int.inj z
          obtain ⟨H11, put, b11, hd11⟩ := hd.put hkb tw2 (by
            have := start_len (h := h) (ps.take i) []
            have h3 : (ps.take i).length ≤ ps.length := by rw [List.length_take]; omega
            unfold startV
            rw [List.length_nil] at this
            omega)
          refine ⟨_, rfl, ?_⟩
          refine ⟨_, rfl, c, C, dx, _, _, rfl, b.at1 ncdv g9, TC.cl, TC.values, flds_values, ?_⟩
          refine ⟨_, rfl, dv, H11, rfl, put, ?_⟩
          refine ⟨_, _, rfl, b.trans b11, ?_⟩
          rw [est]
          unfold start1
          rw [if_pos (by rw [hhd]; exact e)]
          exact hd11
        · refine ⟨_, _, rfl, b, ?_⟩
          rw [est]
          unfold start1
          rw [if_neg (fun y => z (by rw [← y, hhd]))]
          exact hd
      · rintro σ H10 ⟨u1, u2, rfl, b, hd⟩
        rw [xl, List.take_length] at hd
        refine q H10 dv la dg le m2 m4 m6 m8 ?_ ⟨b.at1 ncdv g9, hd, ct9.fla.bt b (no1 nvl.symm), ct9.fdg.bt b (no1 nvg.symm), ct9.fle.bt b (no1 nvle.symm), nvg, nle⟩
        have : Bt (dv :: [c]) H H10 := (B09.mono fun _ z => by simp at z; simp [z]).trans (b.mono fun _ z => by simp at z; simp [z])
        exact this.dropN m2
end
end K33

/-! K13: the law's draws, words, ids -/
namespace K33
open PySem L2
theorem walk_rngL {lo : Int} {n : Nat} : Walk (Itr lo n) ((List.range n).map fun i => V.int (lo + (i : Nat))).length (fun _ => True) (YAt ((List.range n).map fun i => V.int (lo + (i : Nat)))) := by
  have e : ((List.range n).map fun i => V.int (lo + (i : Nat))).length = n := by rw [List.length_map, List.length_range]
  rw [e]
  refine ⟨fun _ _ hi _ => hi, fun _ _ => Nat.le_refl _, fun i H x H' hi _ y => ?_⟩
  obtain ⟨y1, y2⟩ := y
  refine ⟨y1, ?_⟩
  rw [List.getElem?_map, List.getElem?_range hi, y2]
  rfl
theorem rng_get {lo : Int} {n i : Nat} {x : V} (h : ((List.range n).map fun i => V.int (lo + (i : Nat)))[i]? = some x) : i < n ∧ x = V.int (lo + (i : Nat)) := by
  rw [List.getElem?_map] at h
  by_cases hi : i < n
  · rw [List.getElem?_range hi] at h
    cases h
    exact ⟨hi, rfl⟩
  · rw [List.getElem?_eq_none (by rw [List.length_range]; omega)] at h
    cases h
/-- a comprehension whose list keeps R -/
theorem lcR {J : It} {xs : List V} {G : Hp → Prop} (wk : Walk J xs.length G (YAt xs)) {g : TG} {tt : TT} {te : TE} {vs : List Nat} {σ : L2.St} {H1 : Hp} {D : Addr} {Qd : Hp → Prop} (n0 : H1 D = none) (hG : ∀ H, Bt [] H1 H → G H) (hz : xs.length ≤ 100000) (R : Nat → List V → Prop) (h0 : R 0 [])
    (hs : ∀ i x H', xs[i]? = some x → Bt [] H1 H' → ∀ (N1 : V → Hp → Prop) (N2 : Hp → Prop), (∀ y H4, Bt [] H' H4 → (∀ ys, R i ys → R (i + 1) (ys ++ [y])) → N1 y H4) → (∀ H3, Bt [] H' H3 → (∀ ys, R i ys → R (i + 1) ys) → N2 H3) →
      g x (wipe σ vs) H' fun σ2 H2 => wipe σ2 vs = wipe σ vs ∧ tt σ2 H2 fun b H3 => if b = true then te σ2 H3 N1 else N2 H3)
    (hd : ∀ H2 ys, Bt [] H1 H2 → H2 D = some (.lst ys) → R xs.length ys → ys.length ≤ xs.length → Qd H2) :
    ∃ W : Nat → Nat → Hp → Prop, (∃ m, W 0 m (upd H1 D (.lst []))) ∧ ∀ i m H, W i m H →
      (J.stop i H ∧ Qd H) ∨ (J.go i H ∧ ∃ Nx : Hp → Prop, (∀ H', Nx H' → ∃ m', m' < m ∧ W (i + 1) m' H') ∧ ∀ x H', J.yld i H x H' → g x (wipe σ vs) H' fun σ2 H2 => wipe σ2 vs = wipe σ vs ∧ tt σ2 H2 fun b H3 =>
        if b = true then te σ2 H3 fun y H4 => ∃ acc, H4 D = some (.lst acc) ∧ acc.length < sizeLine ∧ Nx (upd H4 D (.lst (acc ++ [y]))) else Nx H3) := by
  refine lc_it wk (fun i H => i ≤ xs.length ∧ Bt [] H1 H ∧ ∃ ys, H D = some (.lst ys) ∧ R i ys ∧ ys.length ≤ i) ?_ (fun i H _ p => hG H p.2.1) ?_ ?_
  · exact ⟨Nat.zero_le _, Bt.new n0, [], upd_same, h0, Nat.le_refl _⟩
  · rintro i x H H' hi ⟨_, b, ys, hD, r, hl⟩ ⟨rfl, hx⟩
    refine hs i x H' hx b _ _ (fun y H4 b4 e => ?_) (fun H3 b3 e => ?_)
    · have hD4 := b4.at hD
      exact ⟨ys, hD4, sz_lt (by omega), by omega, (b.trans b4).put_new n0, ys ++ [y], upd_same, e ys r, by rw [List.length_append, List.length_singleton]; omega⟩
    · exact ⟨by omega, b.trans b3, ys, b3.at hD, e ys r, by omega⟩
  · rintro H ⟨_, b, ys, hD, r, hl⟩
    exact hd H ys b hD r hl
def PoolAt (H : Hp) (p : Addr) : Prop := ∃ ns : List Int, H p = some (.lst (ns.map V.int)) ∧ ns.length ≤ 100000
theorem PoolAt.bt {ls : List Addr} {H H' : Hp} {p : Addr} (b : Bt ls H H') (n : p ∉ ls) (h : PoolAt H p) : PoolAt H' p := by
  obtain ⟨ns, h1, h2⟩ := h
  exact ⟨ns, b.keep _ _ n h1, h2⟩
theorem PoolAt.ne {H : Hp} {p x : Addr} {o : HO} (h : PoolAt H p) (e : H x = some o) (n : ∀ xs, o ≠ .lst xs) : p ≠ x := by
  obtain ⟨ns, h1, h2⟩ := h
  exact ne_of h1 e (fun z => n _ z.symm)
theorem PoolAt.nen {H : Hp} {p x : Addr} (h : PoolAt H p) (e : H x = none) : p ≠ x := by
  obtain ⟨ns, h1, h2⟩ := h
  exact ne_of_none h1 e
section
variable {P : Program} {w : World} {K : PySem.W.Frag} {mg : Str → Option Value} {base : Heap}
/-! ### draws -/
def spDraw : Sp := fun vs H Q _ => ∃ (p : Addr) (m : Int), vs = [.ref p, .int m] ∧ PoolAt H p ∧ 0 < m ∧ ∀ d H', 0 ≤ d → d < m → Bt [p] H H' → PoolAt H' p → Q (.int d) H'
abbrev s_law_draw : Stmt := top 37
theorem sc_law_draw : FnScope ["_law_pool_here", "_law_many"] ["_law_pool_here", "_law_many"] (defScope s_law_draw) := ⟨rfl, rfl, rfl, by decide +kernel, rfl, by decide +kernel, by decide +kernel⟩
theorem ok_draw {f : Addr} {fd : FuncData} (F : Fun K "_law_draw" "_law_draw" s_law_draw f fd) (T : Blt mg) : FnOk P w K mg base CX0 1 f fd ["_law_pool_here", "_law_many"] spDraw := by
  refine F.ok sc_law_draw (fun vs H Q E h => ?_) (fun cdv A outer s H vs Q E hr h => ?_)
  · obtain ⟨_, _, rfl, _⟩ := h
    rfl
  · obtain ⟨p, m, rfl, ⟨ns, hp, hl⟩, hm, q⟩ := h
    refine ⟨_, ((pss_cons (ps_if (pt_cmpR op_eq (pe_callB call_len_seq (by rfl) T.len B_len (pa_cons (pv 0) pa_nil)) pe_int (nomark _)) (pss_one (ps_ret pe_int)) pss_nil)
  (pss_one (ps_ret (pe_op op_mod (pe_callTy call_int1 (by rfl) T.int B_int (pa_cons (pe_bm0 PySem.F.plainAttrs_list PySem.F.slot_list_pop PySem.F.type_list_pop mt_pop (pv 0)) pa_nil)) (pv 1)))))), ?_⟩
    refine ⟨_, rfl, p, _, rfl, .inl (.inl (.inl hp)), ?_⟩
    refine ⟨rfl, _, rfl, ?_⟩
    refine iteD2 (fun z => ?_) (fun z => ?_)
    · exact q 0 H (by omega) hm Bt.refl ⟨ns, hp, hl⟩
    · have hne : ns ≠ [] := fun e => z (by rw [e]; rfl)
      refine ⟨_, rfl, ?_⟩
      have hlen : 0 < ns.length := List.length_pos_iff.mpr hne
      have hg : (ns.map V.int)[(ns.map V.int).length - 1]? = some (.int (ns.getLast hne)) := by
        rw [← List.getLast?_eq_getElem?, List.getLast?_map, List.getLast?_eq_some_getLast hne]
        rfl
      refine ⟨.inl ⟨rfl, _, .inl (.inl hp)⟩, ?_⟩
      refine ⟨p, ns.map V.int, _, rfl, rfl, hp, hg, ?_⟩
      refine .inl ⟨_, rfl, ?_⟩
      refine ⟨_, rfl, ?_⟩
      refine ⟨_, _, rfl, rfl, hm, ?_⟩
      refine q _ _ (Int.emod_nonneg _ (by omega)) (Int.emod_lt_of_pos _ hm) (Bt.mut hp trivial) ⟨ns.dropLast, ?_, ?_⟩
      · rw [upd_same, List.map_dropLast]
      · rw [List.length_dropLast]
        omega
theorem app_int {H : Hp} {p : Addr} {ms : List Int} {x : Int} (h : H p = some (.lst (ms.map V.int ++ [V.int x]))) : H p = some (.lst ((ms ++ [x]).map V.int)) := by
  rw [h, List.map_append]
  rfl
/-! ### the pool -/
def spPool (K : PySem.W.Frag) : Sp := fun vs H Q _ => ∃ (a : Addr) (ns : List Int), vs = [.ref a, .int 1200] ∧ SqL K H a (ns.map V.int) ∧ ns.length ≤ 63 ∧ ∀ p H', H p = none → Bt [] H H' → PoolAt H' p → Q (.ref p) H'
abbrev s_law_pool : Stmt := top 36
theorem sc_law_pool : FnScope ["_law_script", "_law_many", "_law_pool_here", "_law_total", "_law_cell", "_law_k", "_law_rest", "_law_first_here", "_law_second"] ["_law_script", "_law_many"] (defScope s_law_pool) := ⟨rfl, rfl, rfl, by decide +kernel, rfl, by decide +kernel, by decide +kernel⟩
theorem ok_pool {f : Addr} {fd : FuncData} (F : Fun K "_law_pool" "_law_pool" s_law_pool f fd) (T : Blt mg) : FnOk P w K mg base CX0 1 f fd ["_law_script", "_law_many"] (spPool K) := by
  refine F.ok sc_law_pool (fun vs H Q E h => ?_) (fun cdv A outer s H vs Q E hr h => ?_)
  · obtain ⟨_, _, rfl, _⟩ := h
    rfl
  · obtain ⟨a, ns, rfl, ha, hl, q⟩ := h
    refine ⟨_, ((pss_cons (ps_set (i := 2) sc_law_pool.nd rfl (Or.inl rfl) (pe_lst pa_nil))
  (pss_cons (ps_set (i := 3) sc_law_pool.nd rfl (Or.inl rfl) pe_int)
  (pss_cons (ps_for PassesOwn.never rfl (pi_list (pv 0)) (pg_name (i := 4) sc_law_pool.nd rfl (Or.inl rfl))
  (pss_cons (ps_set (i := 6) sc_law_pool.nd rfl (Or.inl rfl) (pe_callTy call_int1 (by rfl) T.int B_int (pa_cons (pe_callB call_abs (by rfl) T.abs B_abs (pa_cons (pv 4) pa_nil)) pa_nil)))
  (pss_cons (ps_if (pt_cmpR op_ge (pv 6) (pe_op op_pow pe_int pe_int) (nomark _)) (pss_one (ps_for PassesOwn.never rfl (pi_range1 (by rfl) T.range (pa_cons (pe_callB (call_min2 rfl) (by rfl) T.min B_min (pa_cons pe_int (pa_cons (pe_op op_sub (pv 1) (pe_callB call_len_seq (by rfl) T.len B_len (pa_cons (pv 2) pa_nil))) pa_nil))) pa_nil)) (pg_name (i := 5) sc_law_pool.nd rfl (Or.inl rfl))
  (pss_cons (ps_expr (pe_bm PySem.F.plainAttrs_list PySem.F.slot_list_append PySem.F.type_list_append mt_append (pv 2) (pa_cons (pe_op op_mod (pe_callTy call_int1 (by rfl) T.int B_int (pa_cons (pv 6) pa_nil)) pe_int) pa_nil)))
  (pss_cons (ps_set (i := 6) sc_law_pool.nd rfl (Or.inl rfl) (pe_op op_fdiv (pv 6) pe_int))
  (pss_one (ps_if (pt_cmpR op_eq (pv 6) pe_int (nomark _)) (pss_one ps_break) pss_nil)))))) (pss_cons (ps_set (i := 7) sc_law_pool.nd rfl (Or.inl rfl) (pe_op op_mod (pe_callTy call_int1 (by rfl) T.int B_int (pa_cons (pe_op op_add (pe_op op_add (pe_op op_mul (pv 4) pe_int) (pe_op op_mul (pe_callB call_len_seq (by rfl) T.len B_len (pa_cons (pv 2) pa_nil)) pe_int)) pe_int) pa_nil)) pe_int))
  (pss_cons (ps_set (i := 8) sc_law_pool.nd rfl (Or.inl rfl) (pe_op op_mod (pe_callTy call_int1 (by rfl) T.int B_int (pa_cons (pe_op op_add (pe_op op_mul (pv 7) (pv 7)) pe_int) pa_nil)) pe_int))
  (pss_cons (ps_expr (pe_bm PySem.F.plainAttrs_list PySem.F.slot_list_append PySem.F.type_list_append mt_append (pv 2) (pa_cons (pe_op op_mod (pe_callTy call_int1 (by rfl) T.int B_int (pa_cons (pe_op op_fdiv (pv 8) pe_int) pa_nil)) pe_int) pa_nil)))
  (pss_one (ps_expr (pe_bm PySem.F.plainAttrs_list PySem.F.slot_list_append PySem.F.type_list_append mt_append (pv 2) (pa_cons (pe_op op_mod (pe_op op_mod (pe_callTy call_int1 (by rfl) T.int B_int (pa_cons (pe_op op_add (pe_op op_mul (pv 8) pe_int) (pv 7)) pa_nil)) pe_int) pe_int) pa_nil))))))))
  (pss_one (ps_set (i := 3) sc_law_pool.nd rfl (Or.inl rfl) (pe_op op_mod (pe_callTy call_int1 (by rfl) T.int B_int (pa_cons (pe_op op_add (pe_op op_mul (pv 3) pe_int) (pv 4)) pa_nil)) pe_int))))))
  (pss_cons (ps_for PassesOwn.never rfl (pi_range1 (by rfl) T.range (pa_cons (pv 1) pa_nil)) (pg_name (i := 5) sc_law_pool.nd rfl (Or.inl rfl))
  (pss_cons (ps_set (i := 3) sc_law_pool.nd rfl (Or.inl rfl) (pe_op op_mod (pe_callTy call_int1 (by rfl) T.int B_int (pa_cons (pe_op op_add (pe_op op_add (pe_op op_mul (pv 3) pe_int) (pe_op op_mul (pv 5) pe_int)) pe_int) pa_nil)) pe_int))
  (pss_one (ps_expr (pe_bm PySem.F.plainAttrs_list PySem.F.slot_list_append PySem.F.type_list_append mt_append (pv 2) (pa_cons (pe_op op_mod (pe_callTy call_int1 (by rfl) T.int B_int (pa_cons (pe_op op_fdiv (pv 3) pe_int) pa_nil)) pe_int) pa_nil))))))
  (pss_cons (ps_set (i := 2) sc_law_pool.nd rfl (Or.inl rfl) (pe_slice sl_list (pv 2) po_none (po_some (pv 1))))
  (pss_cons (ps_expr (pe_bm0 PySem.F.plainAttrs_list PySem.F.slot_list_reverse PySem.F.type_list_reverse mt_reverse (pv 2)))
  (pss_one (ps_ret (pv 2)))))))))), ?_⟩
    refine ⟨by show 0 ≤ sizeLine; decide, fun p np => ?_⟩
    generalize e1 : upd _ p _ = H1
    obtain ⟨S1, h1⟩ := new_of e1 np
    clear e1
    refine ⟨_, rfl, a, rfl, ⟨_, S1.sqL ha⟩, ?_⟩
    have hgo : ∀ H2, Bt [p] H H2 → SqL K H2 a (ns.map V.int) := fun H2 b2 => (b2.dropN np).sqL ha
    refine for_list (K := K) (a := a) (xs := ns.map V.int) (fun i σ H2 => ∃ (t : Int) (u4 u5 u6 u7 u8 : Option V), σ = [some (.ref a), some (.int 1200), some (.ref p), some (.int t), u4, u5, u6, u7, u8] ∧ 0 ≤ t ∧ t < 1000003 ∧ Bt [p] H H2 ∧ ∃ ms : List Int, H2 p = some (.lst (ms.map V.int)) ∧ ms.length ≤ 60 * i)
      ⟨1, none, none, none, none, none, rfl, by omega, by omega, S1.nil, [], h1, Nat.le_refl _⟩ (fun i σ H2 _ hp => ?_) ?_ ?_
    · obtain ⟨_, _, _, _, _, _, _, _, _, b2, _⟩ := hp
      exact hgo _ b2
    · rintro i x σ H2 hx ⟨t, u4, u5, u6, u7, u8, rfl, t0, t1, b2, ms, hp2, ml⟩
      rw [List.getElem?_map] at hx
      cases en : ns[i]? with
      | none => rw [en] at hx; cases hx
      | some n =>
      rw [en] at hx
      cases hx
      have hi : i < ns.length := (List.getElem?_eq_some_iff.mp en).1
      refine ⟨_, rfl, _, rfl, .inl ⟨_, rfl, ?_⟩⟩
      generalize hrr : (if n < 0 then -n else n) = r
      refine ⟨_, rfl, _, _, rfl, rfl, ⟨by decide, by decide, by decide⟩, _, _, rfl, rfl, _, rfl, ?_⟩
      refine iteD2 (fun z => ?_) (fun z => ?_)
      · refine ⟨_, rfl, _, rfl, p, _, rfl, .inl (.inl (.inl hp2)), ?_⟩
        refine ⟨_, _, rfl, rfl, ?_⟩
        refine ⟨_, _, rfl, ?_⟩
        generalize hmm : (if (1200 : Int) - ((ms.map V.int).length : Nat) < 60 then (1200 : Int) - ((ms.map V.int).length : Nat) else 60) = mm
        have hm1 : mm ≤ 60 := by rw [← hmm]; split <;> omega
        have hm2 : -(10 ^ 9) ≤ mm := by rw [← hmm, List.length_map]; split <;> omega
        refine ⟨_, rfl, by omega, by omega, ?_⟩
        refine for_range (n := mm.toNat) (fun j σ H3 => ∃ (rr : Int) (u5 : Option V), σ = [some (.ref a), some (.int 1200), some (.ref p), some (.int t), some (.int n), u5, some (.int rr), u7, u8] ∧ Bt [p] H H3 ∧ ∃ ms3 : List Int, H3 p = some (.lst (ms3.map V.int)) ∧ ms3.length ≤ 60 * i + j)
          ⟨r, u5, rfl, b2, ms, hp2, by omega⟩ ?_ ?_
        · rintro j σ H3 hj ⟨rr, u5, rfl, b3, ms3, hp3, ml3⟩
          refine ⟨_, rfl, .inl ⟨rfl, _, .inl (.inl hp3)⟩, ?_⟩
          refine ⟨_, rfl, .inl ⟨_, rfl, ?_⟩⟩
          refine ⟨_, _, rfl, rfl, (by show (0 : Int) < 2520; decide), ?_⟩
          refine ⟨p, _, _, rfl, rfl, hp3, sz_lt (by rw [List.length_map]; omega), ?_⟩
          generalize e4 : upd _ p _ = H4
          obtain ⟨S4, h4⟩ := mut_of e4 hp3 trivial
          clear e4
          refine ⟨_, rfl, _, _, rfl, rfl, ⟨by decide, by decide⟩, ?_⟩
          refine ⟨_, rfl, rfl, _, rfl, ?_⟩
          have nx : ∃ ms3 : List Int, H4 p = some (.lst (ms3.map V.int)) ∧ ms3.length ≤ 60 * i + (j + 1) := ⟨ms3 ++ [rr % 2520], by rw [h4, List.map_append]; rfl, by rw [List.length_append, List.length_singleton]; omega⟩
          refine iteD2 (fun z => ?_) (fun z => ?_)
          · obtain ⟨ms4, hp4, ml4⟩ := nx
            refine ⟨_, rfl, _, _, rfl, rfl, .inr ⟨by decide, by decide⟩, _, rfl, _, _, rfl, rfl, .inl ⟨_, rfl, ?_⟩⟩
            refine ⟨_, _, rfl, rfl, (by show (0 : Int) < 1000003; decide), ?_⟩
            exact ⟨_, _, _, _, _, _, rfl, Int.emod_nonneg _ (by decide), Int.emod_lt_of_pos _ (by decide), b3.trans S4, ms4, hp4, by omega⟩
          · exact ⟨_, _, rfl, b3.trans S4, nx⟩
        · rintro σ H3 ⟨rr, u5, rfl, b3, ms3, hp3, ml3⟩
          refine ⟨_, rfl, _, _, rfl, rfl, .inr ⟨by decide, by decide⟩, _, rfl, _, _, rfl, rfl, .inl ⟨_, rfl, ?_⟩⟩
          refine ⟨_, _, rfl, rfl, (by show (0 : Int) < 1000003; decide), ?_⟩
          exact ⟨_, _, _, _, _, _, rfl, Int.emod_nonneg _ (by decide), Int.emod_lt_of_pos _ (by decide), b3, ms3, hp3, by omega⟩
      · refine ⟨_, rfl, _, _, rfl, rfl, .inr ⟨by decide, by decide⟩, ?_⟩
        refine ⟨_, rfl, p, _, rfl, .inl (.inl (.inl hp2)), ?_⟩
        refine ⟨_, _, rfl, rfl, .inr ⟨by decide, by decide⟩, ?_⟩
        refine ⟨_, _, rfl, rfl, _, _, rfl, rfl, .inl ⟨_, rfl, ?_⟩⟩
        refine ⟨_, _, rfl, rfl, (by show (0 : Int) < 2147483647; decide), ?_⟩
        generalize hff : ((n * 48271 + ((ms.map V.int).length : Int) * 69621 + 11) % 2147483647 : Int) = ff
        have f0 : 0 ≤ ff := by rw [← hff]; exact Int.emod_nonneg _ (by decide)
        have f1 : ff < 2147483647 := by rw [← hff]; exact Int.emod_lt_of_pos _ (by decide)
        clear hff
        refine ⟨_, rfl, _, rfl, _, _, rfl, rfl, .inl ⟨by omega, by omega⟩, ?_⟩
        refine ⟨_, _, rfl, rfl, .inl ⟨_, rfl, ?_⟩⟩
        refine ⟨_, _, rfl, rfl, (by show (0 : Int) < 2147483629; decide), ?_⟩
        generalize hss : ((ff * ff + 5) % 2147483629 : Int) = ss
        have s0 : 0 ≤ ss := by rw [← hss]; exact Int.emod_nonneg _ (by decide)
        have s1 : ss < 2147483629 := by rw [← hss]; exact Int.emod_lt_of_pos _ (by decide)
        clear hss
        refine ⟨_, rfl, .inl ⟨rfl, _, .inl (.inl hp2)⟩, ?_⟩
        refine ⟨_, rfl, _, _, rfl, rfl, ⟨by decide, by decide⟩, .inl ⟨_, rfl, ?_⟩⟩
        refine ⟨_, _, rfl, rfl, (by show (0 : Int) < 2520; decide), ?_⟩
        refine ⟨p, _, _, rfl, rfl, hp2, sz_lt (by rw [List.length_map]; omega), ?_⟩
        generalize e4 : upd _ p _ = H4
        obtain ⟨S4, h4⟩ := mut_of e4 hp2 trivial
        clear e4
        replace h4 := app_int h4
        refine ⟨_, rfl, .inl ⟨rfl, _, .inl (.inl h4)⟩, ?_⟩
        refine ⟨_, rfl, _, _, rfl, rfl, .inr ⟨by decide, by decide⟩, ?_⟩
        refine ⟨_, rfl, _, _, rfl, rfl, .inl ⟨_, rfl, ?_⟩⟩
        refine ⟨_, _, rfl, rfl, (by show (0 : Int) < 2147483587; decide), ?_⟩
        refine ⟨_, _, rfl, rfl, (by show (0 : Int) < 2520; decide), ?_⟩
        refine ⟨p, _, _, rfl, rfl, h4, sz_lt (by rw [List.length_map, List.length_append, List.length_singleton]; omega), ?_⟩
        generalize e5 : upd _ p _ = H5
        obtain ⟨S5, h5⟩ := mut_of e5 h4 trivial
        clear e5
        refine ⟨_, rfl, _, _, rfl, rfl, .inr ⟨by decide, by decide⟩, _, rfl, _, _, rfl, rfl, .inl ⟨_, rfl, ?_⟩⟩
        refine ⟨_, _, rfl, rfl, (by show (0 : Int) < 1000003; decide), ?_⟩
        refine ⟨_, _, _, _, _, _, rfl, Int.emod_nonneg _ (by decide), Int.emod_lt_of_pos _ (by decide), (b2.trans S4).trans S5, _, app_int h5, ?_⟩
        rw [List.length_append, List.length_append]
        show ms.length + 1 + 1 ≤ _
        omega
    · rintro σ H2 ⟨t, u4, u5, u6, u7, u8, rfl, t0, t1, b2, ms, hp2, ml⟩
      rw [List.length_map] at ml
      refine ⟨_, rfl, _, rfl, by decide, by decide, ?_⟩
      refine for_range (n := 1200) (fun j σ H3 => ∃ (tt : Int) (u4 u5 u6 u7 u8 : Option V), σ = [some (.ref a), some (.int 1200), some (.ref p), some (.int tt), u4, u5, u6, u7, u8] ∧ Bt [p] H H3 ∧ ∃ ms3 : List Int, H3 p = some (.lst (ms3.map V.int)) ∧ ms3.length ≤ 4000 + j)
        ⟨t, u4, u5, u6, u7, u8, rfl, b2, ms, hp2, by omega⟩ ?_ ?_
      · rintro j σ H3 hj ⟨tt, u4, u5, u6, u7, u8, rfl, b3, ms3, hp3, ml3⟩
        refine ⟨_, rfl, _, _, rfl, rfl, .inr ⟨by decide, by decide⟩, ?_⟩
        refine ⟨_, rfl, _, _, rfl, rfl, .inr ⟨by decide, by decide⟩, ?_⟩
        refine ⟨_, _, rfl, rfl, _, _, rfl, rfl, .inl ⟨_, rfl, ?_⟩⟩
        refine ⟨_, _, rfl, rfl, (by show (0 : Int) < 2147483647; decide), ?_⟩
        refine ⟨_, rfl, .inl ⟨rfl, _, .inl (.inl hp3)⟩, ?_⟩
        refine ⟨_, rfl, _, _, rfl, rfl, ⟨by decide, by decide⟩, .inl ⟨_, rfl, ?_⟩⟩
        refine ⟨_, _, rfl, rfl, (by show (0 : Int) < 2520; decide), ?_⟩
        refine ⟨p, _, _, rfl, rfl, hp3, sz_lt (by rw [List.length_map]; omega), ?_⟩
        generalize e4 : upd _ p _ = H4
        obtain ⟨S4, h4⟩ := mut_of e4 hp3 trivial
        clear e4
        refine ⟨_, _, _, _, _, _, rfl, b3.trans S4, _, app_int h4, ?_⟩
        rw [List.length_append, List.length_singleton]
        omega
      · rintro σ H3 ⟨tt, u4, u5, u6, u7, u8, rfl, b3, ms3, hp3, ml3⟩
        refine ⟨_, rfl, _, rfl, _, rfl, p, _, rfl, .inl (.inl hp3), fun p4 n4 => ?_⟩
        have ecut : cutV (ms3.map V.int) none (some 1200) = (ms3.take 1200).map V.int := by
          unfold cutV
          rw [HT.sIx_none, show HT.sIx (ms3.map V.int).length (ms3.map V.int).length (some 1200) = min 1200 (ms3.map V.int).length from HT.sIx_nat _ _ 1200, List.drop_zero, Nat.sub_zero, List.length_map, List.map_take]
          by_cases h : ms3.length ≤ 1200
          · rw [Nat.min_eq_right h, List.take_of_length_le (by rw [List.length_map]; omega), List.take_of_length_le (by rw [List.length_map]; omega)]
          · rw [Nat.min_eq_left (by omega)]
        rw [ecut]
        generalize e4 : upd _ p4 _ = H4
        obtain ⟨S4, h4⟩ := new_of e4 n4
        clear e4
        refine ⟨_, rfl, .inl ⟨rfl, _, .inl (.inl h4)⟩, ?_⟩
        refine ⟨p4, _, rfl, rfl, h4, ?_⟩
        generalize e5 : upd _ p4 _ = H5
        obtain ⟨S5, h5⟩ := mut_of e5 h4 trivial
        clear e5
        have n4' : H p4 = none := by
          refine fresh_back b3 (fun x m => ?_) n4
          rw [List.mem_singleton.mp m, hp3]
          exact fun z => nomatch z
        refine ⟨_, rfl, q p4 H5 n4' ?_ ⟨(ms3.take 1200).reverse, by rw [h5, List.map_reverse], by rw [List.length_reverse, List.length_take]; omega⟩⟩
        have bb : Bt (p :: p4 :: []) H H5 := (b3.mono fun _ z => by simp at z; simp [z]).trans ((S4.nil).trans (S5.mono fun _ z => by simp at z; simp [z]))
        exact (bb.dropN np).dropN n4'
end
end K33

/-! K14: the law's words, ids, numbers, records -/
namespace K33
open PySem L2
theorem tj_eq (s : Str) (l : List Str) : Txt.join s l = Str.join s l := PySem.StrLaws.glued_eq_join s l
theorem cps_app (a b : Str) : (a ++ b).cps.toList = a.cps.toList ++ b.cps.toList := by
  show (a.cps ++ b.cps).toList = _
  rw [Array.toList_append]
theorem join_chars {Lc : List Nat} : ∀ {l : List Str}, (∀ a ∈ l, ∀ c ∈ a.cps.toList, c ∈ Lc) → ∀ c ∈ (Str.join (Str.ofString "") l).cps.toList, c ∈ Lc
  | [], _, c, m => by
    have : (Str.join (Str.ofString "") []).cps.toList = [] := by decide
    rw [this] at m
    cases m
  | [x], h, c, m => h x List.mem_cons_self c m
  | x :: y :: r, h, c, m => by
    have e : Str.join (Str.ofString "") (x :: y :: r) = x ++ Str.ofString "" ++ Str.join (Str.ofString "") (y :: r) := rfl
    rw [e, cps_app, cps_app, List.mem_append, List.mem_append] at m
    rcases m with (m | m) | m
    · exact h x List.mem_cons_self c m
    · have : (Str.ofString "").cps.toList = [] := by decide
      rw [this] at m
      cases m
    · exact join_chars (fun a q => h a (List.mem_cons_of_mem _ q)) c m
def one1 (c : Nat) : Str := ⟨#[c]⟩
theorem let_get {i : Nat} (h : i < 26) : ∃ c, letters.cps.toList[i]? = some c ∧ c ∈ letters.cps.toList := by
  have e : letters.cps.toList.length = 26 := by decide +kernel
  have : i < letters.cps.toList.length := by omega
  exact ⟨letters.cps.toList[i], by simp [this], List.getElem_mem _⟩
theorem let_len : letters.length ≤ sizeLine := by decide +kernel
theorem mod_nat {x m : Int} (h : 0 < m) : ∃ j : Nat, x % m = (j : Int) ∧ (j : Int) < m := by
  refine ⟨(x % m).toNat, ?_, ?_⟩
  · have := Int.emod_nonneg x (show m ≠ 0 by omega)
    omega
  · have := Int.emod_nonneg x (show m ≠ 0 by omega)
    have := Int.emod_lt_of_pos x h
    omega
section
variable {P : Program} {w : World} {K : PySem.W.Frag} {mg : Str → Option Value} {base : Heap}
/-! ### words -/
def spWord2 : Sp := fun vs H Q _ => ∃ a b z : Int, vs = [.int a, .int b, .int z] ∧ 0 ≤ a ∧ a < 2520 ∧ 0 ≤ b ∧ b < 2520 ∧ 1 ≤ z ∧ z ≤ 8 ∧ ∀ x H', Bt [] H H' → IsWord x → Q (.str x) H'
abbrev s_law_word : Stmt := top 38
theorem sc_law_word : FnScope ["_law_one", "_law_two", "_law_size", "_law_letters", "_law_cell", "_law_k"] ["_law_one", "_law_two", "_law_size"] (defScope s_law_word) := ⟨rfl, rfl, rfl, by decide +kernel, rfl, by decide +kernel, by decide +kernel⟩
theorem ok_word {f : Addr} {fd : FuncData} (F : Fun K "_law_word" "_law_word" s_law_word f fd) (T : Blt mg) : FnOk P w K mg base CX0 1 f fd ["_law_one", "_law_two", "_law_size"] spWord2 := by
  refine F.ok sc_law_word (fun vs H Q E h => ?_) (fun cdv A outer s H vs Q E hr h => ?_)
  · obtain ⟨_, _, _, rfl, _⟩ := h
    rfl
  · obtain ⟨a, b, z, rfl, a0, a1, b0, b1, z0, z1, q⟩ := h
    refine ⟨_, ((pss_cons (ps_set (i := 3) sc_law_word.nd rfl (Or.inr rfl) pe_str)
  (pss_cons (ps_set (i := 4) sc_law_word.nd rfl (Or.inr rfl) (pe_callTy call_int1 (by rfl) T.int B_int (pa_cons (pe_op op_add (pe_op op_mul (pv 0) pe_int) (pv 1)) pa_nil)))
  (pss_one (ps_ret (pe_join pe_str (pe_lc (own := [("_law_k", 5)]) (g := gName 5)  rfl sc_law_word.nd (pi_range1 (by rfl) T.range (pa_cons (pv 2) pa_nil)) (blkOk_by (own := [("_law_k", 5)]) (N := ["_law_one", "_law_two", "_law_size", "_law_letters", "_law_cell", "_law_k"]) (sc := defScope s_law_word) (by decide +kernel)) (fun _ _ _ _ _ => (pg_name (i := 5) sc_law_word.nd rfl (Or.inl rfl))) (fun _ _ _ _ _ => pts_nil) (fun _ _ _ _ _ => (pe_ix ix_str (pv 3) (pe_op op_mod (pe_callTy call_int1 (by rfl) T.int B_int (pa_cons (pe_op op_add (pe_op op_fdiv (pv 4) (pe_ix (ix_listK (K := K) rfl) (pe_lst (pa_cons pe_int (pa_cons pe_int (pa_cons pe_int (pa_cons pe_int pa_nil))))) (pe_op op_mod (pv 5) pe_int) (fun _ _ => rfl))) (pe_op op_fdiv (pe_op op_mul (pe_op op_fdiv (pv 5) pe_int) (pv 4)) pe_int)) pa_nil)) pe_int) (fun _ _ => rfl)))))))))), ?_⟩
    refine ⟨_, rfl, _, _, rfl, rfl, .inr ⟨by decide, by decide⟩, _, rfl, _, _, rfl, rfl, .inl ⟨_, rfl, ?_⟩⟩
    generalize hcc : a * 2520 + b = cc
    have c0 : 0 ≤ cc := by omega
    have c1 : cc < 7000000 := by omega
    refine ⟨⟨_, rfl⟩, _, rfl, _, rfl, by omega, by omega, fun D nD => ?_⟩
    refine lcR (walk_rngL (lo := 0) (n := z.toNat)) nD (fun _ _ => trivial) (by rw [List.length_map, List.length_range]; omega) (fun i ys => ∃ ws : List Str, ys = ws.map V.str ∧ ws.length = i ∧ ∀ x ∈ ws, ∃ c ∈ letters.cps.toList, x = one1 c) ⟨[], rfl, rfl, fun _ m => nomatch m⟩ ?_ ?_
    · intro i x H2 hx b2 N1 N2 k1 k2
      obtain ⟨hi, rfl⟩ := rng_get hx
      refine ⟨rfl, ?_⟩
      refine ⟨_, rfl, _, rfl, by show 4 ≤ sizeLine; decide, fun p5 n5 => ?_⟩
      generalize e5 : upd _ p5 _ = H5
      obtain ⟨S5, h5⟩ := new_of e5 n5
      clear e5
      refine ⟨_, rfl, _, _, rfl, rfl, (by show (0 : Int) < 4; decide), ?_⟩
      obtain ⟨j, ej, hj⟩ := mod_nat (x := (0 : Int) + (i : Nat)) (m := 4) (by decide)
      obtain ⟨dv, hd, d0, d1⟩ : ∃ dv : Int, ([V.int 1, V.int 26, V.int 676, V.int 17576] : List V)[j]? = some (.int dv) ∧ 0 < dv ∧ dv < 20000 := by
        have : j = 0 ∨ j = 1 ∨ j = 2 ∨ j = 3 := by omega
        rcases this with e | e | e | e <;> subst e
        · exact ⟨1, rfl, by decide, by decide⟩
        · exact ⟨26, rfl, by decide, by decide⟩
        · exact ⟨676, rfl, by decide, by decide⟩
        · exact ⟨17576, rfl, by decide, by decide⟩
      refine ⟨p5, _, _, _, rfl, rfl, .inl (.inl h5), (by rw [ej]; exact atI_nat hd), ?_⟩
      refine ⟨_, _, rfl, rfl, ⟨d0, by omega⟩, ?_⟩
      refine ⟨_, rfl, _, _, rfl, rfl, ⟨by decide, by decide⟩, ?_⟩
      refine ⟨_, rfl, _, _, rfl, rfl, .inr ⟨by omega, by omega⟩, ?_⟩
      refine ⟨_, _, rfl, rfl, ⟨by decide, by decide⟩, ?_⟩
      refine ⟨_, _, rfl, rfl, .inl ⟨_, rfl, ?_⟩⟩
      refine ⟨_, _, rfl, rfl, (by show (0 : Int) < 26; decide), ?_⟩
      obtain ⟨m, em, hm⟩ := mod_nat (x := cc / dv + ((0 : Int) + (i : Nat)) / 4 * cc / 7) (m := 26) (by decide)
      obtain ⟨c, hc, hcm⟩ := let_get (i := m) (by omega)
      refine ⟨letters, _, c, rfl, rfl, let_len, (by rw [em]; exact atI_nat hc), ?_⟩
      refine k1 _ H5 S5 ?_
      rintro ys ⟨ws, rfl, hl, hw⟩
      refine ⟨ws ++ [one1 c], by rw [List.map_append]; rfl, by rw [List.length_append, List.length_singleton, hl], fun x m => ?_⟩
      rcases List.mem_append.mp m with m | m
      · exact hw x m
      · exact ⟨c, hcm, List.mem_singleton.mp m⟩
    · rintro H2 ys b2 hD ⟨ws, rfl, hl, hw⟩ hz
      clear hz
      rw [List.length_map, List.length_range] at hl
      have hone : ∀ a ∈ ws, a.length = 1 := fun a m => by
        obtain ⟨c, _, e⟩ := hw a m
        rw [e]
        rfl
      have hsum : (ws.map (·.length)).sum = ws.length := by
        clear hl hw hD
        induction ws with
        | nil => rfl
        | cons x r ih =>
          rw [List.map_cons, List.sum_cons, hone x List.mem_cons_self, ih fun a m => hone a (List.mem_cons_of_mem _ m), List.length_cons]
          omega
      refine ⟨_, D, ws, rfl, rfl, .inl (.inl (.inl hD)), ?_, ?_⟩
      · rw [hsum, hl]
        have : (Str.ofString "").length = 0 := by decide
        rw [this]
        omega
      · have hlen : (Txt.join (Str.ofString "") ws).length = ws.length := PySem.W.KT.join_ones ws hone
        refine q _ H2 b2 ⟨?_, ?_, ?_⟩
        · rw [hlen, hl]; omega
        · rw [hlen, hl]; omega
        · rw [tj_eq]
          refine join_chars fun a m c mc => ?_
          obtain ⟨c', hc', e⟩ := hw a m
          rw [e] at mc
          have : c = c' := by simpa [one1] using mc
          rw [this]
          exact hc'
/-! ### ids -/
def grpOf (s : Int) : Int := 1 + (s / 5) % 10
def mulOf (s : Int) : Int := if s % 5 = 0 then 1 else if s % 5 = 1 then 2 else if s % 5 = 2 then 5 else if s % 5 = 3 then 100 else 998
def idOf (s k : Int) : List Key := [.inl ((s + k) % 10), .inl (1 + (k / grpOf s * mulOf s + s) % 999)]
theorem idOf_ok (s k : Int) : IdOk (idOf s k) := ⟨⟨_, _, rfl, Int.emod_nonneg _ (by decide), by have := Int.emod_lt_of_pos (s + k) (show (0 : Int) < 10 by decide); omega, by have := Int.emod_nonneg (k / grpOf s * mulOf s + s) (show (999 : Int) ≠ 0 by decide); omega,
  by have := Int.emod_lt_of_pos (k / grpOf s * mulOf s + s) (show (0 : Int) < 999 by decide); omega⟩⟩
theorem id_fin : ((List.range 10).all fun g => [1, 2, 5, 100, 998].all fun m => (List.range 31).all fun k => (List.range 31).all fun j => !(decide (k < j) && decide (k % 10 = j % 10) && decide ((k / (g + 1) * m) % 999 = (j / (g + 1) * m) % 999))) = true := by decide +kernel
theorem id_inj {s : Int} {k j : Nat} (s0 : 0 ≤ s) (hk : k < 31) (hj : j < 31) (h : idOf s k = idOf s j) : k = j := by
  have key : ∀ {k j : Nat}, k < 31 → j < 31 → k < j → idOf s k ≠ idOf s j := by
    intro k j hk hj hlt h
    unfold idOf at h
    injection h with h1 h2
    injection h2 with h2 _
    have h1 := Sum.inl.inj h1
    have h2 := Sum.inl.inj h2
    obtain ⟨g, eg, hg⟩ := mod_nat (x := s / 5) (m := 10) (by decide)
    have egr : grpOf s = ((g + 1 : Nat) : Int) := by
      unfold grpOf
      rw [eg]
      omega
    obtain ⟨m, hm, em⟩ : ∃ m : Nat, m ∈ [1, 2, 5, 100, 998] ∧ mulOf s = (m : Int) := by
      unfold mulOf
      split
      · exact ⟨1, by decide, rfl⟩
      · split
        · exact ⟨2, by decide, rfl⟩
        · split
          · exact ⟨5, by decide, rfl⟩
          · split
            · exact ⟨100, by decide, rfl⟩
            · exact ⟨998, by decide, rfl⟩
    rw [egr, em] at h2
    have a1 : (k : Int) / ((g + 1 : Nat) : Int) * (m : Int) = ((k / (g + 1) * m : Nat) : Int) := by
      rw [Int.natCast_mul, Int.natCast_ediv]
    have a2 : (j : Int) / ((g + 1 : Nat) : Int) * (m : Int) = ((j / (g + 1) * m : Nat) : Int) := by
      rw [Int.natCast_mul, Int.natCast_ediv]
    rw [a1, a2] at h2
    have f := id_fin
    rw [List.all_eq_true] at f
    have f := f g (List.mem_range.mpr (by omega))
    rw [List.all_eq_true] at f
    have f := f m hm
    rw [List.all_eq_true] at f
    have f := f k (List.mem_range.mpr hk)
    rw [List.all_eq_true] at f
    have f := f j (List.mem_range.mpr hj)
    generalize k / (g + 1) * m = X at *
    generalize j / (g + 1) * m = Y at *
    have b1 : decide (k < j) = true := decide_eq_true hlt
    have b2 : decide (k % 10 = j % 10) = true := decide_eq_true (by omega)
    have b3 : decide (X % 999 = Y % 999) = true := decide_eq_true (by omega)
    rw [b1, b2, b3] at f
    cases f
  rcases Nat.lt_trichotomy k j with l | l | l
  · exact absurd h (key hk hj l)
  · exact l
  · exact absurd h.symm (key hj hk l)
def spId : Sp := fun vs H Q _ => ∃ s k : Int, vs = [.int s, .int k] ∧ 0 ≤ s ∧ s < 2520 ∧ 0 ≤ k ∧ k < 31 ∧ ∀ p H', H p = none → Bt [] H H' → H' p = some (.tup ((idOf s k).map kV)) → Q (.ref p) H'
abbrev s_law_id : Stmt := top 39
theorem sc_law_id : FnScope ["_law_step", "_law_k", "_law_group", "_law_number"] ["_law_step", "_law_k"] (defScope s_law_id) := ⟨rfl, rfl, rfl, by decide +kernel, rfl, by decide +kernel, by decide +kernel⟩
theorem ok_id {f : Addr} {fd : FuncData} (F : Fun K "_law_id" "_law_id" s_law_id f fd) (T : Blt mg) : FnOk P w K mg base CX0 1 f fd ["_law_step", "_law_k"] spId := by
  refine F.ok sc_law_id (fun vs H Q E h => ?_) (fun cdv A outer s H vs Q E hr h => ?_)
  · obtain ⟨_, _, rfl, _⟩ := h
    rfl
  · obtain ⟨s, k, rfl, s0, s1, k0, k1, q⟩ := h
    have g0 : 0 < grpOf s := by unfold grpOf; have := Int.emod_nonneg (s / 5) (show (10 : Int) ≠ 0 by decide); omega
    have g1 : grpOf s ≤ 10 := by unfold grpOf; have := Int.emod_lt_of_pos (s / 5) (show (0 : Int) < 10 by decide); omega
    refine ⟨_, ((pss_cons (ps_set (i := 2) sc_law_id.nd rfl (Or.inl rfl) (pe_op op_add pe_int (pe_op op_mod (pe_callTy call_int1 (by rfl) T.int B_int (pa_cons (pe_op op_fdiv (pv 0) pe_int) pa_nil)) pe_int)))
  (pss_cons (ps_set (i := 3) sc_law_id.nd rfl (Or.inl rfl) (pe_op op_add (pe_op op_mul (pe_callTy call_int1 (by rfl) T.int B_int (pa_cons (pe_op op_fdiv (pv 1) (pv 2)) pa_nil)) (pe_ix (ix_listK (K := K) rfl) (pe_lst (pa_cons pe_int (pa_cons pe_int (pa_cons pe_int (pa_cons pe_int (pa_cons pe_int pa_nil)))))) (pe_op op_mod (pe_callTy call_int1 (by rfl) T.int B_int (pa_cons (pv 0) pa_nil)) pe_int) (fun _ _ => rfl))) (pv 0)))
  (pss_one (ps_ret (pe_tup (pa_cons (pe_op op_mod (pe_callTy call_int1 (by rfl) T.int B_int (pa_cons (pe_op op_add (pv 0) (pv 1)) pa_nil)) pe_int) (pa_cons (pe_op op_add pe_int (pe_op op_mod (pe_callTy call_int1 (by rfl) T.int B_int (pa_cons (pv 3) pa_nil)) pe_int)) pa_nil)))))))), ?_⟩
    refine ⟨_, rfl, _, _, rfl, rfl, ⟨by decide, by decide⟩, .inl ⟨_, rfl, ?_⟩⟩
    refine ⟨_, _, rfl, rfl, (by show (0 : Int) < 10; decide), _, _, rfl, rfl, ?_⟩
    show _
    refine ⟨_, rfl, _, rfl, _, _, rfl, rfl, ⟨g0, by show grpOf s < _; omega⟩, .inl ⟨_, rfl, ?_⟩⟩
    refine ⟨by show 5 ≤ sizeLine; decide, fun p5 n5 => ?_⟩
    generalize e5 : upd _ p5 _ = H5
    obtain ⟨S5, h5⟩ := new_of e5 n5
    clear e5
    refine ⟨_, rfl, .inl ⟨_, rfl, ?_⟩⟩
    refine ⟨_, _, rfl, rfl, (by show (0 : Int) < 5; decide), ?_⟩
    obtain ⟨j, ej, hj⟩ := mod_nat (x := s) (m := 5) (by decide)
    have hd : ([V.int 1, V.int 2, V.int 5, V.int 100, V.int 998] : List V)[j]? = some (.int (mulOf s)) := by
      unfold mulOf
      rw [ej]
      have : j = 0 ∨ j = 1 ∨ j = 2 ∨ j = 3 ∨ j = 4 := by omega
      rcases this with e | e | e | e | e <;> subst e <;> rfl
    have m0 : 0 ≤ mulOf s ∧ mulOf s < 1000 := by
      unfold mulOf
      split
      · decide
      · split
        · decide
        · split
          · decide
          · split <;> decide
    refine ⟨p5, _, _, _, rfl, rfl, .inl (.inl h5), (by rw [ej]; exact atI_nat hd), ?_⟩
    refine ⟨_, _, rfl, rfl, .inr ⟨by omega, by omega⟩, ?_⟩
    refine ⟨_, rfl, _, _, rfl, rfl, ?_⟩
    refine ⟨_, rfl, _, rfl, _, _, rfl, rfl, .inl ⟨_, rfl, ?_⟩⟩
    refine ⟨_, _, rfl, rfl, (by show (0 : Int) < 10; decide), ?_⟩
    refine ⟨_, rfl, .inl ⟨_, rfl, ?_⟩⟩
    refine ⟨_, _, rfl, rfl, (by show (0 : Int) < 999; decide), _, _, rfl, rfl, ?_⟩
    refine ⟨by show 2 ≤ sizeLine; decide, fun p6 n6 => ?_⟩
    generalize e6 : upd _ p6 _ = H6
    obtain ⟨S6, h6⟩ := new_of e6 n6
    clear e6
    exact q p6 H6 (fresh_back S5 (fun _ m => nomatch m) n6) (S5.trans S6) h6
/-! ### numbers -/
def spLarge : Sp := fun vs H Q _ => ∃ (p : Addr) (m : Int), vs = [.ref p, .int m] ∧ PoolAt H p ∧ 0 ≤ m ∧ ∀ d H', 0 ≤ d → Bt [p] H H' → PoolAt H' p → Q (.int d) H'
abbrev s_law_large : Stmt := top 40
theorem sc_law_large : FnScope ["_law_pool_here", "_law_most", "_law_one", "_law_two", "_law_three"] ["_law_pool_here", "_law_most"] (defScope s_law_large) := ⟨rfl, rfl, rfl, by decide +kernel, rfl, by decide +kernel, by decide +kernel⟩
theorem ok_large {f : Addr} {fd : FuncData} (F : Fun K "_law_large" "_law_large" s_law_large f fd) (T : Blt mg) (C_law_draw : Cal P w K mg base "_law_draw" 1 spDraw) : FnOk P w K mg base CX0 2 f fd ["_law_pool_here", "_law_most"] spLarge := by
  refine F.ok sc_law_large (fun vs H Q E h => ?_) (fun cdv A outer s H vs Q E hr h => ?_)
  · obtain ⟨_, _, rfl, _⟩ := h
    rfl
  · obtain ⟨p, m, rfl, hp, m0, q⟩ := h
    refine ⟨_, ((pss_cons (ps_set (i := 2) sc_law_large.nd rfl (Or.inl rfl) (pe_cc C_law_draw hr (by decide) (by rfl) (pa_cons (pv 0) (pa_cons pe_int pa_nil))))
  (pss_cons (ps_set (i := 3) sc_law_large.nd rfl (Or.inl rfl) (pe_callTy call_int1 (by rfl) T.int B_int (pa_cons (pe_op op_add (pe_op op_mul (pv 2) pe_int) (pe_cc C_law_draw hr (by decide) (by rfl) (pa_cons (pv 0) (pa_cons pe_int pa_nil)))) pa_nil)))
  (pss_cons (ps_set (i := 4) sc_law_large.nd rfl (Or.inl rfl) (pe_callTy call_int1 (by rfl) T.int B_int (pa_cons (pe_op op_add (pe_op op_mul (pv 3) pe_int) (pe_cc C_law_draw hr (by decide) (by rfl) (pa_cons (pv 0) (pa_cons pe_int pa_nil)))) pa_nil)))
  (pss_one (ps_ret (pe_ix (ix_listK (K := K) rfl) (pe_lst (pa_cons (pe_op op_mod (pe_callTy call_int1 (by rfl) T.int B_int (pa_cons (pv 2) pa_nil)) pe_int) (pa_cons (pe_op op_mod (pe_callTy call_int1 (by rfl) T.int B_int (pa_cons (pv 2) pa_nil)) pe_int) (pa_cons (pe_op op_mod (pe_callTy call_int1 (by rfl) T.int B_int (pa_cons (pv 3) pa_nil)) (pe_op op_add (pv 1) pe_int)) (pa_cons (pe_op op_mod (pe_callTy call_int1 (by rfl) T.int B_int (pa_cons (pv 4) pa_nil)) (pe_op op_add (pv 1) pe_int)) pa_nil))))) (pe_op op_mod (pe_callTy call_int1 (by rfl) T.int B_int (pa_cons (pv 4) pa_nil)) pe_int) (fun _ _ => rfl)))))))), ?_⟩
    refine ⟨_, rfl, p, 2520, rfl, hp, by decide, fun d1 H1 d10 d11 b1 hp1 => ?_⟩
    refine ⟨_, rfl, _, _, rfl, rfl, .inr ⟨by decide, by decide⟩, ?_⟩
    refine ⟨_, rfl, p, 2520, rfl, hp1, by decide, fun d2 H2 d20 d21 b2 hp2 => ?_⟩
    refine ⟨_, _, rfl, rfl, .inl ⟨_, rfl, ?_⟩⟩
    refine ⟨_, rfl, _, _, rfl, rfl, .inr ⟨by decide, by decide⟩, ?_⟩
    refine ⟨_, rfl, p, 2520, rfl, hp2, by decide, fun d3 H3 d30 d31 b3 hp3 => ?_⟩
    refine ⟨_, _, rfl, rfl, .inl ⟨_, rfl, ?_⟩⟩
    generalize d1 * 2520 + d2 = t2
    generalize t2 * 2520 + d3 = t3
    refine ⟨_, rfl, .inl ⟨_, rfl, ?_⟩⟩
    refine ⟨_, _, rfl, rfl, (by show (0 : Int) < 4; decide), ?_⟩
    refine ⟨_, rfl, .inl ⟨_, rfl, ?_⟩⟩
    refine ⟨_, _, rfl, rfl, (by show (0 : Int) < 30; decide), ?_⟩
    refine ⟨_, rfl, .inl ⟨_, rfl, ?_⟩⟩
    refine ⟨_, rfl, _, _, rfl, rfl, ?_⟩
    refine ⟨_, _, rfl, rfl, (by show (0 : Int) < m + 1; omega), ?_⟩
    refine ⟨_, rfl, .inl ⟨_, rfl, ?_⟩⟩
    refine ⟨_, rfl, _, _, rfl, rfl, ?_⟩
    refine ⟨_, _, rfl, rfl, (by show (0 : Int) < m + 1; omega), ?_⟩
    refine ⟨by show 4 ≤ sizeLine; decide, fun p5 n5 => ?_⟩
    generalize e5 : upd _ p5 _ = H5
    obtain ⟨S5, h5⟩ := new_of e5 n5
    clear e5
    refine ⟨_, rfl, .inl ⟨_, rfl, ?_⟩⟩
    refine ⟨_, _, rfl, rfl, (by show (0 : Int) < 4; decide), ?_⟩
    obtain ⟨j, ej, hj⟩ := mod_nat (x := t3) (m := 4) (by decide)
    obtain ⟨dv, hd, d0⟩ : ∃ dv : Int, ([V.int (d1 % 4), V.int (d1 % 30), V.int (t2 % (m + 1)), V.int (t3 % (m + 1))] : List V)[j]? = some (.int dv) ∧ 0 ≤ dv := by
      have : j = 0 ∨ j = 1 ∨ j = 2 ∨ j = 3 := by omega
      rcases this with e | e | e | e <;> subst e
      · exact ⟨_, rfl, Int.emod_nonneg _ (by decide)⟩
      · exact ⟨_, rfl, Int.emod_nonneg _ (by decide)⟩
      · exact ⟨_, rfl, Int.emod_nonneg _ (by omega)⟩
      · exact ⟨_, rfl, Int.emod_nonneg _ (by omega)⟩
    refine ⟨p5, _, _, _, rfl, rfl, .inl (.inl h5), (by rw [ej]; exact atI_nat hd), ?_⟩
    refine q dv H5 d0 (((b1.trans b2).trans b3).trans S5.nil) (hp3.bt S5 (fun z => nomatch z))
end
end K33

/-! K15: the law's records, another word -/
namespace K33
open PySem L2
section
variable {P : Program} {w : World} {K : PySem.W.Frag} {mg : Str → Option Value} {base : Heap}
theorem two_of {j : Int} {a b : V} (h : j = 0 ∨ j = 1) : ∃ v, atI [a, b] j = some v ∧ (v = a ∨ v = b) := by
  rcases h with e | e <;> subst e
  · exact ⟨a, rfl, .inl rfl⟩
  · exact ⟨b, rfl, .inr rfl⟩
theorem three_of {j : Int} {a b c : V} (h0 : 0 ≤ j) (h : j < 3) : ∃ v, atI [a, b, c] j = some v ∧ (v = a ∨ v = b ∨ v = c) := by
  have : j = 0 ∨ j = 1 ∨ j = 2 := by omega
  rcases this with e | e | e <;> subst e
  · exact ⟨a, rfl, .inl rfl⟩
  · exact ⟨b, rfl, .inr (.inl rfl)⟩
  · exact ⟨c, rfl, .inr (.inr rfl)⟩
theorem four_of {j : Int} {a b c d : V} (h0 : 0 ≤ j) (h : j < 4) : ∃ v, atI [a, b, c, d] j = some v ∧ (v = a ∨ v = b ∨ v = c ∨ v = d) := by
  have : j = 0 ∨ j = 1 ∨ j = 2 ∨ j = 3 := by omega
  rcases this with e | e | e | e <;> subst e
  · exact ⟨a, rfl, .inl rfl⟩
  · exact ⟨b, rfl, .inr (.inl rfl)⟩
  · exact ⟨c, rfl, .inr (.inr (.inl rfl))⟩
  · exact ⟨d, rfl, .inr (.inr (.inr rfl))⟩
theorem m01 (x : Int) : x % 2 = 0 ∨ x % 2 = 1 := by omega
theorem emn (x : Int) {m : Int} (h : 0 < m) : 0 ≤ x % m := Int.emod_nonneg _ (by omega)
theorem eml (x : Int) {m : Int} (h : 0 < m) : x % m < m := Int.emod_lt_of_pos _ h
def spRecord : Sp := fun vs H Q _ => ∃ (p k : Addr) (h : Int) (n : Nm) (r : List Key), vs = [.ref p, .ref k] ∧ PoolAt H p ∧ H k = some (.tup ((Sum.inl h :: Sum.inr n.s :: r : List Key).map kV)) ∧ n.isRec = true ∧
  ∀ v d H', Bt [p] H H' → PoolAt H' p → Td H' v d → d.depth ≤ 8 → Q v H'
theorem dep0i (i : Int) : (PyData.int i).depth ≤ 8 := by simp [PyData.depth]
abbrev s_law_record : Stmt := top 41
theorem sc_law_record : FnScope ["_law_pool_here", "_law_key", "_law_one", "_law_two", "_law_coins", "_law_word_here", "_law_count", "_law_more", "_law_state", "_law_back", "_law_parts", "_law_value"] ["_law_pool_here", "_law_key"] (defScope s_law_record) := ⟨rfl, rfl, rfl, by decide +kernel, rfl, by decide +kernel, by decide +kernel⟩
theorem ok_record {f : Addr} {fd : FuncData} (F : Fun K "_law_record" "_law_record" s_law_record f fd) (T : Blt mg) (C_law_draw : Cal P w K mg base "_law_draw" 1 spDraw) (C_law_word : Cal P w K mg base "_law_word" 1 spWord2) : FnOk P w K mg base CX0 2 f fd ["_law_pool_here", "_law_key"] spRecord := by
  refine F.ok sc_law_record (fun vs H Q E h => ?_) (fun cdv A outer s H vs Q E hr h => ?_)
  · obtain ⟨_, _, _, _, _, rfl, _⟩ := h
    rfl
  · obtain ⟨p, k, h, n, r, rfl, hp, hk, hn, q⟩ := h
    refine ⟨_, ((pss_cons (ps_set (i := 2) sc_law_record.nd rfl (Or.inl rfl) (pe_cc C_law_draw hr (by decide) (by rfl) (pa_cons (pv 0) (pa_cons pe_int pa_nil))))
  (pss_cons (ps_set (i := 3) sc_law_record.nd rfl (Or.inl rfl) (pe_cc C_law_draw hr (by decide) (by rfl) (pa_cons (pv 0) (pa_cons pe_int pa_nil))))
  (pss_cons (ps_set (i := 4) sc_law_record.nd rfl (Or.inl rfl) (pe_ix (ix_listK (K := K) rfl) (pe_lst (pa_cons pe_int (pa_cons pe_int (pa_cons pe_int (pa_cons (pe_op op_mod (pe_callTy call_int1 (by rfl) T.int B_int (pa_cons (pe_op op_add (pe_op op_mul (pv 2) pe_int) (pv 3)) pa_nil)) pe_int) pa_nil))))) (pe_op op_mod (pe_callTy call_int1 (by rfl) T.int B_int (pa_cons (pe_op op_fdiv (pv 2) pe_int) pa_nil)) pe_int) (fun _ _ => rfl)))
  (pss_cons (ps_set (i := 5) sc_law_record.nd rfl (Or.inl rfl) (pe_cc C_law_word hr (by decide) (by rfl) (pa_cons (pv 3) (pa_cons (pv 2) (pa_cons (pe_op op_add pe_int (pe_op op_mod (pe_callTy call_int1 (by rfl) T.int B_int (pa_cons (pv 2) pa_nil)) pe_int)) pa_nil)))))
  (pss_cons (ps_if (pt_cmpR op_eq (pe_ix (ix_tupK (K := K) rfl) (pv 1) pe_int (fun _ _ => rfl)) pe_str (nomark _)) (pss_one (ps_ret (pv 4))) pss_nil)
  (pss_cons (ps_if (pt_cmpR op_eq (pe_ix (ix_tupK (K := K) rfl) (pv 1) pe_int (fun _ _ => rfl)) pe_str (nomark _)) (pss_one (ps_ret (pe_ix (ix_listK (K := K) rfl) (pe_lst (pa_cons pe_int (pa_cons pe_int (pa_cons (pe_op op_mod (pe_callTy call_int1 (by rfl) T.int B_int (pa_cons (pe_op op_add (pe_op op_mul (pv 2) pe_int) (pv 3)) pa_nil)) pe_int) pa_nil)))) (pe_op op_mod (pe_callTy call_int1 (by rfl) T.int B_int (pa_cons (pe_op op_fdiv (pv 2) pe_int) pa_nil)) pe_int) (fun _ _ => rfl)))) pss_nil)
  (pss_cons (ps_if (pt_cmpR op_eq (pe_ix (ix_tupK (K := K) rfl) (pv 1) pe_int (fun _ _ => rfl)) pe_str (nomark _)) (pss_one (ps_ret (pe_ix (ix_listK (K := K) rfl) (pe_lst (pa_cons (pe_tup (pa_cons pe_str (pa_cons (pv 4) pa_nil))) (pa_cons (pe_tup (pa_cons pe_str (pa_cons (pe_op op_add pe_int (pe_op op_mod (pe_callTy call_int1 (by rfl) T.int B_int (pa_cons (pv 2) pa_nil)) pe_int)) (pa_cons (pe_op op_add pe_int (pe_op op_mod (pe_callTy call_int1 (by rfl) T.int B_int (pa_cons (pv 3) pa_nil)) pe_int)) pa_nil)))) pa_nil))) (pe_op op_mod (pe_callTy call_int1 (by rfl) T.int B_int (pa_cons (pe_op op_fdiv (pv 2) pe_int) pa_nil)) pe_int) (fun _ _ => rfl)))) pss_nil)
  (pss_cons (ps_if (pt_cmpR op_eq (pe_ix (ix_tupK (K := K) rfl) (pv 1) pe_int (fun _ _ => rfl)) pe_str (nomark _)) (pss_one (ps_ret (pe_ix (ix_listK (K := K) rfl) (pe_lst (pa_cons (pe_tup (pa_cons (pv 5) (pa_cons (pe_op op_add pe_int (pe_op op_mod (pe_callTy call_int1 (by rfl) T.int B_int (pa_cons (pv 3) pa_nil)) pe_int)) pa_nil))) (pa_cons pe_non pa_nil))) (pe_op op_mod (pe_callTy call_int1 (by rfl) T.int B_int (pa_cons (pe_op op_fdiv (pv 2) pe_int) pa_nil)) pe_int) (fun _ _ => rfl)))) pss_nil)
  (pss_cons (ps_set (i := 6) sc_law_record.nd rfl (Or.inl rfl) (pe_op op_add pe_int (pe_op op_mod (pe_callTy call_int1 (by rfl) T.int B_int (pa_cons (pv 3) pa_nil)) pe_int)))
  (pss_cons (ps_set (i := 7) sc_law_record.nd rfl (Or.inl rfl) (pe_ix (ix_listK (K := K) rfl) (pe_lst (pa_cons pe_int (pa_cons (pe_op op_add pe_int (pe_op op_mod (pe_callTy call_int1 (by rfl) T.int B_int (pa_cons (pv 2) pa_nil)) pe_int)) pa_nil))) (pe_op op_mod (pe_callTy call_int1 (by rfl) T.int B_int (pa_cons (pe_op op_fdiv (pv 3) pe_int) pa_nil)) pe_int) (fun _ _ => rfl)))
  (pss_cons (ps_set (i := 8) sc_law_record.nd rfl (Or.inl rfl) (pe_op op_mod (pe_callTy call_int1 (by rfl) T.int B_int (pa_cons (pe_op op_fdiv (pv 2) pe_int) pa_nil)) pe_int))
  (pss_cons (ps_set (i := 9) sc_law_record.nd rfl (Or.inl rfl) (pe_ix (ix_listK (K := K) rfl) (pe_lst (pa_cons pe_int (pa_cons (pe_op op_mod (pe_callTy call_int1 (by rfl) T.int B_int (pa_cons (pv 2) pa_nil)) (pe_op op_add (pv 6) pe_int)) (pa_cons pe_int pa_nil)))) (pv 8) (fun _ _ => rfl)))
  (pss_cons (ps_set (i := 10) sc_law_record.nd rfl (Or.inl rfl) (pe_tup (pa_cons (pe_tup (pa_cons (pe_op op_add pe_int (pe_op op_mod (pe_callTy call_int1 (by rfl) T.int B_int (pa_cons (pv 2) pa_nil)) pe_int)) (pa_cons (pv 5) (pa_cons (pv 6) (pa_cons (pv 4) (pa_cons (pe_ix (ix_listK (K := K) rfl) (pe_lst (pa_cons pe_str (pa_cons pe_str (pa_cons pe_str pa_nil)))) (pv 8) (fun _ _ => rfl)) (pa_cons (pv 9) pa_nil))))))) pa_nil)))
  (pss_cons (ps_if (pt_cmpR op_gt (pv 7) pe_int (nomark _)) (pss_one (ps_set (i := 10) sc_law_record.nd rfl (Or.inl rfl) (pe_op op_catA (pv 10) (pe_tup (pa_cons (pe_tup (pa_cons pe_int (pa_cons (pv 5) (pa_cons (pv 7) (pa_cons (pv 4) (pa_cons pe_str (pa_cons pe_int pa_nil))))))) pa_nil))))) pss_nil)
  (pss_cons (ps_set (i := 11) sc_law_record.nd rfl (Or.inl rfl) (pe_op op_mul (pe_op op_add (pv 6) (pv 7)) (pv 4)))
  (pss_one (ps_ret (pe_tup (pa_cons (pv 10) (pa_cons (pv 11) (pa_cons (pv 11) (pa_cons (pe_ix (ix_listK (K := K) rfl) (pe_lst (pa_cons pe_int (pa_cons (pe_op op_mul (pv 6) (pv 4)) (pa_cons pe_int pa_nil)))) (pv 8) (fun _ _ => rfl)) (pa_cons (pe_op op_mul (pv 9) (pv 4)) pa_nil)))))))))))))))))))))))), ?_⟩
    refine ⟨_, rfl, p, 2520, rfl, hp, by decide, fun d1 H1 d10 d11 b1 hp1 => ?_⟩
    refine ⟨_, rfl, p, 2520, rfl, hp1, by decide, fun d2 H2 d20 d21 b2 hp2 => ?_⟩
    have b02 := b1.trans b2
    refine ⟨_, rfl, _, _, rfl, rfl, .inr ⟨by decide, by decide⟩, _, rfl, _, _, rfl, rfl, .inl ⟨_, rfl, ?_⟩⟩
    refine ⟨_, _, rfl, rfl, (by show (0 : Int) < 100000; decide), ?_⟩
    refine ⟨by show 4 ≤ sizeLine; decide, fun p3 n3 => ?_⟩
    generalize e3 : upd _ p3 _ = H3
    obtain ⟨S3, h3⟩ := new_of e3 n3
    clear e3
    refine ⟨_, rfl, _, _, rfl, rfl, ⟨by decide, by decide⟩, .inl ⟨_, rfl, ?_⟩⟩
    refine ⟨_, _, rfl, rfl, (by show (0 : Int) < 4; decide), ?_⟩
    obtain ⟨v, hv, ev⟩ := four_of (a := .int 0) (b := .int 1) (c := .int 99999) (d := .int ((d1 * 2520 + d2) % 100000)) (emn (d1 / 3) (show (0 : Int) < 4 by decide)) (eml (d1 / 3) (show (0 : Int) < 4 by decide))
    obtain ⟨co, rfl⟩ : ∃ co : Int, v = .int co := by
      rcases ev with e | e | e | e <;> exact ⟨_, e⟩
    clear ev
    refine ⟨p3, _, _, _, rfl, rfl, .inl (.inl h3), hv, ?_⟩
    clear hv
    -- the word
    refine ⟨_, rfl, _, rfl, _, rfl, .inl ⟨_, rfl, ?_⟩⟩
    refine ⟨_, _, rfl, rfl, (by show (0 : Int) < 8; decide), _, _, rfl, rfl, ?_⟩
    have w0 := emn d1 (show (0 : Int) < 8 by decide)
    have w1 := eml d1 (show (0 : Int) < 8 by decide)
    refine ⟨_, _, _, rfl, d20, d21, d10, d11, by omega, by omega, fun x H4 b4 hx => ?_⟩
    have hxo := hx.ok
    have b24 := S3.trans b4
    have b04 : Bt [p] H H4 := b02.trans b24.nil
    have hp4 := hp2.bt b24 (fun z => nomatch z)
    have hk4 := b04.tup _ _ hk
    have hq : SqT K H4 k ((Sum.inl h :: Sum.inr n.s :: r : List Key).map kV) := .inl (.inl hk4)
    have em9 := emn d1 (show (0 : Int) < 9 by decide)
    clear b1 b2 b02 b4 b24 S3 hp hp1 hp2 h3 n3 hk
    refine ⟨_, rfl, k, _, _, _, rfl, rfl, hq, atI_nat (j := 1) rfl, ?_⟩
    refine ⟨rfl, _, rfl, ?_⟩
    refine iteD2 (fun z => ?_) (fun z => ?_)
    · exact ⟨_, rfl, q _ _ H4 b04 hp4 (.int co) (dep0i _)⟩
    refine ⟨_, rfl, k, _, _, _, rfl, rfl, hq, atI_nat (j := 1) rfl, ?_⟩
    refine ⟨rfl, _, rfl, ?_⟩
    refine iteD2 (fun z => ?_) (fun z => ?_)
    · refine ⟨_, rfl, _, _, rfl, rfl, .inr ⟨by decide, by decide⟩, _, rfl, _, _, rfl, rfl, .inl ⟨_, rfl, ?_⟩⟩
      refine ⟨_, _, rfl, rfl, (by show (0 : Int) < 1000; decide), ?_⟩
      refine ⟨by show 3 ≤ sizeLine; decide, fun p5 n5 => ?_⟩
      generalize e5 : upd _ p5 _ = H5
      obtain ⟨S5, h5⟩ := new_of e5 n5
      clear e5
      refine ⟨_, rfl, _, _, rfl, rfl, ⟨by decide, by decide⟩, .inl ⟨_, rfl, ?_⟩⟩
      refine ⟨_, _, rfl, rfl, (by show (0 : Int) < 3; decide), ?_⟩
      obtain ⟨v, hv, ev⟩ := three_of (a := .int 0) (b := .int 999) (c := .int ((d1 * 3 + d2) % 1000)) (emn (d1 / 4) (show (0 : Int) < 3 by decide)) (eml (d1 / 4) (show (0 : Int) < 3 by decide))
      obtain ⟨ra, rfl⟩ : ∃ ra : Int, v = .int ra := by
        rcases ev with e | e | e <;> exact ⟨_, e⟩
      refine ⟨p5, _, _, _, rfl, rfl, .inl (.inl h5), hv, ?_⟩
      exact q _ _ H5 (b04.trans S5.nil) (hp4.bt S5 (fun z => nomatch z)) (.int ra) (dep0i _)
    refine ⟨_, rfl, k, _, _, _, rfl, rfl, hq, atI_nat (j := 1) rfl, ?_⟩
    refine ⟨rfl, _, rfl, ?_⟩
    refine iteD2 (fun z => ?_) (fun z => ?_)
    · refine ⟨_, rfl, by show 2 ≤ sizeLine; decide, fun p5 n5 => ?_⟩
      generalize e5 : upd _ p5 _ = H5
      obtain ⟨S5, h5⟩ := new_of e5 n5
      clear e5
      refine ⟨_, rfl, .inl ⟨_, rfl, ?_⟩⟩
      refine ⟨_, _, rfl, rfl, (by show (0 : Int) < 9; decide), _, _, rfl, rfl, ?_⟩
      refine ⟨_, rfl, .inl ⟨_, rfl, ?_⟩⟩
      refine ⟨_, _, rfl, rfl, (by show (0 : Int) < 999; decide), _, _, rfl, rfl, ?_⟩
      refine ⟨by show 3 ≤ sizeLine; decide, fun p6 n6 => ?_⟩
      generalize e6 : upd _ p6 _ = H6
      obtain ⟨S6, h6⟩ := new_of e6 n6
      clear e6
      refine ⟨by show 2 ≤ sizeLine; decide, fun p7 n7 => ?_⟩
      generalize e7 : upd _ p7 _ = H7
      obtain ⟨S7, h7⟩ := new_of e7 n7
      clear e7
      refine ⟨_, rfl, _, _, rfl, rfl, ⟨by decide, by decide⟩, .inl ⟨_, rfl, ?_⟩⟩
      refine ⟨_, _, rfl, rfl, (by show (0 : Int) < 2; decide), ?_⟩
      obtain ⟨v, hv, ev⟩ := two_of (a := .ref p5) (b := .ref p6) (m01 (d1 / 10))
      refine ⟨p7, _, _, _, rfl, rfl, .inl (.inl h7), hv, ?_⟩
      have bb : Bt [p] H H7 := b04.trans ((S5.trans S6).trans S7).nil
      have hp7 := hp4.bt ((S5.trans S6).trans S7) (fun z => nomatch z)
      rcases ev with e | e <;> subst e
      · exact q _ _ H7 bb hp7 (.tup ((S6.trans S7).at h5) (.cons (.str _ (by decide +kernel)) (.cons (.int _) .nil))) (by simp [PyData.depth, PyData.depthAll])
      · exact q _ _ H7 bb hp7 (.tup (S7.at h6) (.cons (.str _ (by decide +kernel)) (.cons (.int _) (.cons (.int _) .nil)))) (by simp [PyData.depth, PyData.depthAll])
    refine ⟨_, rfl, k, _, _, _, rfl, rfl, hq, atI_nat (j := 1) rfl, ?_⟩
    refine ⟨rfl, _, rfl, ?_⟩
    refine iteD2 (fun z => ?_) (fun z => ?_)
    · refine ⟨_, rfl, _, rfl, .inl ⟨_, rfl, ?_⟩⟩
      refine ⟨_, _, rfl, rfl, (by show (0 : Int) < 999; decide), _, _, rfl, rfl, ?_⟩
      refine ⟨by show 2 ≤ sizeLine; decide, fun p5 n5 => ?_⟩
      generalize e5 : upd _ p5 _ = H5
      obtain ⟨S5, h5⟩ := new_of e5 n5
      clear e5
      refine ⟨by show 2 ≤ sizeLine; decide, fun p7 n7 => ?_⟩
      generalize e7 : upd _ p7 _ = H7
      obtain ⟨S7, h7⟩ := new_of e7 n7
      clear e7
      refine ⟨_, rfl, _, _, rfl, rfl, ⟨by decide, by decide⟩, .inl ⟨_, rfl, ?_⟩⟩
      refine ⟨_, _, rfl, rfl, (by show (0 : Int) < 2; decide), ?_⟩
      obtain ⟨v, hv, ev⟩ := two_of (a := .ref p5) (b := .non) (m01 (d1 / 8))
      refine ⟨p7, _, _, _, rfl, rfl, .inl (.inl h7), hv, ?_⟩
      have bb : Bt [p] H H7 := b04.trans (S5.trans S7).nil
      have hp7 := hp4.bt (S5.trans S7) (fun z => nomatch z)
      rcases ev with e | e <;> subst e
      · exact q _ _ H7 bb hp7 (.tup (S7.at h5) (.cons (.str _ hxo) (.cons (.int _) .nil))) (by simp [PyData.depth, PyData.depthAll])
      · exact q _ _ H7 bb hp7 .non (by simp [PyData.depth])
    -- an order
    refine ⟨_, rfl, .inl ⟨_, rfl, ?_⟩⟩
    refine ⟨_, _, rfl, rfl, (by show (0 : Int) < 999; decide), _, _, rfl, rfl, ?_⟩
    have c0 := emn d2 (show (0 : Int) < 999 by decide)
    have c1 := eml d2 (show (0 : Int) < 999 by decide)
    have cn0 : 1 ≤ (1 + d2 % 999) := by omega
    have cn1 : (1 + d2 % 999) ≤ 999 := by omega
    refine ⟨_, rfl, .inl ⟨_, rfl, ?_⟩⟩
    refine ⟨_, _, rfl, rfl, (by show (0 : Int) < 999; decide), _, _, rfl, rfl, ?_⟩
    refine ⟨by show 2 ≤ sizeLine; decide, fun p5 n5 => ?_⟩
    generalize e5 : upd _ p5 _ = H5
    obtain ⟨S5, h5⟩ := new_of e5 n5
    clear e5
    refine ⟨_, rfl, _, _, rfl, rfl, ⟨by decide, by decide⟩, .inl ⟨_, rfl, ?_⟩⟩
    refine ⟨_, _, rfl, rfl, (by show (0 : Int) < 2; decide), ?_⟩
    obtain ⟨v, hv, ev⟩ := two_of (a := .int 0) (b := .int (1 + d1 % 999)) (m01 (d2 / 3))
    obtain ⟨mo, rfl, mo0, mo1⟩ : ∃ mo : Int, v = .int mo ∧ 0 ≤ mo ∧ mo ≤ 1000 := by
      have := emn d1 (show (0 : Int) < 999 by decide)
      have := eml d1 (show (0 : Int) < 999 by decide)
      rcases ev with e | e
      · exact ⟨_, e, by omega, by omega⟩
      · exact ⟨_, e, by omega, by omega⟩
    refine ⟨p5, _, _, _, rfl, rfl, .inl (.inl h5), hv, ?_⟩
    clear hv ev
    refine ⟨_, rfl, _, _, rfl, rfl, ⟨by decide, by decide⟩, .inl ⟨_, rfl, ?_⟩⟩
    refine ⟨_, _, rfl, rfl, (by show (0 : Int) < 3; decide), ?_⟩
    have st0 := emn (d1 / 12) (show (0 : Int) < 3 by decide)
    have st1 := eml (d1 / 12) (show (0 : Int) < 3 by decide)
    refine ⟨_, rfl, .inl ⟨_, rfl, ?_⟩⟩
    refine ⟨_, rfl, _, _, rfl, rfl, ?_⟩
    refine ⟨_, _, rfl, rfl, (by show (0 : Int) < (1 + d2 % 999) + 1; omega), ?_⟩
    refine ⟨by show 3 ≤ sizeLine; decide, fun p6 n6 => ?_⟩
    generalize e6 : upd _ p6 _ = H6
    obtain ⟨S6, h6⟩ := new_of e6 n6
    clear e6
    obtain ⟨v, hv, ev⟩ := three_of (a := .int 0) (b := .int (d1 % ((1 + d2 % 999) + 1))) (c := .int 0) st0 st1
    obtain ⟨bk, rfl, bk0, bk1⟩ : ∃ bk : Int, v = .int bk ∧ 0 ≤ bk ∧ bk ≤ 1000 := by
      have := emn d1 (show (0 : Int) < (1 + d2 % 999) + 1 by omega)
      have := eml d1 (show (0 : Int) < (1 + d2 % 999) + 1 by omega)
      rcases ev with e | e | e
      · exact ⟨_, e, by omega, by omega⟩
      · exact ⟨_, e, by omega, by omega⟩
      · exact ⟨_, e, by omega, by omega⟩
    refine ⟨_, rfl, p6, _, _, _, rfl, rfl, .inl (.inl h6), hv, ?_⟩
    clear hv ev
    -- parts
    refine ⟨_, rfl, .inl ⟨_, rfl, ?_⟩⟩
    refine ⟨_, _, rfl, rfl, (by show (0 : Int) < 2; decide), _, _, rfl, rfl, ?_⟩
    refine ⟨_, rfl, _, rfl, _, rfl, ?_⟩
    refine ⟨by show 3 ≤ sizeLine; decide, fun p7 n7 => ?_⟩
    generalize e7 : upd _ p7 _ = H7
    obtain ⟨S7, h7⟩ := new_of e7 n7
    clear e7
    obtain ⟨v, hv, ev⟩ := three_of (a := .str ("held" : Str)) (b := .str ("sent" : Str)) (c := .str ("freed" : Str)) st0 st1
    obtain ⟨ss, rfl, sok⟩ : ∃ ss : Str, v = .str ss ∧ PyData.strOk ss = true := by
      rcases ev with e | e | e
      · exact ⟨_, e, by decide +kernel⟩
      · exact ⟨_, e, by decide +kernel⟩
      · exact ⟨_, e, by decide +kernel⟩
    refine ⟨_, rfl, p7, _, _, _, rfl, rfl, .inl (.inl h7), hv, ?_⟩
    clear hv ev
    refine ⟨_, rfl, by show 6 ≤ sizeLine; decide, fun p8 n8 => ?_⟩
    generalize e8 : upd _ p8 _ = H8
    obtain ⟨S8, h8⟩ := new_of e8 n8
    clear e8
    refine ⟨by show 1 ≤ sizeLine; decide, fun p9 n9 => ?_⟩
    generalize e9 : upd _ p9 _ = H9
    obtain ⟨S9, h9⟩ := new_of e9 n9
    clear e9
    have b49 : Bt [] H4 H9 := (((S5.trans S6).trans S7).trans S8).trans S9
    have t8 : Td H9 (.ref p8) (.tuple [.int (2 + d1 % 2), .str x, .int (1 + d2 % 999), .int co, .str ss, .int bk]) := .tup (S9.at h8) (.cons (.int _) (.cons (.str _ hxo) (.cons (.int _) (.cons (.int _) (.cons (.str _ sok) (.cons (.int _) .nil))))))
    refine ⟨_, rfl, _, _, rfl, rfl, _, rfl, ?_⟩
    refine iteD2 (fun z => ?_) (fun z => ?_)
    · refine ⟨_, rfl, ?_⟩
      refine ⟨_, rfl, _, rfl, _, rfl, by show 6 ≤ sizeLine; decide, fun q8 m8 => ?_⟩
      generalize e8 : upd _ q8 _ = G8
      obtain ⟨T8, g8⟩ := new_of e8 m8
      clear e8
      refine ⟨by show 1 ≤ sizeLine; decide, fun q9 m9 => ?_⟩
      generalize e9 : upd _ q9 _ = G9
      obtain ⟨T9, g9⟩ := new_of e9 m9
      clear e9
      refine ⟨p9, q9, _, _, rfl, rfl, .inl (.inl ((T8.trans T9).at h9)), .inl (.inl g9), by show 2 ≤ sizeLine; decide, (fun z => nomatch z), (fun _ z => nomatch z), fun _ _ q10 m10 => ?_⟩
      generalize e10 : upd _ q10 _ = G10
      obtain ⟨T10, g10⟩ := new_of e10 m10
      clear e10
      have tt : Td G10 (.ref q10) (.tuple [.tuple [.int (2 + d1 % 2), .str x, .int (1 + d2 % 999), .int co, .str ss, .int bk], .tuple [.int 4, .str x, .int mo, .int co, .str ("held" : Str), .int 0]]) :=
        .tup g10 (.cons (((t8.bt T8).bt T9).bt T10) (.cons ((Td.tup (T9.at g8) (.cons (.int _) (.cons (.str _ hxo) (.cons (.int _) (.cons (.int _) (.cons (.str _ (by decide +kernel)) (.cons (.int _) .nil))))))).bt T10) .nil))
      have bb : Bt [] H4 G10 := ((b49.trans T8).trans T9).trans T10
      refine ⟨_, rfl, _, rfl, _, _, rfl, rfl, _, rfl, _, _, rfl, rfl, .inl ⟨by omega, by omega⟩, ?_⟩
      generalize evv : ((1 + d2 % 999) + mo) * co = vl
      refine ⟨_, rfl, _, rfl, _, rfl, ?_⟩
      refine ⟨_, rfl, _, rfl, _, _, rfl, rfl, .inl ⟨by omega, by omega⟩, ?_⟩
      refine ⟨by show 3 ≤ sizeLine; decide, fun p12 n12 => ?_⟩
      generalize e12 : upd _ p12 _ = H12
      obtain ⟨S12, h12⟩ := new_of e12 n12
      clear e12
      obtain ⟨v, hv, ev⟩ := three_of (a := .int 0) (b := .int ((1 + d2 % 999) * co)) (c := .int 0) st0 st1
      obtain ⟨sv, rfl⟩ : ∃ sv : Int, v = .int sv := by
        rcases ev with e | e | e <;> exact ⟨_, e⟩
      refine ⟨_, rfl, p12, _, _, _, rfl, rfl, .inl (.inl h12), hv, ?_⟩
      refine ⟨_, rfl, _, rfl, _, _, rfl, rfl, .inl ⟨by omega, by omega⟩, ?_⟩
      refine ⟨by show 5 ≤ sizeLine; decide, fun p13 n13 => ?_⟩
      generalize e13 : upd _ p13 _ = H13
      obtain ⟨S13, h13⟩ := new_of e13 n13
      clear e13
      refine q _ _ H13 (b04.trans ((bb.trans S12).trans S13).nil) (hp4.bt ((bb.trans S12).trans S13) (fun z => nomatch z)) (.tup h13 (.cons ((tt.bt S12).bt S13) (.cons (.int _) (.cons (.int _) (.cons (.int _) (.cons (.int _) .nil)))))) (by simp [PyData.depth, PyData.depthAll])
    · have tt : Td H9 (.ref p9) (.tuple [.tuple [.int (2 + d1 % 2), .str x, .int (1 + d2 % 999), .int co, .str ss, .int bk]]) := .tup h9 (.cons t8 .nil)
      refine ⟨_, rfl, _, rfl, _, _, rfl, rfl, _, rfl, _, _, rfl, rfl, .inl ⟨by omega, by omega⟩, ?_⟩
      generalize evv : ((1 + d2 % 999) + mo) * co = vl
      refine ⟨_, rfl, _, rfl, _, rfl, ?_⟩
      refine ⟨_, rfl, _, rfl, _, _, rfl, rfl, .inl ⟨by omega, by omega⟩, ?_⟩
      refine ⟨by show 3 ≤ sizeLine; decide, fun p12 n12 => ?_⟩
      generalize e12 : upd _ p12 _ = H12
      obtain ⟨S12, h12⟩ := new_of e12 n12
      clear e12
      obtain ⟨v, hv, ev⟩ := three_of (a := .int 0) (b := .int ((1 + d2 % 999) * co)) (c := .int 0) st0 st1
      obtain ⟨sv, rfl⟩ : ∃ sv : Int, v = .int sv := by
        rcases ev with e | e | e <;> exact ⟨_, e⟩
      refine ⟨_, rfl, p12, _, _, _, rfl, rfl, .inl (.inl h12), hv, ?_⟩
      refine ⟨_, rfl, _, rfl, _, _, rfl, rfl, .inl ⟨by omega, by omega⟩, ?_⟩
      refine ⟨by show 5 ≤ sizeLine; decide, fun p13 n13 => ?_⟩
      generalize e13 : upd _ p13 _ = H13
      obtain ⟨S13, h13⟩ := new_of e13 n13
      clear e13
      refine q _ _ H13 (b04.trans ((b49.trans S12).trans S13).nil) (hp4.bt ((b49.trans S12).trans S13) (fun z => nomatch z)) (.tup h13 (.cons ((tt.bt S12).bt S13) (.cons (.int _) (.cons (.int _) (.cons (.int _) (.cons (.int _) .nil)))))) (by simp [PyData.depth, PyData.depthAll])
end
end K33

/-! K16: another word, the menu -/
namespace K33
open PySem L2
theorem find_let : ∀ c ∈ letters.cps.toList, ∃ i : Nat, i < 26 ∧ Txt.find letters (one1 c) = (i : Int) ∧ letters.cps.toList[i]? = some c := by
  have h : (letters.cps.toList.all fun c => decide (0 ≤ Txt.find letters (one1 c)) && decide ((Txt.find letters (one1 c)).toNat < 26) && decide (letters.cps.toList[(Txt.find letters (one1 c)).toNat]? = some c)) = true := by decide +kernel
  rw [List.all_eq_true] at h
  intro c hc
  have := h c hc
  rw [Bool.and_eq_true, Bool.and_eq_true] at this
  obtain ⟨⟨h1, h2⟩, h3⟩ := this
  exact ⟨_, of_decide_eq_true h2, by have := of_decide_eq_true h1; omega, of_decide_eq_true h3⟩
theorem let_nd : ∀ i j : Nat, i < 26 → j < 26 → letters.cps.toList[i]? = letters.cps.toList[j]? → i = j := by
  have h : ((List.range 26).all fun i => (List.range 26).all fun j => !(decide (letters.cps.toList[i]? = letters.cps.toList[j]?)) || decide (i = j)) = true := by decide +kernel
  intro i j hi hj e
  rw [List.all_eq_true] at h
  have h := h i (List.mem_range.mpr hi)
  rw [List.all_eq_true] at h
  have h := h j (List.mem_range.mpr hj)
  rw [decide_eq_true e] at h
  simpa using h
theorem slen (x : Str) : x.cps.toList.length = x.length := by
  show x.cps.toList.length = x.cps.size
  rw [Array.length_toList]
section
variable {P : Program} {w : World} {K : PySem.W.Frag} {mg : Str → Option Value} {base : Heap}
def spOther : Sp := fun vs H Q _ => ∃ (p : Addr) (x : Str), vs = [.ref p, .str x] ∧ PoolAt H p ∧ IsWord x ∧ ∀ y H', Bt [p] H H' → PoolAt H' p → IsWord y → y ≠ x → Q (.str y) H'
abbrev s_law_other : Stmt := top 42
theorem sc_law_other : FnScope ["_law_pool_here", "_law_word_here", "_law_letters", "_law_at", "_law_letter"] ["_law_pool_here", "_law_word_here"] (defScope s_law_other) := ⟨rfl, rfl, rfl, by decide +kernel, rfl, by decide +kernel, by decide +kernel⟩
theorem ok_other {f : Addr} {fd : FuncData} (F : Fun K "_law_other" "_law_other" s_law_other f fd) (T : Blt mg) (C_law_draw : Cal P w K mg base "_law_draw" 1 spDraw) : FnOk P w K mg base CX0 2 f fd ["_law_pool_here", "_law_word_here"] spOther := by
  refine F.ok sc_law_other (fun vs H Q E h => ?_) (fun cdv A outer s H vs Q E hr h => ?_)
  · obtain ⟨_, _, rfl, _⟩ := h
    rfl
  · obtain ⟨p, x, rfl, hp, hx, q⟩ := h
    have hxl : x.length ≤ sizeLine := Nat.le_trans hx.le (by decide)
    refine ⟨_, ((pss_cons (ps_set (i := 2) sc_law_other.nd rfl (Or.inl rfl) pe_str)
  (pss_cons (ps_set (i := 3) sc_law_other.nd rfl (Or.inl rfl) (pe_cc C_law_draw hr (by decide) (by rfl) (pa_cons (pv 0) (pa_cons (pe_callB call_len_str (by rfl) T.len B_len (pa_cons (pv 1) pa_nil)) pa_nil))))
  (pss_cons (ps_set (i := 4) sc_law_other.nd rfl (Or.inl rfl) (pe_ix ix_str (pv 2) (pe_op op_mod (pe_callTy call_int1 (by rfl) T.int B_int (pa_cons (pe_op op_add (pe_op op_add (pe_m1 PySem.F.slot_str_find PySem.F.type_str_find mt_find (pv 2) (pe_ix ix_str (pv 1) (pv 3) (fun _ _ => rfl))) pe_int) (pe_cc C_law_draw hr (by decide) (by rfl) (pa_cons (pv 0) (pa_cons pe_int pa_nil)))) pa_nil)) pe_int) (fun _ _ => rfl)))
  (pss_cons (ps_if (PW.pt (pw_and (pt_cmpR op_lt (pe_callB call_len_str (by rfl) T.len B_len (pa_cons (pv 1) pa_nil)) pe_int (nomark _)) (pw_and1 (pt_cmpR op_eq (pe_cc C_law_draw hr (by decide) (by rfl) (pa_cons (pv 0) (pa_cons pe_int pa_nil))) pe_int (nomark _))))) (pss_one (ps_ret (pe_op op_add_str (pv 1) (pv 4)))) pss_nil)
  (pss_one (ps_ret (pe_op op_add_str (pe_op op_add_str (pe_slice sl_str (pv 1) po_none (po_some (pv 3))) (pv 4)) (pe_slice sl_str (pv 1) (po_some (pe_op op_add (pv 3) pe_int)) po_none))))))))), ?_⟩
    refine ⟨_, rfl, _, rfl, _, rfl, hxl, ?_⟩
    refine ⟨p, _, rfl, hp, by have := hx.pos; omega, fun d1 H1 d10 d11 b1 hp1 => ?_⟩
    obtain ⟨k, rfl⟩ : ∃ k : Nat, d1 = (k : Int) := ⟨d1.toNat, by omega⟩
    have hk : k < x.cps.toList.length := by rw [slen]; omega
    obtain ⟨c, hc⟩ : ∃ c, x.cps.toList[k]? = some c := ⟨_, List.getElem?_eq_getElem hk⟩
    have hcl := hx.all c (List.mem_of_getElem? hc)
    obtain ⟨fi, f26, ef, hfc⟩ := find_let c hcl
    refine ⟨_, rfl, _, rfl, ⟨_, rfl⟩, ?_⟩
    refine ⟨_, rfl, _, rfl, x, _, c, rfl, rfl, hxl, atI_nat hc, ?_⟩
    refine ⟨_, _, rfl, rfl, ?_⟩
    refine ⟨_, _, rfl, rfl, ?_⟩
    refine ⟨_, rfl, p, 25, rfl, hp1, by decide, fun d2 H2 d20 d21 b2 hp2 => ?_⟩
    refine ⟨_, _, rfl, rfl, .inl ⟨_, rfl, ?_⟩⟩
    refine ⟨_, _, rfl, rfl, (by show (0 : Int) < 26; decide), ?_⟩
    obtain ⟨m, em, hm⟩ := mod_nat (x := (Txt.find letters (one1 c)) + 1 + d2) (m := 26) (by decide)
    obtain ⟨c2, hc2, hc2m⟩ := let_get (i := m) (by omega)
    have hne : c2 ≠ c := by
      intro e
      rw [e, ← hfc] at hc2
      have := let_nd m fi (by omega) f26 hc2
      rw [ef] at em
      omega
    refine ⟨letters, _, c2, rfl, rfl, let_len, (by show atI _ ((Txt.find letters (one1 c) + 1 + d2) % 26) = _; rw [em]; exact atI_nat hc2), ?_⟩
    have b02 := b1.trans b2
    have elen : (Str.length (one1 c2)) = 1 := rfl
    have eone : (one1 c2).cps.toList = [c2] := rfl
    have hB : ∀ H3, Bt [p] H H3 → PoolAt H3 p → Q (.str (cutS x none (some (k : Int)) ++ one1 c2 ++ cutS x (some ((k : Int) + 1)) none)) H3 := by
      intro H3 b3 hp3
      have e1 : (cutS x none (some (k : Int))).cps.toList = x.cps.toList.take k := by
        unfold cutS
        rw [HT.sIx_none, show HT.sIx x.length x.length (some (k : Int)) = min k x.length from HT.sIx_nat _ _ k, Nat.min_eq_left (by omega), List.drop_zero, Nat.sub_zero]
      have e2 : (cutS x (some ((k : Int) + 1)) none).cps.toList = x.cps.toList.drop (k + 1) := by
        unfold cutS
        rw [HT.sIx_none, show HT.sIx x.length 0 (some ((k : Int) + 1)) = min (k + 1) x.length from HT.sIx_nat _ _ (k + 1), Nat.min_eq_left (by omega)]
        show (x.cps.toList.drop (k + 1)).take _ = _
        rw [List.take_of_length_le]
        rw [List.length_drop, slen]
        omega
      have etot : (cutS x none (some (k : Int)) ++ one1 c2 ++ cutS x (some ((k : Int) + 1)) none).cps.toList = x.cps.toList.take k ++ [c2] ++ x.cps.toList.drop (k + 1) := by
        rw [cps_app, cps_app, e1, e2, eone]
      refine q _ H3 b3 hp3 ⟨?_, ?_, fun y my => ?_⟩ (fun e => ?_)
      · rw [← slen, etot, List.length_append, List.length_append, List.length_singleton]
        omega
      · rw [← slen, etot, List.length_append, List.length_append, List.length_singleton, List.length_take, List.length_drop]
        have := hx.le
        rw [← slen] at this
        omega
      · rw [etot, List.mem_append, List.mem_append] at my
        rcases my with (my | my) | my
        · exact hx.all y (List.mem_of_mem_take my)
        · rw [List.mem_singleton.mp my]
          exact hc2m
        · exact hx.all y (List.mem_of_mem_drop my)
      · rw [e] at etot
        have e3 : x.cps.toList[k]? = some c2 := by
          rw [etot, List.append_assoc, List.getElem?_append_right (by rw [List.length_take]; omega), List.length_take, Nat.min_eq_left (by omega), Nat.sub_self]
          rfl
        rw [hc] at e3
        exact hne (Option.some.inj e3).symm
    refine ⟨_, rfl, _, rfl, hxl, ?_⟩
    refine ⟨_, _, rfl, rfl, _, rfl, ?_⟩
    refine iteD2 (fun z => ?_) (fun z => ?_)
    · refine ⟨_, rfl, p, 2, rfl, hp2, by decide, fun d3 H3 d30 d31 b3 hp3 => ?_⟩
      refine ⟨rfl, _, rfl, ?_⟩
      refine iteD2 (fun z2 => ?_) (fun z2 => ?_)
      · refine ⟨_, rfl, _, rfl, _, _, rfl, rfl, ?_, ?_⟩
        · show x.length + 1 ≤ sizeLine
          exact sz_le (by have := hx.le; omega)
        · have etot : (x ++ one1 c2).cps.toList = x.cps.toList ++ [c2] := by rw [cps_app, eone]
          have hfin : Q (.str (x ++ one1 c2)) H3 := by
           refine q _ H3 (b02.trans b3) hp3 ⟨?_, ?_, fun y my => ?_⟩ (fun e => ?_)
           · rw [← slen, etot, List.length_append, List.length_singleton]
             omega
           · rw [← slen, etot, List.length_append, List.length_singleton, slen]
             omega
           · rw [etot, List.mem_append] at my
             rcases my with my | my
             · exact hx.all y my
             · rw [List.mem_singleton.mp my]
               exact hc2m
           · rw [e] at etot
             have := congrArg List.length etot
             rw [List.length_append, List.length_singleton] at this
             omega
          exact hfin
      · refine ⟨_, rfl, _, rfl, _, rfl, x, rfl, hxl, ?_⟩
        refine ⟨_, rfl, _, _, rfl, rfl, ?_, ?_⟩
        · have : (cutS x none (some (k : Int))).length ≤ 8 := by
            rw [← slen]
            unfold cutS
            show ((x.cps.toList.drop _).take _).length ≤ 8
            rw [List.length_take, List.length_drop, slen]
            have := hx.le
            omega
          show (cutS x none (some (k : Int))).length + 1 ≤ sizeLine
          exact sz_le (by omega)
        refine ⟨_, rfl, _, rfl, _, _, rfl, rfl, _, rfl, x, rfl, hxl, ?_⟩
        refine ⟨_, _, rfl, rfl, ?_, ?_⟩
        · have h1 : (cutS x none (some (k : Int)) ++ one1 c2).length ≤ 9 := by
            rw [← slen, cps_app, eone]
            unfold cutS
            show (((x.cps.toList.drop _).take _) ++ [c2]).length ≤ 9
            rw [List.length_append, List.length_take, List.length_drop, slen, List.length_singleton]
            have := hx.le
            omega
          have h2 : (cutS x (some ((k : Int) + 1)) none).length ≤ 8 := by
            rw [← slen]
            unfold cutS
            show ((x.cps.toList.drop _).take _).length ≤ 8
            rw [List.length_take, List.length_drop, slen]
            have := hx.le
            omega
          show (cutS x none (some (k : Int)) ++ one1 c2).length + (cutS x (some ((k : Int) + 1)) none).length ≤ sizeLine
          exact sz_le (by omega)
        exact hB _ (b02.trans b3) hp3
    · refine ⟨_, rfl, _, rfl, _, rfl, x, rfl, hxl, ?_⟩
      refine ⟨_, rfl, _, _, rfl, rfl, ?_, ?_⟩
      · have : (cutS x none (some (k : Int))).length ≤ 8 := by
          rw [← slen]
          unfold cutS
          show ((x.cps.toList.drop _).take _).length ≤ 8
          rw [List.length_take, List.length_drop, slen]
          have := hx.le
          omega
        show (cutS x none (some (k : Int))).length + 1 ≤ sizeLine
        exact sz_le (by omega)
      refine ⟨_, rfl, _, rfl, _, _, rfl, rfl, _, rfl, x, rfl, hxl, ?_⟩
      refine ⟨_, _, rfl, rfl, ?_, ?_⟩
      · have h1 : (cutS x none (some (k : Int)) ++ one1 c2).length ≤ 9 := by
          rw [← slen, cps_app, eone]
          unfold cutS
          show (((x.cps.toList.drop _).take _) ++ [c2]).length ≤ 9
          rw [List.length_append, List.length_take, List.length_drop, slen, List.length_singleton]
          have := hx.le
          omega
        have h2 : (cutS x (some ((k : Int) + 1)) none).length ≤ 8 := by
          rw [← slen]
          unfold cutS
          show ((x.cps.toList.drop _).take _).length ≤ 8
          rw [List.length_take, List.length_drop, slen]
          have := hx.le
          omega
        show (cutS x none (some (k : Int)) ++ one1 c2).length + (cutS x (some ((k : Int) + 1)) none).length ≤ sizeLine
        exact sz_le (by omega)
      exact hB _ b02 hp2
end
end K33

/-! K17: the menu -/
namespace K33
open PySem L2
def ky (h : Int) (p : Nm × List Key) : List Key := .inl h :: .inr p.1.s :: p.2
theorem ky_inj {h : Int} {p q : Nm × List Key} (e : ky h p = ky h q) : p = q := by
  unfold ky at e
  injection e with _ e
  injection e with e1 e2
  exact Prod.ext (Nm.s_inj (Sum.inr.inj e1)) e2
structure MenuR (h : Int) (L : List (Nm × List Key)) : Prop where
  ok : ∀ p ∈ L, p.1.at h ∧ Paired fitK p.1.parts p.2
  nd : L.Nodup
  ne : L ≠ []
  len : L.length ≤ 20
  came : ∀ w, ((Nm.free, w) ∈ L ∨ (Nm.out, w) ∈ L) → (Nm.came, w) ∈ L
  paid : ∀ r, (Nm.purse, r) ∈ L → (Nm.paid, []) ∈ L ∧ h = 5
structure Menu (h : Int) (ks : List (List Key)) : Prop where
  ok : ∀ k ∈ ks, KeyOk h k
  nd : ks.Nodup
  so : ks.Pairwise (fun x y => ksLt y x = false)
  ne : ks ≠ []
  len : ks.length ≤ 20
  came : ∀ w, (ky h (.free, w) ∈ ks ∨ ky h (.out, w) ∈ ks) → ky h (.came, w) ∈ ks
  paid : ∀ r, ky h (.purse, r) ∈ ks → ky h (.paid, []) ∈ ks ∧ h = 5
theorem mem_ky {h : Int} {L : List (Nm × List Key)} {p : Nm × List Key} : ky h p ∈ L.map (ky h) ↔ p ∈ L := by
  constructor
  · intro m
    obtain ⟨q, h1, h2⟩ := List.mem_map.mp m
    rw [← ky_inj h2]
    exact h1
  · exact fun m => List.mem_map.mpr ⟨p, m, rfl⟩
theorem nd_map {α β : Type} {f : α → β} (hf : ∀ a b, f a = f b → a = b) : ∀ {l : List α}, l.Nodup → (l.map f).Nodup
  | [], _ => List.nodup_nil
  | a :: l, h => by
    rw [List.nodup_cons] at h
    rw [List.map_cons, List.nodup_cons]
    refine ⟨fun m => ?_, nd_map hf h.2⟩
    obtain ⟨b, h1, h2⟩ := List.mem_map.mp m
    rw [hf _ _ h2] at h1
    exact h.1 h1
theorem MenuR.menu {h : Int} {L : List (Nm × List Key)} {ks : List (List Key)} (m : MenuR h L) (p : ks.Perm (L.map (ky h))) (s : ks.Pairwise (fun x y => ksLt y x = false)) : Menu h ks := by
  refine ⟨fun k hk => ?_, ?_, s, ?_, ?_, fun w hw => ?_, fun r hr => ?_⟩
  · obtain ⟨q, h1, h2⟩ := List.mem_map.mp (p.mem_iff.mp hk)
    obtain ⟨o1, o2⟩ := m.ok q h1
    exact ⟨q.1, q.2, h2.symm, o1, o2⟩
  · exact p.symm.nodup (nd_map (fun _ _ => ky_inj) m.nd)
  · intro e
    have := p.length_eq
    rw [e, List.length_map] at this
    exact m.ne (List.length_eq_zero_iff.mp this.symm)
  · rw [p.length_eq, List.length_map]
    exact m.len
  · rw [p.mem_iff, mem_ky]
    rw [p.mem_iff, p.mem_iff, mem_ky, mem_ky] at hw
    exact m.came w hw
  · rw [p.mem_iff, mem_ky] at hr
    rw [p.mem_iff, mem_ky]
    exact m.paid r hr
def L5 (a b c : Int) : List (Nm × List Key) := [(.purse, [.inl a]), (.purse, [.inl b]), (.purse, [.inl c]), (.kept, []), (.paid, []), (.till, [])]
def LS (x y : Str) : List (Nm × List Key) := [(.came, [.inr x]), (.free, [.inr x]), (.held, [.inr x]), (.out, [.inr x]), (.came, [.inr y]), (.free, [.inr y]), (.held, [.inr y]), (.out, [.inr y])]
def L1 (x y : Str) (a b c d n : Int) : List (Nm × List Key) := [(.away, [.inr x]), (.coupon, [.inr x]), (.price, [.inr x]), (.away, [.inr y]), (.coupon, [.inr y]), (.price, [.inr y]), (.rate, []), (.road, [.inl a, .inl n]), (.road, [.inl a, .inl (n + 1)]),
  (.order, [.inl c, .inl n]), (.order, [.inl d, .inl n]), (.road, [.inl b, .inl n])]
theorem menu5 {a b c : Int} (ha : 1 ≤ a ∧ a ≤ 9) (hb : 1 ≤ b ∧ b ≤ 9) (hc : 1 ≤ c ∧ c ≤ 9) (ab : a ≠ b) (ac : a ≠ c) (bc : b ≠ c) : MenuR 5 (L5 a b c) := by
  refine ⟨?_, ?_, (fun z => nomatch z), by show 6 ≤ 20; decide, fun w hw => ?_, fun r _ => ⟨by simp [L5], rfl⟩⟩
  · intro p m
    simp only [L5, List.mem_cons, List.not_mem_nil, or_false] at m
    rcases m with e | e | e | e | e | e <;> subst e
    · exact ⟨.inr (.inr ⟨rfl, rfl, rfl⟩), .cons ha .nil⟩
    · exact ⟨.inr (.inr ⟨rfl, rfl, rfl⟩), .cons hb .nil⟩
    · exact ⟨.inr (.inr ⟨rfl, rfl, rfl⟩), .cons hc .nil⟩
    · exact ⟨.inr (.inr ⟨rfl, rfl, rfl⟩), .nil⟩
    · exact ⟨.inr (.inr ⟨rfl, rfl, rfl⟩), .nil⟩
    · exact ⟨.inr (.inr ⟨rfl, rfl, rfl⟩), .nil⟩
  · simp [L5, ab, ac, bc]
  · simp [L5] at hw
theorem menuS {h : Int} {x y : Str} (h2 : 2 ≤ h) (h4 : h ≤ 4) (hx : IsWord x) (hy : IsWord y) (n : y ≠ x) : MenuR h (LS x y) := by
  have n' : x ≠ y := fun e => n e.symm
  refine ⟨?_, ?_, (fun z => nomatch z), by show 8 ≤ 20; decide, fun w hw => ?_, fun r hr => ?_⟩
  · intro p m
    simp only [LS, List.mem_cons, List.not_mem_nil, or_false] at m
    rcases m with e | e | e | e | e | e | e | e <;> subst e
    · exact ⟨.inr (.inl ⟨rfl, h2, h4⟩), .cons hx .nil⟩
    · exact ⟨.inr (.inl ⟨rfl, h2, h4⟩), .cons hx .nil⟩
    · exact ⟨.inr (.inl ⟨rfl, h2, h4⟩), .cons hx .nil⟩
    · exact ⟨.inr (.inl ⟨rfl, h2, h4⟩), .cons hx .nil⟩
    · exact ⟨.inr (.inl ⟨rfl, h2, h4⟩), .cons hy .nil⟩
    · exact ⟨.inr (.inl ⟨rfl, h2, h4⟩), .cons hy .nil⟩
    · exact ⟨.inr (.inl ⟨rfl, h2, h4⟩), .cons hy .nil⟩
    · exact ⟨.inr (.inl ⟨rfl, h2, h4⟩), .cons hy .nil⟩
  · simp [LS, n']
  · simp [LS] at hw ⊢
    exact hw
  · simp [LS] at hr
theorem menu1 {x y : Str} {a b c d n : Int} (hx : IsWord x) (hy : IsWord y) (nw : y ≠ x) (ha : 0 ≤ a ∧ a ≤ 9) (hb : 0 ≤ b ∧ b ≤ 9) (hc : 0 ≤ c ∧ c ≤ 9) (hd : 0 ≤ d ∧ d ≤ 9) (ab : a ≠ b) (cd : c ≠ d) (n1 : 1 ≤ n) (n2 : n ≤ 998) : MenuR 1 (L1 x y a b c d n) := by
  have n' : x ≠ y := fun e => nw e.symm
  have hn : 1 ≤ n ∧ n ≤ 999 := ⟨n1, by omega⟩
  have hn' : 1 ≤ n + 1 ∧ n + 1 ≤ 999 := ⟨by omega, by omega⟩
  refine ⟨?_, ?_, (fun z => nomatch z), by show 12 ≤ 20; decide, fun w hw => ?_, fun r hr => ?_⟩
  · intro p m
    simp only [L1, List.mem_cons, List.not_mem_nil, or_false] at m
    rcases m with e | e | e | e | e | e | e | e | e | e | e | e <;> subst e
    · exact ⟨.inl ⟨rfl, rfl⟩, .cons hx .nil⟩
    · exact ⟨.inl ⟨rfl, rfl⟩, .cons hx .nil⟩
    · exact ⟨.inl ⟨rfl, rfl⟩, .cons hx .nil⟩
    · exact ⟨.inl ⟨rfl, rfl⟩, .cons hy .nil⟩
    · exact ⟨.inl ⟨rfl, rfl⟩, .cons hy .nil⟩
    · exact ⟨.inl ⟨rfl, rfl⟩, .cons hy .nil⟩
    · exact ⟨.inl ⟨rfl, rfl⟩, .nil⟩
    · exact ⟨.inl ⟨rfl, rfl⟩, .cons ha (.cons hn .nil)⟩
    · exact ⟨.inl ⟨rfl, rfl⟩, .cons ha (.cons hn' .nil)⟩
    · exact ⟨.inl ⟨rfl, rfl⟩, .cons hc (.cons hn .nil)⟩
    · exact ⟨.inl ⟨rfl, rfl⟩, .cons hd (.cons hn .nil)⟩
    · exact ⟨.inl ⟨rfl, rfl⟩, .cons hb (.cons hn .nil)⟩
  · simp [L1, n', ab, cd]
    omega
  · simp [L1] at hw
  · simp [L1] at hr
/-! ### keys on the heap -/
theorem TdA.kOf {H : Hp} : ∀ {ks : List (List Key)} {xs : List V}, TdA H xs (ks.map kD) → xs.map (kOf H) = ks ∧ ∀ x ∈ xs, ∃ t, x = V.ref t ∧ H t = some (.tup ((K33.kOf H x).map kV))
  | [], xs, h => by
    cases h.nil_inv
    exact ⟨rfl, fun _ m => nomatch m⟩
  | k :: ks, xs, h => by
    rw [List.map_cons] at h
    obtain ⟨v, ws, rfl, t1, t2⟩ := h.cons_inv
    obtain ⟨b, rfl, hb, _⟩ := key_td t1
    obtain ⟨h1, h2⟩ := TdA.kOf t2
    have e := kOf_at hb
    refine ⟨by rw [List.map_cons, h1, e], fun x m => ?_⟩
    rcases List.mem_cons.mp m with z | m
    · subst z
      exact ⟨b, rfl, by rw [e]; exact hb⟩
    · exact h2 x m
/-- sorted of a list of keys of one house: what the rule asks -/
theorem sort_keys {H : Hp} {h : Int} {ks : List (List Key)} {xs : List V} (t : TdA H xs (ks.map kD)) (ok : ∀ k ∈ ks, KeyOk h k) : SortOk H xs (kOf H) := by
  obtain ⟨h1, h2⟩ := t.kOf
  have hk : ∀ x ∈ xs, KeyOk h (kOf H x) := fun x m => ok _ (by rw [← h1]; exact List.mem_map.mpr ⟨x, m, rfl⟩)
  exact ⟨h2, fun x m => (hk x m).hd, fun x mx y my => (hk x mx).cmp (hk y my)⟩
theorem sort_ids {H : Hp} {ks : List (List Key)} {xs : List V} (t : TdA H xs (ks.map kD)) (ok : ∀ k ∈ ks, IdOk k) : SortOk H xs (kOf H) := by
  obtain ⟨h1, h2⟩ := t.kOf
  have hk : ∀ x ∈ xs, IdOk (kOf H x) := fun x m => ok _ (by rw [← h1]; exact List.mem_map.mpr ⟨x, m, rfl⟩)
  exact ⟨h2, fun x m => (hk x m).hd, fun x mx y my => (hk x mx).cmp (hk y my)⟩
theorem sort_out {H : Hp} {ks : List (List Key)} {xs ys : List V} (t : TdA H xs (ks.map kD)) (ok : ∀ k ∈ ks, kOk k) (hs : ys.Pairwise (fun x y => ksLt (kOf H y) (kOf H x) = false)) (hp : ys.Perm xs) :
    TdA H ys ((ys.map (kOf H)).map kD) ∧ (ys.map (kOf H)).Perm ks ∧ (ys.map (kOf H)).Pairwise (fun x y => ksLt y x = false) := by
  obtain ⟨h1, h2⟩ := t.kOf
  have p2 : (ys.map (kOf H)).Perm ks := by
    have := hp.map (kOf H)
    rw [h1] at this
    exact this
  refine ⟨sorted_td (fun x m => h2 x (hp.mem_iff.mp m)) (fun x m => ok _ (p2.mem_iff.mp (List.mem_map.mpr ⟨x, m, rfl⟩))), p2, List.pairwise_map.mpr hs⟩
end K33

/-! K18: the menu's def -/
namespace K33
open PySem L2
section
variable {P : Program} {w : World} {K : PySem.W.Frag} {mg : Str → Option Value} {base : Heap}
def kyD (h : Int) (p : Nm × List Key) : PyData := kD (ky h p)
theorem nms_get {ns : List Nm} {i : Nat} {x : V} (h : (ns.map fun n => V.str n.s)[i]? = some x) : ∃ n, ns[i]? = some n ∧ x = .str n.s := by
  rw [List.getElem?_map] at h
  cases e : ns[i]? with
  | none => rw [e] at h; cases h
  | some n =>
    rw [e] at h
    cases h
    exact ⟨n, rfl, rfl⟩
theorem ints_get {ns : List Int} {i : Nat} {x : V} (h : (ns.map V.int)[i]? = some x) : ∃ n, ns[i]? = some n ∧ x = .int n := by
  rw [List.getElem?_map] at h
  cases e : ns[i]? with
  | none => rw [e] at h; cases h
  | some n =>
    rw [e] at h
    cases h
    exact ⟨n, rfl, rfl⟩
theorem kyd0 {H : Hp} {a : Addr} {h : Int} {n : Nm} (e : H a = some (.tup [.int h, .str n.s])) : Td H (.ref a) (kyD h (n, [])) := .tup e (.cons (.int _) (.cons (.str _ n.s_ok) .nil))
theorem kyd1 {H : Hp} {a : Addr} {h i : Int} {n : Nm} (e : H a = some (.tup [.int h, .str n.s, .int i])) : Td H (.ref a) (kyD h (n, [.inl i])) := .tup e (.cons (.int _) (.cons (.str _ n.s_ok) (.cons (.int _) .nil)))
theorem kyd2 {H : Hp} {a : Addr} {h i j : Int} {n : Nm} (e : H a = some (.tup [.int h, .str n.s, .int i, .int j])) : Td H (.ref a) (kyD h (n, [.inl i, .inl j])) := .tup e (.cons (.int _) (.cons (.str _ n.s_ok) (.cons (.int _) (.cons (.int _) .nil))))
theorem kydw {H : Hp} {a : Addr} {h : Int} {x : Str} {n : Nm} (o : PyData.strOk x = true) (e : H a = some (.tup [.int h, .str n.s, .str x])) : Td H (.ref a) (kyD h (n, [.inr x])) := .tup e (.cons (.int _) (.cons (.str _ n.s_ok) (.cons (.str _ o) .nil)))
def wNames (h : Int) : List Nm := if h = 1 then [.away, .coupon, .price] else [.came, .free, .held, .out]
def wordL (h : Int) (ws : List Str) : List (Nm × List Key) := ws.flatMap fun x => (wNames h).map fun n => (n, [.inr x])
def spMenu : Sp := fun vs H Q _ => ∃ (p : Addr) (h : Int), vs = [.ref p, .int h] ∧ PoolAt H p ∧ 1 ≤ h ∧ h ≤ 5 ∧ ∀ l ks H', H l = none → Bt [p] H H' → PoolAt H' p → Menu h ks → LsAt H' l (ks.map kD) → Q (.ref l) H'
abbrev s_law_menu : Stmt := top 43
theorem sc_law_menu : FnScope ["_law_pool_here", "_law_house", "_law_base", "_law_words", "_law_one", "_law_two", "_law_three", "_law_number", "_law_keys", "_law_word_here", "_law_purses", "_law_k", "_law_kind"] ["_law_pool_here", "_law_house"] (defScope s_law_menu) := ⟨rfl, rfl, rfl, by decide +kernel, rfl, by decide +kernel, by decide +kernel⟩
theorem ok_menu {f : Addr} {fd : FuncData} (F : Fun K "_law_menu" "_law_menu" s_law_menu f fd) (T : Blt mg) (C_law_draw : Cal P w K mg base "_law_draw" 1 spDraw) (C_law_word : Cal P w K mg base "_law_word" 1 spWord2) (C_law_other : Cal P w K mg base "_law_other" 2 spOther) : FnOk P w K mg base CX0 3 f fd ["_law_pool_here", "_law_house"] spMenu := by
  refine F.ok sc_law_menu (fun vs H Q E h => ?_) (fun cdv A outer s H vs Q E hr h => ?_)
  · obtain ⟨_, _, rfl, _⟩ := h
    rfl
  · obtain ⟨p, h, rfl, hp, h1, h5, q⟩ := h
    refine ⟨_, ((pss_cons (ps_set (i := 2) sc_law_menu.nd rfl (Or.inl rfl) (pe_cc C_law_word hr (by decide) (by rfl) (pa_cons (pe_cc C_law_draw hr (by decide) (by rfl) (pa_cons (pv 0) (pa_cons pe_int pa_nil))) (pa_cons (pe_cc C_law_draw hr (by decide) (by rfl) (pa_cons (pv 0) (pa_cons pe_int pa_nil))) (pa_cons (pe_op op_add pe_int (pe_cc C_law_draw hr (by decide) (by rfl) (pa_cons (pv 0) (pa_cons pe_int pa_nil)))) pa_nil)))))
  (pss_cons (ps_set (i := 3) sc_law_menu.nd rfl (Or.inl rfl) (pe_lst (pa_cons (pv 2) (pa_cons (pe_cc C_law_other hr (by decide) (by rfl) (pa_cons (pv 0) (pa_cons (pv 2) pa_nil))) pa_nil))))
  (pss_cons (ps_set (i := 4) sc_law_menu.nd rfl (Or.inl rfl) (pe_cc C_law_draw hr (by decide) (by rfl) (pa_cons (pv 0) (pa_cons pe_int pa_nil))))
  (pss_cons (ps_set (i := 5) sc_law_menu.nd rfl (Or.inl rfl) (pe_op op_add (pe_op op_add (pv 4) pe_int) (pe_cc C_law_draw hr (by decide) (by rfl) (pa_cons (pv 0) (pa_cons pe_int pa_nil)))))
  (pss_cons (ps_set (i := 6) sc_law_menu.nd rfl (Or.inl rfl) (pe_op op_add (pe_op op_add (pv 4) pe_int) (pe_cc C_law_draw hr (by decide) (by rfl) (pa_cons (pv 0) (pa_cons pe_int pa_nil)))))
  (pss_cons (ps_set (i := 7) sc_law_menu.nd rfl (Or.inr rfl) (pe_op op_add pe_int (pe_cc C_law_draw hr (by decide) (by rfl) (pa_cons (pv 0) (pa_cons pe_int pa_nil)))))
  (pss_cons (ps_if (pt_cmpR op_eq (pv 1) pe_int (nomark _)) (pss_cons (ps_setLc (i := 10) (own := [("_law_k", 11)]) (g := gName 11)  rfl sc_law_menu.nd rfl rfl (sw_true rfl rfl rfl (by decide +kernel)) (pi_list (pe_lst (pa_cons (pv 4) (pa_cons (pv 5) (pa_cons (pv 6) pa_nil))))) (blkOk_by (own := [("_law_k", 11)]) (N := ["_law_pool_here", "_law_house", "_law_base", "_law_words", "_law_one", "_law_two", "_law_three", "_law_number", "_law_keys", "_law_word_here", "_law_purses", "_law_k", "_law_kind"]) (sc := defScope s_law_menu) (by decide +kernel)) (fun _ _ _ _ _ => (pg_name (i := 11) sc_law_menu.nd rfl (Or.inl rfl))) (fun _ _ _ _ _ => pts_nil) (fun _ _ _ _ _ => (pe_tup (pa_cons pe_int (pa_cons pe_str (pa_cons (pe_op op_add pe_int (pe_op op_mod (pe_callTy call_int1 (by rfl) T.int B_int (pa_cons (pv 11) pa_nil)) pe_int)) pa_nil))))))
  (pss_one (ps_ret (pe_callB cr_sortedKs (by rfl) T.sorted B_sorted (pa_cons (pe_op op_cat (pv 10) (pe_lst (pa_cons (pe_tup (pa_cons pe_int (pa_cons pe_str pa_nil))) (pa_cons (pe_tup (pa_cons pe_int (pa_cons pe_str pa_nil))) (pa_cons (pe_tup (pa_cons pe_int (pa_cons pe_str pa_nil))) pa_nil))))) pa_nil))))) pss_nil)
  (pss_cons (ps_set (i := 8) sc_law_menu.nd rfl (Or.inl rfl) (pe_lst pa_nil))
  (pss_cons (ps_for PassesOwn.never rfl (pi_list (pv 3)) (pg_name (i := 9) sc_law_menu.nd rfl (Or.inr rfl))
  (pss_one (ps_if (pt_cmpR op_eq (pv 1) pe_int (nomark _)) (pss_one (ps_set (i := 8) sc_law_menu.nd rfl (Or.inl rfl) (pe_op op_cat (pv 8) (pe_lc (own := [("_law_kind", 12)]) (g := gName 12)  rfl sc_law_menu.nd (pi_list (pe_lst (pa_cons pe_str (pa_cons pe_str (pa_cons pe_str pa_nil))))) (blkOk_by (own := [("_law_kind", 12)]) (N := ["_law_pool_here", "_law_house", "_law_base", "_law_words", "_law_one", "_law_two", "_law_three", "_law_number", "_law_keys", "_law_word_here", "_law_purses", "_law_k", "_law_kind"]) (sc := defScope s_law_menu) (by decide +kernel)) (fun _ _ _ _ _ => (pg_name (i := 12) sc_law_menu.nd rfl (Or.inl rfl))) (fun _ _ _ _ _ => pts_nil) (fun _ _ _ _ _ => (pe_tup (pa_cons pe_int (pa_cons (pv 12) (pa_cons (pv 9) pa_nil))))))))) (pss_one (ps_set (i := 8) sc_law_menu.nd rfl (Or.inl rfl) (pe_op op_cat (pv 8) (pe_lc (own := [("_law_kind", 12)]) (g := gName 12)  rfl sc_law_menu.nd (pi_list (pe_lst (pa_cons pe_str (pa_cons pe_str (pa_cons pe_str (pa_cons pe_str pa_nil)))))) (blkOk_by (own := [("_law_kind", 12)]) (N := ["_law_pool_here", "_law_house", "_law_base", "_law_words", "_law_one", "_law_two", "_law_three", "_law_number", "_law_keys", "_law_word_here", "_law_purses", "_law_k", "_law_kind"]) (sc := defScope s_law_menu) (by decide +kernel)) (fun _ _ _ _ _ => (pg_name (i := 12) sc_law_menu.nd rfl (Or.inl rfl))) (fun _ _ _ _ _ => pts_nil) (fun _ _ _ _ _ => (pe_tup (pa_cons (pv 1) (pa_cons (pv 12) (pa_cons (pv 9) pa_nil))))))))))))
  (pss_cons (ps_if (pt_cmpR op_eq (pv 1) pe_int (nomark _)) (pss_cons (ps_set (i := 8) sc_law_menu.nd rfl (Or.inl rfl) (pe_op op_cat (pv 8) (pe_lst (pa_cons (pe_tup (pa_cons pe_int (pa_cons pe_str pa_nil))) (pa_cons (pe_tup (pa_cons pe_int (pa_cons pe_str (pa_cons (pe_op op_mod (pe_callTy call_int1 (by rfl) T.int B_int (pa_cons (pv 4) pa_nil)) pe_int) (pa_cons (pv 7) pa_nil))))) (pa_cons (pe_tup (pa_cons pe_int (pa_cons pe_str (pa_cons (pe_op op_mod (pe_callTy call_int1 (by rfl) T.int B_int (pa_cons (pv 4) pa_nil)) pe_int) (pa_cons (pe_op op_add (pv 7) pe_int) pa_nil))))) pa_nil))))))
  (pss_one (ps_set (i := 8) sc_law_menu.nd rfl (Or.inl rfl) (pe_op op_cat (pe_op op_cat (pv 8) (pe_lc (own := [("_law_k", 11)]) (g := gName 11)  rfl sc_law_menu.nd (pi_list (pe_lst (pa_cons (pv 4) (pa_cons (pv 5) pa_nil)))) (blkOk_by (own := [("_law_k", 11)]) (N := ["_law_pool_here", "_law_house", "_law_base", "_law_words", "_law_one", "_law_two", "_law_three", "_law_number", "_law_keys", "_law_word_here", "_law_purses", "_law_k", "_law_kind"]) (sc := defScope s_law_menu) (by decide +kernel)) (fun _ _ _ _ _ => (pg_name (i := 11) sc_law_menu.nd rfl (Or.inl rfl))) (fun _ _ _ _ _ => pts_nil) (fun _ _ _ _ _ => (pe_tup (pa_cons pe_int (pa_cons pe_str (pa_cons (pe_op op_add pe_int (pe_op op_mod (pe_callTy call_int1 (by rfl) T.int B_int (pa_cons (pv 11) pa_nil)) pe_int)) (pa_cons (pv 7) pa_nil)))))))) (pe_lst (pa_cons (pe_tup (pa_cons pe_int (pa_cons pe_str (pa_cons (pe_op op_mod (pe_callTy call_int1 (by rfl) T.int B_int (pa_cons (pv 5) pa_nil)) pe_int) (pa_cons (pv 7) pa_nil))))) pa_nil)))))) pss_nil)
  (pss_one (ps_ret (pe_callB cr_sortedKs (by rfl) T.sorted B_sorted (pa_cons (pv 8) pa_nil))))))))))))))), ?_⟩
    refine ⟨_, rfl, p, 2520, rfl, hp, by decide, fun d1 H1 d10 d11 b1 hp1 => ?_⟩
    refine ⟨_, rfl, p, 2520, rfl, hp1, by decide, fun d2 H2 d20 d21 b2 hp2 => ?_⟩
    refine ⟨_, rfl, p, 8, rfl, hp2, by decide, fun d3 H3 d30 d31 b3 hp3 => ?_⟩
    refine ⟨_, _, rfl, rfl, ?_⟩
    refine ⟨_, _, _, rfl, d10, d11, d20, d21, by omega, by omega, fun x H4 b4 hx => ?_⟩
    have hp4 := hp3.bt b4 (fun z => nomatch z)
    have b04 : Bt [p] H H4 := ((b1.trans b2).trans b3).trans b4.nil
    clear b1 b2 b3 b4 hp1 hp2 hp3
    refine ⟨_, rfl, _, rfl, _, rfl, p, x, rfl, hp4, hx, fun y H5 b5 hp5 hy nyx => ?_⟩
    refine ⟨by show 2 ≤ sizeLine; decide, fun lw nw => ?_⟩
    generalize e6 : upd _ lw _ = H6
    obtain ⟨S6, h6⟩ := new_of e6 nw
    clear e6
    have b06 := (b04.trans b5).trans S6.nil
    have hp6 := hp5.bt S6 (fun z => nomatch z)
    refine ⟨_, rfl, p, 9, rfl, hp6, by decide, fun o1 H7 o10 o11 b7 hp7 => ?_⟩
    refine ⟨_, rfl, _, _, rfl, rfl, ?_⟩
    refine ⟨_, rfl, p, 4, rfl, hp7, by decide, fun e1 H8 e10 e11 b8 hp8 => ?_⟩
    refine ⟨_, _, rfl, rfl, ?_⟩
    refine ⟨_, rfl, _, _, rfl, rfl, ?_⟩
    refine ⟨_, rfl, p, 4, rfl, hp8, by decide, fun e2 H9 e20 e21 b9 hp9 => ?_⟩
    refine ⟨_, _, rfl, rfl, ?_⟩
    refine ⟨_, rfl, p, 998, rfl, hp9, by decide, fun e3 H10 e30 e31 b10 hp10 => ?_⟩
    refine ⟨_, _, rfl, rfl, ?_⟩
    have npw : p ≠ lw := hp5.nen nw
    have b610 : Bt [p] H6 H10 := ((b7.trans b8).trans b9).trans b10
    have hw : H10 lw = some (.lst [.str x, .str y]) := b610.at1 npw.symm h6
    have b0 : Bt [p] H H10 := b06.trans b610
    clear b7 b8 b9 b10 hp7 hp8 hp9 hp5 hp6 b5 S6 b06 b610 h6 hp4 b04
    have hfr : ∀ {l : Addr} {H' : Hp}, Bt [] H10 H' → H' l = none → H l = none := fun {l H'} b n => fresh_back (b0.trans b.nil) (fun a m => by
      obtain ⟨ns, z, _⟩ := hp10
      rw [List.mem_singleton.mp m, b.at z]
      exact fun z => nomatch z) n
    refine ⟨_, rfl, rfl, _, rfl, iteD2 (fun z => ?_) (fun z => ?_)⟩
    · have eh : h = 5 := V.int.inj z
      subst eh
      refine ⟨_, rfl, _, rfl, _, rfl, by show 3 ≤ sizeLine; decide, fun l3 n3 => ?_⟩
      generalize e11 : upd _ l3 _ = H11
      obtain ⟨S11, h11⟩ := new_of e11 n3
      clear e11
      refine ⟨l3, rfl, ⟨_, .inl (.inl h11)⟩, fun D nD => ?_⟩
      refine lcD (walk_list (K := K) (xs := [o1, o1 + 1 + e1, o1 + 5 + e2].map V.int)) nD (fun H b => b.sqL (.inl (.inl h11))) (by show 3 ≤ 100000; decide) (fun i => ([o1, o1 + 1 + e1, o1 + 5 + e2].take i).map fun k => kyD 5 (.purse, [.inl (1 + k % 9)])) rfl ?_ ?_
      · intro i v H12 hv b12 N1 N2 k1 k2
        obtain ⟨n, en, rfl⟩ := ints_get hv
        refine ⟨rfl, ?_⟩
        refine ⟨_, rfl, .inl ⟨_, rfl, ?_⟩⟩
        refine ⟨_, _, rfl, rfl, (by show (0 : Int) < 9; decide), _, _, rfl, rfl, ?_⟩
        refine ⟨by show 3 ≤ sizeLine; decide, fun t nt => ?_⟩
        generalize e13 : upd _ t _ = H13
        obtain ⟨S13, h13⟩ := new_of e13 nt
        clear e13
        exact k1 _ H13 _ S13 (kyd1 (n := .purse) h13) (take_map _ en)
      · intro H12 zs b12 hD tz
        refine ⟨_, rfl, ?_⟩
        refine ⟨by show 2 ≤ sizeLine; decide, fun t1 nt1 => ?_⟩
        generalize e13 : upd _ t1 _ = H13
        obtain ⟨S13, h13⟩ := new_of e13 nt1
        clear e13
        refine ⟨by show 2 ≤ sizeLine; decide, fun t2 nt2 => ?_⟩
        generalize e14 : upd _ t2 _ = H14
        obtain ⟨S14, h14⟩ := new_of e14 nt2
        clear e14
        refine ⟨by show 2 ≤ sizeLine; decide, fun t3 nt3 => ?_⟩
        generalize e15 : upd _ t3 _ = H15
        obtain ⟨S15, h15⟩ := new_of e15 nt3
        clear e15
        refine ⟨by show 3 ≤ sizeLine; decide, fun l4 nl4 => ?_⟩
        generalize e16 : upd _ l4 _ = H16
        obtain ⟨S16, h16⟩ := new_of e16 nl4
        clear e16
        have b1216 := ((S13.trans S14).trans S15).trans S16
        refine ⟨D, l4, _, _, rfl, rfl, b1216.at hD, h16, sz_le (by rw [tz.len]; simp), fun l5 nl5 => ?_⟩
        generalize e17 : upd _ l5 _ = H17
        obtain ⟨S17, h17⟩ := new_of e17 nl5
        clear e17
        have tall : TdA H17 (zs ++ [.ref t1, .ref t2, .ref t3]) (((L5 (1 + o1 % 9) (1 + (o1 + 1 + e1) % 9) (1 + (o1 + 5 + e2) % 9)).map (ky 5)).map kD) := by
          refine TdA.app (es := [kyD 5 (.kept, []), kyD 5 (.paid, []), kyD 5 (.till, [])]) (ds := [kyD 5 (.purse, [.inl (1 + o1 % 9)]), kyD 5 (.purse, [.inl (1 + (o1 + 1 + e1) % 9)]), kyD 5 (.purse, [.inl (1 + (o1 + 5 + e2) % 9)])]) ((tz.bt b1216).bt S17) ?_
          exact .cons (kyd0 (n := .kept) (S17.at (S16.at (S15.at (S14.at h13))))) (.cons (kyd0 (n := .paid) (S17.at (S16.at (S15.at h14)))) (.cons (kyd0 (n := .till) (S17.at (S16.at h15))) .nil))
        have mr : MenuR 5 (L5 (1 + o1 % 9) (1 + (o1 + 1 + e1) % 9) (1 + (o1 + 5 + e2) % 9)) := menu5 (by omega) (by omega) (by omega) (by omega) (by omega) (by omega)
        have hok : ∀ k ∈ (L5 (1 + o1 % 9) (1 + (o1 + 1 + e1) % 9) (1 + (o1 + 5 + e2) % 9)).map (ky 5), KeyOk 5 k := fun k m => by
          obtain ⟨q, m1, m2⟩ := List.mem_map.mp m
          obtain ⟨a1, a2⟩ := mr.ok q m1
          exact ⟨q.1, q.2, m2.symm, a1, a2⟩
        refine ⟨l5, _, kOf H17, rfl, .inl (.inl h17), sort_keys tall hok, fun ys l6 hs hperm n6 => ?_⟩
        generalize e18 : upd _ l6 _ = H18
        obtain ⟨S18, h18⟩ := new_of e18 n6
        clear e18
        obtain ⟨r1, r2, r3⟩ := sort_out tall (fun k m => (hok k m).ok) hs hperm
        have ball : Bt [] H10 H17 := (S11.trans b12).trans (b1216.trans S17)
        exact q l6 _ H18 (hfr ball n6) (b0.trans (ball.trans S18).nil) (hp10.bt (ball.trans S18) (fun z => nomatch z)) (mr.menu r2 r3) ⟨ys, h18, r1.bt S18⟩
    · have hne : h ≠ 5 := fun e => z (by rw [e])
      have hxo := hx.ok
      have hyo := hy.ok
      refine ⟨by show 0 ≤ sizeLine; decide, fun l0 nl0 => ?_⟩
      generalize e11 : upd _ l0 _ = H11
      obtain ⟨S11, h11⟩ := new_of e11 nl0
      clear e11
      refine ⟨_, rfl, lw, rfl, ⟨_, .inl (.inl (S11.at hw))⟩, ?_⟩
      refine for_list (K := K) (a := lw) (xs := [x, y].map V.str) (fun i σ H12 => ∃ (l : Addr) (zs : List V) (u9 u10 u11 u12 : Option V), σ = [some (.ref p), some (.int h), some (.str x), some (.ref lw), some (.int o1), some (.int (o1 + 1 + e1)), some (.int (o1 + 5 + e2)), some (.int (1 + e3)), some (.ref l), u9, u10, u11, u12] ∧
          Bt [] H10 H12 ∧ H12 l = some (.lst zs) ∧ TdA H12 zs (((wordL h ([x, y].take i)).map (ky h)).map kD) ∧ zs.length ≤ 4 * i)
        ⟨l0, [], none, none, none, none, rfl, S11, h11, .nil, Nat.le_refl _⟩ (fun i σ H12 _ hp => ?_) ?_ ?_
      · obtain ⟨_, _, _, _, _, _, _, b12, _⟩ := hp
        exact .inl (.inl (b12.at hw))
      · rintro i v σ H12 hv ⟨l, zs, u9, u10, u11, u12, rfl, b12, hl, tz, zl⟩
        obtain ⟨ww, ew, rfl⟩ : ∃ ww : Str, [x, y][i]? = some ww ∧ v = .str ww := by
          rw [List.getElem?_map] at hv
          cases e : [x, y][i]? with
          | none => rw [e] at hv; cases hv
          | some n =>
            rw [e] at hv
            cases hv
            exact ⟨n, rfl, rfl⟩
        have i2 : i < 2 := (List.getElem?_eq_some_iff.mp ew).1
        have hwo : PyData.strOk ww = true := by
          have := List.mem_of_getElem? ew
          simp only [List.mem_cons, List.not_mem_nil, or_false] at this
          rcases this with e | e <;> rw [e] <;> assumption
        have etake : wordL h ([x, y].take (i + 1)) = wordL h ([x, y].take i) ++ (wNames h).map fun n => (n, [.inr ww]) := by
          unfold wordL
          rw [List.take_add_one, ew, Option.toList_some, List.flatMap_append, List.flatMap_singleton]
        refine ⟨_, rfl, rfl, _, rfl, iteD2 (fun z1 => ?_) (fun z1 => ?_)⟩
        · have eh : h = 1 := V.int.inj z1
          subst eh
          refine ⟨_, rfl, ?_⟩
          refine ⟨by show 3 ≤ sizeLine; decide, fun l3 n3 => ?_⟩
          generalize e13 : upd _ l3 _ = H13
          obtain ⟨S13, h13⟩ := new_of e13 n3
          clear e13
          refine ⟨l3, rfl, ⟨_, .inl (.inl h13)⟩, fun D nD => ?_⟩
          refine lcD (walk_list (K := K) (xs := [Nm.away, .coupon, .price].map fun n : Nm => V.str n.s)) nD (fun H b => b.sqL (.inl (.inl h13))) (by decide) (fun i => ([Nm.away, .coupon, .price].take i).map fun n => kyD 1 (n, [.inr ww])) rfl ?_ ?_
          · intro j v H14 hv b14 N1 N2 k1 k2
            obtain ⟨n, en, rfl⟩ := nms_get hv
            refine ⟨rfl, ?_⟩
            refine ⟨_, rfl, _, rfl, by show 3 ≤ sizeLine; decide, fun t nt => ?_⟩
            generalize e15 : upd _ t _ = H15
            obtain ⟨S15, h15⟩ := new_of e15 nt
            clear e15
            exact k1 _ H15 _ S15 (kydw hwo h15) (take_map _ en)
          · intro H14 cs b14 hD tc
            have bb := S13.trans b14
            refine ⟨l, D, _, _, rfl, rfl, bb.at hl, hD, sz_le (by rw [tc.len]; show zs.length + 3 ≤ _; omega), fun l5 n5 => ?_⟩
            generalize e15 : upd _ l5 _ = H15
            obtain ⟨S15, h15⟩ := new_of e15 n5
            clear e15
            refine ⟨l5, _, _, _, _, _, rfl, b12.trans (bb.trans S15), h15, ?_, by rw [List.length_append, tc.len]; show zs.length + 3 ≤ _; omega⟩
            rw [etake, List.map_append, List.map_append]
            exact ((tz.bt bb).app tc).bt S15
        · have h1' : h ≠ 1 := fun e => z1 (by rw [e])
          have ewn : wNames h = [.came, .free, .held, .out] := if_neg h1'
          refine ⟨_, rfl, ?_⟩
          refine ⟨by show 4 ≤ sizeLine; decide, fun l3 n3 => ?_⟩
          generalize e13 : upd _ l3 _ = H13
          obtain ⟨S13, h13⟩ := new_of e13 n3
          clear e13
          refine ⟨l3, rfl, ⟨_, .inl (.inl h13)⟩, fun D nD => ?_⟩
          refine lcD (walk_list (K := K) (xs := [Nm.came, .free, .held, .out].map fun n : Nm => V.str n.s)) nD (fun H b => b.sqL (.inl (.inl h13))) (by decide) (fun i => ([Nm.came, .free, .held, .out].take i).map fun n => kyD h (n, [.inr ww])) rfl ?_ ?_
          · intro j v H14 hv b14 N1 N2 k1 k2
            obtain ⟨n, en, rfl⟩ := nms_get hv
            refine ⟨rfl, ?_⟩
            refine ⟨_, rfl, _, rfl, _, rfl, by show 3 ≤ sizeLine; decide, fun t nt => ?_⟩
            generalize e15 : upd _ t _ = H15
            obtain ⟨S15, h15⟩ := new_of e15 nt
            clear e15
            exact k1 _ H15 _ S15 (kydw hwo h15) (take_map _ en)
          · intro H14 cs b14 hD tc
            have bb := S13.trans b14
            refine ⟨l, D, _, _, rfl, rfl, bb.at hl, hD, sz_le (by rw [tc.len]; show zs.length + 4 ≤ _; omega), fun l5 n5 => ?_⟩
            generalize e15 : upd _ l5 _ = H15
            obtain ⟨S15, h15⟩ := new_of e15 n5
            clear e15
            refine ⟨l5, _, _, _, _, _, rfl, b12.trans (bb.trans S15), h15, ?_, by rw [List.length_append, tc.len]; show zs.length + 4 ≤ _; omega⟩
            rw [etake, List.map_append, List.map_append, ewn]
            exact ((tz.bt bb).app tc).bt S15
      · rintro σ H12 ⟨l, zs, u9, u10, u11, u12, rfl, b12, hl, tz, zl⟩
        have zl : zs.length ≤ 8 := zl
        have tz : TdA H12 zs (((wordL h [x, y]).map (ky h)).map kD) := tz
        have fin : ∀ (L : List (Nm × List Key)) (ln : Addr) (cs : List V) (H17 : Hp), MenuR h L → Bt [] H10 H17 → H17 ln = some (.lst cs) → TdA H17 cs ((L.map (ky h)).map kD) → rSortedKs K [.ref ln] H17 Q := by
          intro L ln cs H17 mr ball h17 tall
          have hok : ∀ k ∈ L.map (ky h), KeyOk h k := fun k m => by
            obtain ⟨q, m1, m2⟩ := List.mem_map.mp m
            obtain ⟨a1, a2⟩ := mr.ok q m1
            exact ⟨q.1, q.2, m2.symm, a1, a2⟩
          refine ⟨ln, _, kOf H17, rfl, .inl (.inl h17), sort_keys tall hok, fun ys l6 hs hperm n6 => ?_⟩
          generalize e18 : upd _ l6 _ = H18
          obtain ⟨S18, h18⟩ := new_of e18 n6
          clear e18
          obtain ⟨r1, r2, r3⟩ := sort_out tall (fun k m => (hok k m).ok) hs hperm
          exact q l6 _ H18 (hfr ball n6) (b0.trans (ball.trans S18).nil) (hp10.bt (ball.trans S18) (fun z => nomatch z)) (mr.menu r2 r3) ⟨ys, h18, r1.bt S18⟩
        refine ⟨_, rfl, rfl, _, rfl, iteD2 (fun z1 => ?_) (fun z1 => ?_)⟩
        · have eh : h = 1 := V.int.inj z1
          subst eh
          refine ⟨_, rfl, ?_⟩
          refine ⟨by show 2 ≤ sizeLine; decide, fun t1 nt1 => ?_⟩
          generalize e13 : upd _ t1 _ = H13
          obtain ⟨S13, h13⟩ := new_of e13 nt1
          clear e13
          refine ⟨_, rfl, .inl ⟨_, rfl, ?_⟩⟩
          refine ⟨_, _, rfl, rfl, (by show (0 : Int) < 10; decide), _, rfl, ?_⟩
          refine ⟨by show 4 ≤ sizeLine; decide, fun t2 nt2 => ?_⟩
          generalize e14 : upd _ t2 _ = H14
          obtain ⟨S14, h14⟩ := new_of e14 nt2
          clear e14
          refine ⟨_, rfl, .inl ⟨_, rfl, ?_⟩⟩
          refine ⟨_, _, rfl, rfl, (by show (0 : Int) < 10; decide), _, rfl, _, _, rfl, rfl, ?_⟩
          refine ⟨by show 4 ≤ sizeLine; decide, fun t3 nt3 => ?_⟩
          generalize e15 : upd _ t3 _ = H15
          obtain ⟨S15, h15⟩ := new_of e15 nt3
          clear e15
          refine ⟨by show 3 ≤ sizeLine; decide, fun l4 nl4 => ?_⟩
          generalize e16 : upd _ l4 _ = H16
          obtain ⟨S16, h16⟩ := new_of e16 nl4
          clear e16
          have b1216 := ((S13.trans S14).trans S15).trans S16
          refine ⟨l, l4, _, _, rfl, rfl, b1216.at hl, h16, sz_le (by show zs.length + 3 ≤ _; omega), fun l5 nl5 => ?_⟩
          generalize e17 : upd _ l5 _ = H17
          obtain ⟨S17, h17⟩ := new_of e17 nl5
          clear e17
          have b1217 := b1216.trans S17
          have ta : TdA H17 (zs ++ [.ref t1, .ref t2, .ref t3]) ((((wordL 1 [x, y]).map (ky 1)).map kD) ++ [kyD 1 (.rate, []), kyD 1 (.road, [.inl (o1 % 10), .inl (1 + e3)]), kyD 1 (.road, [.inl (o1 % 10), .inl (1 + e3 + 1)])]) :=
            (tz.bt b1217).app (.cons (kyd0 (n := .rate) (S17.at (S16.at (S15.at (S14.at h13))))) (.cons (kyd2 (n := .road) (S17.at (S16.at (S15.at h14)))) (.cons (kyd2 (n := .road) (S17.at (S16.at h15))) .nil)))
          refine ⟨_, rfl, ?_⟩
          refine ⟨_, rfl, _, rfl, by show 2 ≤ sizeLine; decide, fun l6 n6 => ?_⟩
          generalize e18 : upd _ l6 _ = H18
          obtain ⟨S18, h18⟩ := new_of e18 n6
          clear e18
          refine ⟨l6, rfl, ⟨_, .inl (.inl h18)⟩, fun D nD => ?_⟩
          refine lcD (walk_list (K := K) (xs := [o1, o1 + 1 + e1].map V.int)) nD (fun H b => b.sqL (.inl (.inl h18))) (by show 2 ≤ 100000; decide) (fun i => ([o1, o1 + 1 + e1].take i).map fun k => kyD 1 (.order, [.inl (1 + k % 9), .inl (1 + e3)])) rfl ?_ ?_
          · intro j v H19 hv b19 N1 N2 k1 k2
            obtain ⟨n, en, rfl⟩ := ints_get hv
            refine ⟨rfl, ?_⟩
            refine ⟨_, rfl, .inl ⟨_, rfl, ?_⟩⟩
            refine ⟨_, _, rfl, rfl, (by show (0 : Int) < 9; decide), _, _, rfl, rfl, _, rfl, ?_⟩
            refine ⟨by show 4 ≤ sizeLine; decide, fun t nt => ?_⟩
            generalize e20 : upd _ t _ = H20
            obtain ⟨S20, h20⟩ := new_of e20 nt
            clear e20
            exact k1 _ H20 _ S20 (kyd2 (n := .order) h20) (take_map _ en)
          · intro H19 cs b19 hD tc
            have b1719 := S18.trans b19
            refine ⟨l5, D, _, _, rfl, rfl, b1719.at h17, hD, sz_le (by rw [tc.len, List.length_append]; show zs.length + 3 + 2 ≤ _; omega), fun l7 n7 => ?_⟩
            generalize e20 : upd _ l7 _ = H20
            obtain ⟨S20, h20⟩ := new_of e20 n7
            clear e20
            refine ⟨_, rfl, .inl ⟨_, rfl, ?_⟩⟩
            refine ⟨_, _, rfl, rfl, (by show (0 : Int) < 10; decide), _, rfl, ?_⟩
            refine ⟨by show 4 ≤ sizeLine; decide, fun t4 nt4 => ?_⟩
            generalize e21 : upd _ t4 _ = H21
            obtain ⟨S21, h21⟩ := new_of e21 nt4
            clear e21
            refine ⟨by show 1 ≤ sizeLine; decide, fun l8 n8 => ?_⟩
            generalize e22 : upd _ l8 _ = H22
            obtain ⟨S22, h22⟩ := new_of e22 n8
            clear e22
            have b2022 := S21.trans S22
            refine ⟨l7, l8, _, _, rfl, rfl, b2022.at h20, h22, sz_le (by rw [List.length_append, tc.len, List.length_append]; show zs.length + 3 + 2 + 1 ≤ _; omega), fun l9 n9 => ?_⟩
            generalize e23 : upd _ l9 _ = H23
            obtain ⟨S23, h23⟩ := new_of e23 n9
            clear e23
            refine ⟨_, rfl, ?_⟩
            have b2023 := b2022.trans S23
            have tb := (((ta.bt b1719).app tc).bt (S20.trans b2023)).app (TdA.one (kyd2 (h := 1) (n := .road) (S23.at (S22.at h21))))
            exact fin (L1 x y (o1 % 10) ((o1 + 1 + e1) % 10) (1 + o1 % 9) (1 + (o1 + 1 + e1) % 9) (1 + e3)) l9 _ H23 (menu1 hx hy nyx (by omega) (by omega) (by omega) (by omega) (by omega) (by omega) (by omega) (by omega)) (b12.trans (b1217.trans (b1719.trans (S20.trans b2023)))) h23 tb
        · refine ⟨_, rfl, ?_⟩
          have h1' : h ≠ 1 := fun e => z1 (by rw [e])
          have ewl : wordL h [x, y] = LS x y := by
            unfold wordL wNames
            rw [if_neg h1']
            rfl
          rw [ewl] at tz
          exact fin (LS x y) l zs H12 (menuS (by omega) (by omega) hx hy nyx) b12 hl tz
end
end K33

/-! K19: the law's requests -/
namespace K33
open PySem L2
section
variable {P : Program} {w : World} {K : PySem.W.Frag} {mg : Str → Option Value} {base : Heap}
theorem in_fp (n : Nm) : inV (.str n.s) [.str Nm.free.s, .str Nm.purse.s] = (decide (n = .free) || decide (n = .purse)) := by cases n <;> decide +kernel
theorem in_ra (n : Nm) : inV (.str n.s) [.str Nm.rate.s, .str Nm.away.s] = (decide (n = .rate) || decide (n = .away)) := by cases n <;> decide +kernel
/-! ### first -/
theorem first_eq {h : Int} {n : Nm} {r : List Key} (at_ : n.at h) : fst0 (Sum.inl h :: Sum.inr n.s :: r) = !(decide (h = 1) && !inV (.str n.s) [.str Nm.rate.s, .str Nm.away.s]) := by
  unfold fst0 amt
  have e : nmOf (Sum.inl h :: Sum.inr n.s :: r) = n.s := rfl
  rw [e, show inV (.str n.s) recV = n.isRec from in_recs n, in_ra, Nm.s_eq]
  rcases at_ with ⟨o, rfl⟩ | ⟨o, h2, h4⟩ | ⟨o, o2, rfl⟩
  · revert o
    cases n <;> decide
  · have : decide (h = 1) = false := decide_eq_false (by omega)
    rw [this]
    revert o
    cases n <;> decide
  · revert o o2
    cases n <;> decide
abbrev s_law_first : Stmt := top 46
theorem sc_law_first : FnScope ["_law_key"] ["_law_key"] (defScope s_law_first) := ⟨rfl, rfl, rfl, by decide +kernel, rfl, by decide +kernel, by decide +kernel⟩
theorem ok_first {f : Addr} {fd : FuncData} (F : Fun K "_law_first" "_law_first" s_law_first f fd) : FnOk P w K mg base CX0 1 f fd ["_law_key"] spFirst := by
  refine F.ok sc_law_first (fun vs H Q E h => ?_) (fun cdv A outer s H vs Q E hr h => ?_)
  · obtain ⟨_, _, _, rfl, _⟩ := h
    rfl
  · obtain ⟨a, h, k, rfl, ha, hk, q⟩ := h
    obtain ⟨n, r, rfl, hn, hf⟩ := hk
    have hq : ∀ {H'}, Bt [] H H' → SqT K H' a ((Sum.inl h :: Sum.inr n.s :: r : List Key).map kV) := fun b => .inl (.inl (b.tup _ _ ha))
    refine ⟨_, ((pss_cons (ps_if (PW.pt (pw_and (pt_cmpR op_eq (pe_ix (ix_tupK (K := K) rfl) (pv 0) pe_int (fun _ _ => rfl)) pe_int (nomark _)) (pw_and1 (pt_cmpR (op_notIn_seqK (K := K) rfl) (pe_ix (ix_tupK (K := K) rfl) (pv 0) pe_int (fun _ _ => rfl)) (pe_lst (pa_cons pe_str (pa_cons pe_str pa_nil))) rfl)))) (pss_one (ps_ret pe_non)) pss_nil)
  (pss_one (ps_ret pe_int)))), ?_⟩
    have fe := first_eq (r := r) hn
    refine ⟨_, rfl, a, _, _, _, rfl, rfl, hq Bt.refl, atI_nat (j := 0) rfl, ?_⟩
    refine ⟨rfl, _, rfl, ?_⟩
    refine iteD2 (fun z => ?_) (fun z => ?_)
    · have eh : h = 1 := V.int.inj z
      refine ⟨_, rfl, a, _, _, _, rfl, rfl, hq Bt.refl, atI_nat (j := 1) rfl, ?_⟩
      refine ⟨by show 2 ≤ sizeLine; decide, fun l nl => ?_⟩
      generalize e1 : upd _ l _ = H1
      obtain ⟨S1, h1⟩ := new_of e1 nl
      clear e1
      refine ⟨l, _, rfl, .inl (.inl (.inl h1)), rfl, rfl, ?_⟩
      have q1 := q H1 S1
      unfold fvV at q1
      rw [fe, decide_eq_true eh, Bool.true_and, Bool.not_not] at q1
      refine ⟨_, rfl, ite1 (fun e => ?_) (fun e => ?_)⟩
      · have e' : inV (.str n.s) [.str Nm.rate.s, .str Nm.away.s] = false := by
          have e2 : (!inV (.str n.s) [.str Nm.rate.s, .str Nm.away.s]) = true := e
          simpa using e2
        rw [e'] at q1
        exact q1
      · have e' : inV (.str n.s) [.str Nm.rate.s, .str Nm.away.s] = true := by
          have e2 : (!inV (.str n.s) [.str Nm.rate.s, .str Nm.away.s]) = false := e
          simpa using e2
        rw [e'] at q1
        exact q1
    · have q1 := q H Bt.refl
      unfold fvV at q1
      rw [fe, decide_eq_false (fun e => z (by rw [e]; rfl)), Bool.false_and] at q1
      exact q1
/-! ### mode -/
def spMode : Sp := fun vs H Q _ => ∃ (p a : Addr) (v : V) (h : Int) (k : List Key), vs = [.ref p, .ref a, v] ∧ PoolAt H p ∧ H a = some (.tup (k.map kV)) ∧ KeyOk h k ∧ (amt k = true → ∃ i, v = .int i) ∧
  ∀ t md many H', Bt [p] H H' → PoolAt H' p → H' t = some (.tup [.str (Md.s md), .int many]) → RqOk h ⟨k, md, many⟩ → Q (.ref t) H'
abbrev s_law_mode : Stmt := top 44
theorem sc_law_mode : FnScope ["_law_pool_here", "_law_key", "_law_value", "_law_way", "_law_few"] ["_law_pool_here", "_law_key", "_law_value"] (defScope s_law_mode) := ⟨rfl, rfl, rfl, by decide +kernel, rfl, by decide +kernel, by decide +kernel⟩
theorem ok_mode {f : Addr} {fd : FuncData} (F : Fun K "_law_mode" "_law_mode" s_law_mode f fd) (T : Blt mg) (C_law_draw : Cal P w K mg base "_law_draw" 1 spDraw) : FnOk P w K mg base CX0 2 f fd ["_law_pool_here", "_law_key", "_law_value"] spMode := by
  refine F.ok sc_law_mode (fun vs H Q E h => ?_) (fun cdv A outer s H vs Q E hr h => ?_)
  · obtain ⟨_, _, _, _, _, rfl, _⟩ := h
    rfl
  · obtain ⟨p, a, v, h, k, rfl, hp, ha, hk, hv, q⟩ := h
    have hk0 := hk
    obtain ⟨n, r, hkn⟩ := hk
    have hamt := hkn.amt
    obtain ⟨rfl, hn, hf⟩ := hkn
    have hq : ∀ {H'}, Bt [p] H H' → SqT K H' a ((Sum.inl h :: Sum.inr n.s :: r : List Key).map kV) := fun b => .inl (.inl (b.tup _ _ ha))
    refine ⟨_, ((pss_cons (ps_if (pt_cmpR (op_in_seqK (K := K) rfl) (pe_ix (ix_tupK (K := K) rfl) (pv 1) pe_int (fun _ _ => rfl)) (pe_lst (pa_cons pe_str (pa_cons pe_str (pa_cons pe_str (pa_cons pe_str (pa_cons pe_str pa_nil)))))) rfl) (pss_one (ps_ret (pe_tup (pa_cons (pe_ix (ix_listK (K := K) rfl) (pe_lst (pa_cons pe_str (pa_cons pe_str (pa_cons pe_str pa_nil)))) (pe_cc C_law_draw hr (by decide) (by rfl) (pa_cons (pv 0) (pa_cons pe_int pa_nil))) (fun _ _ => rfl)) (pa_cons pe_int pa_nil))))) pss_nil)
  (pss_cons (ps_if (pt_cmpR (op_notIn_seqK (K := K) rfl) (pe_ix (ix_tupK (K := K) rfl) (pv 1) pe_int (fun _ _ => rfl)) (pe_lst (pa_cons pe_str (pa_cons pe_str pa_nil))) rfl) (pss_one (ps_ret (pe_tup (pa_cons (pe_ix (ix_listK (K := K) rfl) (pe_lst (pa_cons pe_str (pa_cons pe_str (pa_cons pe_str pa_nil)))) (pe_cc C_law_draw hr (by decide) (by rfl) (pa_cons (pv 0) (pa_cons pe_int pa_nil))) (fun _ _ => rfl)) (pa_cons pe_int pa_nil))))) pss_nil)
  (pss_cons (ps_set (i := 3) sc_law_mode.nd rfl (Or.inl rfl) (pe_cc C_law_draw hr (by decide) (by rfl) (pa_cons (pv 0) (pa_cons pe_int pa_nil))))
  (pss_cons (ps_set (i := 4) sc_law_mode.nd rfl (Or.inl rfl) (pe_op op_add pe_int (pe_cc C_law_draw hr (by decide) (by rfl) (pa_cons (pv 0) (pa_cons pe_int pa_nil)))))
  (pss_cons (ps_if (pt_cmpR op_lt (pv 3) pe_int (nomark _)) (pss_one (ps_ret (pe_tup (pa_cons (pe_ix (ix_listK (K := K) rfl) (pe_lst (pa_cons pe_str (pa_cons pe_str pa_nil))) (pv 3) (fun _ _ => rfl)) (pa_cons pe_int pa_nil))))) pss_nil)
  (pss_one (ps_ret (pe_tup (pa_cons pe_str (pa_cons (pe_ix (ix_listK (K := K) rfl) (pe_lst (pa_cons pe_int (pa_cons (pv 4) (pa_cons (pe_callB (call_max2 rfl) (by rfl) T.max B_max (pa_cons pe_int (pa_cons (pe_op op_fdiv (pv 2) pe_int) pa_nil))) (pa_cons (pe_callB (call_max2 rfl) (by rfl) T.max B_max (pa_cons pe_int (pa_cons (pe_op op_add (pe_op op_sub (pv 2) pe_int) (pv 4)) pa_nil))) pa_nil))))) (pe_op op_sub (pv 3) pe_int) (fun _ _ => rfl)) pa_nil))))))))))), ?_⟩
    refine ⟨_, rfl, a, _, _, _, rfl, rfl, hq Bt.refl, atI_nat (j := 1) rfl, ?_⟩
    refine ⟨by show 5 ≤ sizeLine; decide, fun l1 nl1 => ?_⟩
    generalize e1 : upd _ l1 _ = H1
    obtain ⟨S1, h1⟩ := new_of e1 nl1
    clear e1
    refine ⟨l1, _, rfl, .inl (.inl (.inl h1)), rfl, rfl, ?_⟩
    have hp1 := hp.bt S1 (fun z => nomatch z)
    refine ⟨_, rfl, ite1 (fun e => ?_) (fun e => ?_)⟩
    · have er : n.isRec = true := (in_recs n).symm.trans e
      refine ⟨by show 3 ≤ sizeLine; decide, fun l2 nl2 => ?_⟩
      generalize e2 : upd _ l2 _ = H2
      obtain ⟨S2, h2⟩ := new_of e2 nl2
      clear e2
      have hp2 := hp1.bt S2 (fun z => nomatch z)
      refine ⟨_, rfl, p, 3, rfl, hp2, by decide, fun d H3 d0 d1 b3 hp3 => ?_⟩
      obtain ⟨u, hu2, eu⟩ := three_of (a := .str ("see" : Str)) (b := .str ("own" : Str)) (c := .str ("own" : Str)) d0 d1
      refine ⟨l2, _, _, _, rfl, rfl, .inl (.inl (b3.at1 (hp1.nen nl2).symm h2)), hu2, ?_⟩
      obtain ⟨md, rfl, hmd⟩ : ∃ md : Md, u = .str md.s ∧ (md = .see ∨ md = .own) := by
        rcases eu with e | e | e
        · exact ⟨.see, e, .inl rfl⟩
        · exact ⟨.own, e, .inr rfl⟩
        · exact ⟨.own, e, .inr rfl⟩
      refine ⟨by show 2 ≤ sizeLine; decide, fun t nt => ?_⟩
      generalize e4 : upd _ t _ = H4
      obtain ⟨S4, h4⟩ := new_of e4 nt
      clear e4
      refine q t md 0 H4 (((S1.trans S2).nil.trans b3).trans S4.nil) (hp3.bt S4 (fun z => nomatch z)) h4 ⟨hk0, fun _ => by show amt _ = _; rw [hamt, er]; rfl, fun z => ?_, fun z => ?_⟩
      · rcases hmd with m | m <;> subst m <;> cases z
      · rcases hmd with m | m <;> subst m <;> cases z
    · have er : n.isRec = false := (in_recs n).symm.trans e
      have eam : amt (Sum.inl h :: Sum.inr n.s :: r) = true := by rw [hamt, er]; rfl
      refine ⟨_, rfl, a, _, _, _, rfl, rfl, hq S1.nil, atI_nat (j := 1) rfl, ?_⟩
      refine ⟨by show 2 ≤ sizeLine; decide, fun l2 nl2 => ?_⟩
      generalize e2 : upd _ l2 _ = H2
      obtain ⟨S2, h2⟩ := new_of e2 nl2
      clear e2
      have hp2 := hp1.bt S2 (fun z => nomatch z)
      refine ⟨l2, _, rfl, .inl (.inl (.inl h2)), rfl, rfl, ?_⟩
      have sa : ∀ (md : Md) (u : V), (u = .str ("see" : Str) ∨ u = .str ("add" : Str)) → ∃ md : Md, u = .str md.s ∧ (md = .see ∨ md = .add) := by
        intro _ u hu
        rcases hu with e | e
        · exact ⟨.see, e, .inl rfl⟩
        · exact ⟨.add, e, .inr rfl⟩
      refine ⟨_, rfl, ite1 (fun e => ?_) (fun e => ?_)⟩
      · refine ⟨by show 3 ≤ sizeLine; decide, fun l3 nl3 => ?_⟩
        generalize e3 : upd _ l3 _ = H3
        obtain ⟨S3, h3⟩ := new_of e3 nl3
        clear e3
        have hp3 := hp2.bt S3 (fun z => nomatch z)
        refine ⟨_, rfl, p, 3, rfl, hp3, by decide, fun d H4 d0 d1 b4 hp4 => ?_⟩
        obtain ⟨u, hu2, eu⟩ := three_of (a := .str ("see" : Str)) (b := .str ("add" : Str)) (c := .str ("add" : Str)) d0 d1
        refine ⟨l3, _, _, _, rfl, rfl, .inl (.inl (b4.at1 (hp2.nen nl3).symm h3)), hu2, ?_⟩
        obtain ⟨md, rfl, hmd⟩ := sa .see u (by rcases eu with e | e | e; exact .inl e; exact .inr e; exact .inr e)
        refine ⟨by show 2 ≤ sizeLine; decide, fun t nt => ?_⟩
        generalize e5 : upd _ t _ = H5
        obtain ⟨S5, h5⟩ := new_of e5 nt
        clear e5
        refine q t md 0 H5 ((((S1.trans S2).trans S3).nil.trans b4).trans S5.nil) (hp4.bt S5 (fun z => nomatch z)) h5 ⟨hk0, fun z => ?_, fun _ => eam, fun _ => eam⟩
        rcases hmd with m | m <;> subst m <;> cases z
      · obtain ⟨i, rfl⟩ := hv eam
        refine ⟨_, rfl, p, 6, rfl, hp2, by decide, fun d H3 d0 d1 b3 hp3 => ?_⟩
        refine ⟨_, rfl, p, 9, rfl, hp3, by decide, fun d' H4 d'0 d'1 b4 hp4 => ?_⟩
        refine ⟨_, _, rfl, rfl, ?_⟩
        have b04 : Bt [p] H H4 := ((S1.trans S2).nil.trans b3).trans b4
        refine ⟨_, rfl, _, _, rfl, rfl, _, rfl, iteD2 (fun z => ?_) (fun z => ?_)⟩
        · refine ⟨by show 2 ≤ sizeLine; decide, fun l3 nl3 => ?_⟩
          generalize e5 : upd _ l3 _ = H5
          obtain ⟨S5, h5⟩ := new_of e5 nl3
          clear e5
          have hj : d = 0 ∨ d = 1 := by omega
          obtain ⟨u, hu2, eu⟩ := two_of (a := .str ("see" : Str)) (b := .str ("add" : Str)) hj
          refine ⟨_, rfl, l3, _, _, _, rfl, rfl, .inl (.inl h5), hu2, ?_⟩
          obtain ⟨md, rfl, hmd⟩ := sa .see u eu
          refine ⟨by show 2 ≤ sizeLine; decide, fun t nt => ?_⟩
          generalize e6 : upd _ t _ = H6
          obtain ⟨S6, h6⟩ := new_of e6 nt
          clear e6
          refine q t md 0 H6 (b04.trans (S5.trans S6).nil) (hp4.bt (S5.trans S6) (fun z => nomatch z)) h6 ⟨hk0, fun z => ?_, fun _ => eam, fun _ => eam⟩
          rcases hmd with m | m <;> subst m <;> cases z
        · refine ⟨_, rfl, ?_⟩
          refine ⟨_, rfl, _, _, rfl, rfl, ⟨by decide, by decide⟩, ?_⟩
          refine ⟨_, _, rfl, ?_⟩
          refine ⟨_, rfl, _, _, rfl, rfl, _, rfl, _, _, rfl, rfl, ?_⟩
          refine ⟨_, _, rfl, ?_⟩
          refine ⟨by show 4 ≤ sizeLine; decide, fun l3 nl3 => ?_⟩
          generalize e5 : upd _ l3 _ = H5
          obtain ⟨S5, h5⟩ := new_of e5 nl3
          clear e5
          refine ⟨_, rfl, _, _, rfl, rfl, ?_⟩
          obtain ⟨u, hu2, eu⟩ := four_of (a := .int 1) (b := .int (1 + d')) (c := .int (if i / 2 > 1 then i / 2 else 1)) (d := .int (if i - 1 + (1 + d') > 1 then i - 1 + (1 + d') else 1)) (j := d - 2) (by omega) (by omega)
          obtain ⟨many, rfl⟩ : ∃ many : Int, u = .int many := by
            rcases eu with e | e | e | e <;> exact ⟨_, e⟩
          refine ⟨l3, _, _, _, rfl, rfl, .inl (.inl h5), hu2, ?_⟩
          refine ⟨by show 2 ≤ sizeLine; decide, fun t nt => ?_⟩
          generalize e6 : upd _ t _ = H6
          obtain ⟨S6, h6⟩ := new_of e6 nt
          clear e6
          exact q t .take many H6 (b04.trans (S5.trans S6).nil) (hp4.bt (S5.trans S6) (fun z => nomatch z)) h6 ⟨hk0, fun z => (nomatch z), fun _ => eam, fun _ => eam⟩
/-! ### requests -/
def spRequests : Sp := fun vs H Q _ => ∃ (p lm dv : Addr) (h : Int) (ks : List (List Key)) (vals : Vs), vs = [.ref p, .ref lm, .ref dv] ∧ PoolAt H p ∧ p ≠ lm ∧ Menu h ks ∧ LsAt H lm (ks.map kD) ∧ DictAt H dv vals ∧ PrsOk h vals ∧
  ∀ v rs H', Bt [p] H H' → PoolAt H' p → rs ≠ [] → rs.length ≤ 100 → (∀ r ∈ rs, RqOk h r) → (∀ r ∈ rs, r.key ∈ ks) → Td H' v (reqsD rs) → Q v H'
abbrev s_law_requests : Stmt := top 45
theorem sc_law_requests : FnScope ["_law_pool_here", "_law_menu_here", "_law_values_here", "_law_mask", "_law_chosen", "_law_out", "_law_k", "_law_found"] ["_law_pool_here", "_law_menu_here", "_law_values_here"] (defScope s_law_requests) := ⟨rfl, rfl, rfl, by decide +kernel, rfl, by decide +kernel, by decide +kernel⟩
theorem ok_requests {f : Addr} {fd : FuncData} (F : Fun K "_law_requests" "_law_requests" s_law_requests f fd) (T : Blt mg) (C_law_draw : Cal P w K mg base "_law_draw" 1 spDraw) (C_law_mode : Cal P w K mg base "_law_mode" 2 spMode) : FnOk P w K mg base CX0 3 f fd ["_law_pool_here", "_law_menu_here", "_law_values_here"] spRequests := by
  refine F.ok sc_law_requests (fun vs H Q E h => ?_) (fun cdv A outer s H vs Q E hr h => ?_)
  · obtain ⟨_, _, _, _, _, _, rfl, _⟩ := h
    rfl
  · obtain ⟨p, lm, dv, h, ks, vals, rfl, hp, npm, mn, ⟨ms, hm, tm⟩, hd, po, q⟩ := h
    have hu := hu_of hr
    obtain ⟨kvs, hd1, _⟩ := _root_.id hd
    have npd : p ≠ dv := hp.ne hd1 (fun _ z => nomatch z)
    have ml : ms.length = ks.length := by rw [tm.len, List.length_map]
    have kl := mn.len
    have kpos : 0 < ks.length := List.length_pos_iff.mpr mn.ne
    refine ⟨_, ((pss_cons (ps_set (i := 3) sc_law_requests.nd rfl (Or.inl rfl) (pe_callTy call_int1 (by rfl) T.int B_int (pa_cons (pe_op op_add (pe_op op_mul (pe_cc C_law_draw hr (by decide) (by rfl) (pa_cons (pv 0) (pa_cons pe_int pa_nil))) pe_int) (pe_cc C_law_draw hr (by decide) (by rfl) (pa_cons (pv 0) (pa_cons pe_int pa_nil)))) pa_nil)))
  (pss_cons (ps_set (i := 4) sc_law_requests.nd rfl (Or.inl rfl) (pe_cc C_law_draw hr (by decide) (by rfl) (pa_cons (pv 0) (pa_cons (pe_callB call_len_seq (by rfl) T.len B_len (pa_cons (pv 1) pa_nil)) pa_nil))))
  (pss_cons (ps_set (i := 5) sc_law_requests.nd rfl (Or.inl rfl) (pe_lst pa_nil))
  (pss_cons (ps_for PassesOwn.never rfl (pi_range1 (by rfl) T.range (pa_cons (pe_callB call_len_seq (by rfl) T.len B_len (pa_cons (pv 1) pa_nil)) pa_nil)) (pg_name (i := 6) sc_law_requests.nd rfl (Or.inl rfl))
  (pss_cons (ps_if (PW.pt (pw_or (pt_cmpR op_eq (pe_op op_mod (pv 3) pe_int) pe_int (nomark _)) (pw_or1 (pt_cmpR op_eq (pv 6) (pv 4) (nomark _))))) (pss_cons (ps_set (i := 7) sc_law_requests.nd rfl (Or.inl rfl) (pe_cc C_law_mode hr (by decide) (by rfl) (pa_cons (pv 0) (pa_cons (pe_ix (ix_listK (K := K) rfl) (pv 1) (pv 6) (fun _ _ => rfl)) (pa_cons (pe_dget2 hu (pv 2) (pe_ix (ix_listK (K := K) rfl) (pv 1) (pv 6) (fun _ _ => rfl)) pe_int ⟨rfl, rfl, rfl, rfl⟩) pa_nil)))))
  (pss_one (ps_expr (pe_bm PySem.F.plainAttrs_list PySem.F.slot_list_append PySem.F.type_list_append mt_append (pv 5) (pa_cons (pe_tup (pa_cons (pe_ix (ix_listK (K := K) rfl) (pv 1) (pv 6) (fun _ _ => rfl)) (pa_cons (pe_ix (ix_tupK (K := K) rfl) (pv 7) pe_int (fun _ _ => rfl)) (pa_cons (pe_ix (ix_tupK (K := K) rfl) (pv 7) pe_int (fun _ _ => rfl)) pa_nil)))) pa_nil))))) pss_nil)
  (pss_one (ps_set (i := 3) sc_law_requests.nd rfl (Or.inl rfl) (pe_op op_fdiv (pv 3) pe_int)))))
  (pss_one (ps_ret (pe_callTy call_tuple_of (by rfl) T.tuple B_tuple (pa_cons (pv 5) pa_nil))))))))), ?_⟩
    refine ⟨_, rfl, p, 2520, rfl, hp, by decide, fun d1 H1 d10 d11 b1 hp1 => ?_⟩
    refine ⟨_, _, rfl, rfl, .inr ⟨by decide, by decide⟩, ?_⟩
    refine ⟨_, rfl, p, 2520, rfl, hp1, by decide, fun d2 H2 d20 d21 b2 hp2 => ?_⟩
    refine ⟨_, _, rfl, rfl, .inl ⟨_, rfl, ?_⟩⟩
    have b02 := b1.trans b2
    refine ⟨_, rfl, _, rfl, lm, ms, rfl, .inl (.inl (.inl (b02.at1 npm.symm hm))), ?_⟩
    refine ⟨p, _, rfl, hp2, by omega, fun ch H3 ch0 ch1 b3 hp3 => ?_⟩
    refine ⟨by show 0 ≤ sizeLine; decide, fun lo nlo => ?_⟩
    generalize e4 : upd _ lo _ = H4
    obtain ⟨S4, h4⟩ := new_of e4 nlo
    clear e4
    have nlop : p ≠ lo := hp3.nen nlo
    have b04 : Bt [p] H H4 := (b02.trans b3).trans S4.nil
    have hp4 := hp3.bt S4 (fun z => nomatch z)
    have nlo0 : H lo = none := fresh_back (b02.trans b3) (fun x m => by
      obtain ⟨ns, z, _⟩ := hp3
      rw [List.mem_singleton.mp m, z]
      exact fun z => nomatch z) nlo
    have nlm : lm ≠ lo := ne_of_none hm nlo0
    have ndl : dv ≠ lo := ne_of_none hd1 nlo0
    refine ⟨_, rfl, lm, ms, rfl, .inl (.inl (.inl (b04.at1 npm.symm hm))), ?_⟩
    refine ⟨_, rfl, by omega, by omega, ?_⟩
    refine for_range (n := ((ms.length : Nat) : Int).toNat) (fun i σ H5 => ∃ (mk : Int) (u6 u7 : Option V) (rs : List Rq), σ = [some (.ref p), some (.ref lm), some (.ref dv), some (.int mk), some (.int ch), some (.ref lo), u6, u7] ∧ Bt [p, lo] H H5 ∧ PoolAt H5 p ∧ LsAt H5 lo (rs.map reqD) ∧ rs.length ≤ i ∧ (ch < i → rs ≠ []) ∧ ∀ r ∈ rs, RqOk h r ∧ r.key ∈ ks)
      ⟨_, none, none, [], rfl, b04.mono (fun _ z => by simp at z; simp [z]), hp4, ⟨[], h4, .nil⟩, Nat.le_refl _, fun z => by omega, fun _ m => nomatch m⟩ ?_ ?_
    · rintro i σ H5 hi ⟨mk, u6, u7, rs, rfl, b5, hp5, ⟨zs, ho, tz⟩, rl, rch, rok⟩
      have hi' : i < ms.length := by omega
      have b5' : Bt [p] H H5 := by
        have : Bt (lo :: [p]) H H5 := b5.mono (fun _ z => by simp at z; rcases z with z | z <;> simp [z])
        exact this.dropN nlo0
      have hm5 := b5'.at1 npm.symm hm
      obtain ⟨mv, hmv⟩ : ∃ mv, ms[i]? = some mv := ⟨_, List.getElem?_eq_getElem hi'⟩
      obtain ⟨kd, ekd, tk⟩ := tm.get' hmv
      rw [List.getElem?_map] at ekd
      cases ek : ks[i]? with
      | none => rw [ek] at ekd; cases ekd
      | some k =>
      rw [ek] at ekd
      cases ekd
      obtain ⟨kb, rfl, hkb, _⟩ := key_td tk
      have hko := mn.ok k (List.mem_of_getElem? ek)
      have atk : atI ms ((0 : Int) + (i : Nat)) = some (.ref kb) := by rw [Int.zero_add]; exact atI_nat hmv
      refine ⟨_, rfl, _, _, rfl, rfl, (by show (0 : Int) < 3; decide), rfl, _, rfl, ?_⟩
      refine iteD2 (fun z => ?_) (fun z => ?_)
      · refine ⟨_, rfl, _, rfl, _, rfl, lm, _, _, _, rfl, rfl, .inl (.inl hm5), atk, ?_⟩
        have hd5 := hd.bt b5' (no1 npd.symm)
        obtain ⟨o, og, oe⟩ := hd5.get (b5.tup _ _ hkb)
        refine ⟨_, rfl, dv, rfl, (by obtain ⟨kk, z1, _⟩ := hd5; exact .inr ⟨kk, .inl z1⟩), ?_⟩
        refine ⟨_, rfl, _, rfl, lm, _, _, _, rfl, rfl, .inl (.inl hm5), atk, ?_⟩
        refine ⟨o, og, ?_⟩
        refine ⟨p, kb, _, h, k, rfl, hp5, b5.tup _ _ hkb, hko, fun ha => ?_, fun t md many H6 b6 hp6 ht6 rq6 => ?_⟩
        · rcases oe with ⟨rfl, _⟩ | ⟨v, x, rfl, e, tv⟩
          · exact ⟨0, rfl⟩
          · obtain ⟨i, ei⟩ := (po.get e).am ha
            have ei : x = .int i := ei
            rw [ei] at tv
            exact ⟨i, Td.int_inv tv⟩
        have ho6 := b6.at1 nlop.symm ho
        have hm6 := b6.at1 npm.symm hm5
        refine ⟨_, rfl, .inl ⟨rfl, _, .inl (.inl ho6)⟩, ?_⟩
        refine ⟨_, rfl, _, rfl, lm, _, _, _, rfl, rfl, .inl (.inl hm6), atk, ?_⟩
        refine ⟨_, rfl, t, _, _, _, rfl, rfl, .inl (.inl ht6), atI_nat (j := 0) rfl, ?_⟩
        refine ⟨_, rfl, t, _, _, _, rfl, rfl, .inl (.inl ht6), atI_nat (j := 1) rfl, ?_⟩
        refine ⟨by show 3 ≤ sizeLine; decide, fun t7 n7 => ?_⟩
        generalize e7 : upd _ t7 _ = H7
        obtain ⟨S7, h7⟩ := new_of e7 n7
        clear e7
        refine ⟨lo, zs, _, rfl, rfl, S7.at ho6, sz_lt (by rw [tz.len, List.length_map]; omega), ?_⟩
        generalize e8 : upd _ lo _ = H8
        obtain ⟨S8, h8⟩ := mut_of e8 (S7.at ho6) trivial
        clear e8
        refine ⟨_, rfl, _, _, rfl, rfl, ⟨by decide, by decide⟩, ?_⟩
        have b58 : Bt [p, lo] H5 H8 := (b6.mono fun _ z => by simp at z; simp [z]).trans ((S7.nil).trans (S8.mono fun _ z => by simp at z; simp [z]))
        refine ⟨_, _, _, rs ++ [⟨k, md, many⟩], rfl, b5.trans b58, (hp6.bt S7 (fun z => nomatch z)).bt S8 (no1 nlop), ⟨_, h8, ?_⟩, by rw [List.length_append, List.length_singleton]; omega, fun _ => by simp, fun r m => ?_⟩
        · rw [List.map_append]
          refine (tz.bt b58).app (.one ?_)
          exact (Td.tup h7 (.cons (td_key (S7.tup _ _ (b6.tup _ _ (b5.tup _ _ hkb))) hko.ok) (.cons (.str _ md.ok) (.cons (.int _) .nil)))).bt S8
        · rcases List.mem_append.mp m with m | m
          · exact rok r m
          · rw [List.mem_singleton.mp m]
            exact ⟨rq6, List.mem_of_getElem? ek⟩
      · refine ⟨_, rfl, _, rfl, rfl, _, rfl, ?_⟩
        refine iteD2 (fun z2 => ?_) (fun z2 => ?_)
        · refine ⟨_, rfl, _, rfl, _, rfl, lm, _, _, _, rfl, rfl, .inl (.inl hm5), atk, ?_⟩
          have hd5 := hd.bt b5' (no1 npd.symm)
          obtain ⟨o, og, oe⟩ := hd5.get (b5.tup _ _ hkb)
          refine ⟨_, rfl, dv, rfl, (by obtain ⟨kk, z1, _⟩ := hd5; exact .inr ⟨kk, .inl z1⟩), ?_⟩
          refine ⟨_, rfl, _, rfl, lm, _, _, _, rfl, rfl, .inl (.inl hm5), atk, ?_⟩
          refine ⟨o, og, ?_⟩
          refine ⟨p, kb, _, h, k, rfl, hp5, b5.tup _ _ hkb, hko, fun ha => ?_, fun t md many H6 b6 hp6 ht6 rq6 => ?_⟩
          · rcases oe with ⟨rfl, _⟩ | ⟨v, x, rfl, e, tv⟩
            · exact ⟨0, rfl⟩
            · obtain ⟨i, ei⟩ := (po.get e).am ha
              have ei : x = .int i := ei
              rw [ei] at tv
              exact ⟨i, Td.int_inv tv⟩
          have ho6 := b6.at1 nlop.symm ho
          have hm6 := b6.at1 npm.symm hm5
          refine ⟨_, rfl, .inl ⟨rfl, _, .inl (.inl ho6)⟩, ?_⟩
          refine ⟨_, rfl, _, rfl, lm, _, _, _, rfl, rfl, .inl (.inl hm6), atk, ?_⟩
          refine ⟨_, rfl, t, _, _, _, rfl, rfl, .inl (.inl ht6), atI_nat (j := 0) rfl, ?_⟩
          refine ⟨_, rfl, t, _, _, _, rfl, rfl, .inl (.inl ht6), atI_nat (j := 1) rfl, ?_⟩
          refine ⟨by show 3 ≤ sizeLine; decide, fun t7 n7 => ?_⟩
          generalize e7 : upd _ t7 _ = H7
          obtain ⟨S7, h7⟩ := new_of e7 n7
          clear e7
          refine ⟨lo, zs, _, rfl, rfl, S7.at ho6, sz_lt (by rw [tz.len, List.length_map]; omega), ?_⟩
          generalize e8 : upd _ lo _ = H8
          obtain ⟨S8, h8⟩ := mut_of e8 (S7.at ho6) trivial
          clear e8
          refine ⟨_, rfl, _, _, rfl, rfl, ⟨by decide, by decide⟩, ?_⟩
          have b58 : Bt [p, lo] H5 H8 := (b6.mono fun _ z => by simp at z; simp [z]).trans ((S7.nil).trans (S8.mono fun _ z => by simp at z; simp [z]))
          refine ⟨_, _, _, rs ++ [⟨k, md, many⟩], rfl, b5.trans b58, (hp6.bt S7 (fun z => nomatch z)).bt S8 (no1 nlop), ⟨_, h8, ?_⟩, by rw [List.length_append, List.length_singleton]; omega, fun _ => by simp, fun r m => ?_⟩
          · rw [List.map_append]
            refine (tz.bt b58).app (.one ?_)
            exact (Td.tup h7 (.cons (td_key (S7.tup _ _ (b6.tup _ _ (b5.tup _ _ hkb))) hko.ok) (.cons (.str _ md.ok) (.cons (.int _) .nil)))).bt S8
          · rcases List.mem_append.mp m with m | m
            · exact rok r m
            · rw [List.mem_singleton.mp m]
              exact ⟨rq6, List.mem_of_getElem? ek⟩
        · refine ⟨_, rfl, _, _, rfl, rfl, ⟨by decide, by decide⟩, ?_⟩
          refine ⟨_, _, _, rs, rfl, b5, hp5, ⟨zs, ho, tz⟩, by omega, fun z3 => rch ?_, rok⟩
          have : ch ≠ (i : Nat) := fun e => z2 (by rw [e, Int.zero_add])
          omega
    · rintro σ H5 ⟨mk, u6, u7, rs, rfl, b5, hp5, ⟨zs, ho, tz⟩, rl, rch, rok⟩
      refine ⟨_, rfl, lo, zs, rfl, .inl ⟨.inl (.inl ho), fun t nt => ?_⟩⟩
      generalize e6 : upd _ t _ = H6
      obtain ⟨S6, h6⟩ := new_of e6 nt
      clear e6
      have b5' : Bt [p] H H5 := by
        have : Bt (lo :: [p]) H H5 := b5.mono (fun _ z => by simp at z; rcases z with z | z <;> simp [z])
        exact this.dropN nlo0
      exact q _ rs H6 (b5'.trans S6.nil) (hp5.bt S6 (fun z => nomatch z)) (rch (by omega)) (by omega) (fun r m => (rok r m).1) (fun r m => (rok r m).2) (.tup h6 (tz.bt S6))
end
end K33

/-! K20: the law's standing grants, beside, shares -/
namespace K33
open PySem L2
structure StX (R : List Addr) (H : Hp) (v : V) (s : List Key × List Gr) (t : Addr) (i rq : V) (kl : Addr) (an : V) : Prop where
  ev : v = .ref t
  ht : H t = some (.tup [i, rq, .ref kl, an])
  hkl : H kl = some (.lst (s.2.map fun g => V.str g.kd.s))
  nR : kl ∉ R
  ti : Td H i (kD s.1)
  tr : Td H rq (reqsD (s.2.map (·.rq)))
  ta : Td H an (ansD s.2)
def StAt (R : List Addr) (H : Hp) (v : V) (s : List Key × List Gr) : Prop := ∃ t i rq kl an, StX R H v s t i rq kl an
def StL (R : List Addr) (H : Hp) (ls : Addr) (st : Std) : Prop := ∃ svs, H ls = some (.lst svs) ∧ Paired (StAt R H) svs st
theorem StAt.bt {R ls : List Addr} {H H' : Hp} {v : V} {s : List Key × List Gr} (b : Bt ls H H') (sub : ∀ x ∈ ls, x ∈ R) (h : StAt R H v s) : StAt R H' v s := by
  obtain ⟨t, i, rq, kl, an, x⟩ := h
  exact ⟨t, i, rq, kl, an, x.ev, b.tup _ _ x.ht, b.keep _ _ (fun m => x.nR (sub _ m)) x.hkl, x.nR, x.ti.bt b, x.tr.bt b, x.ta.bt b⟩
theorem StAt.re {R R' : List Addr} {H : Hp} {v : V} {s : List Key × List Gr} (sub : ∀ x ∈ R', x ∈ R ∨ H x = none) (h : StAt R H v s) : StAt R' H v s := by
  obtain ⟨t, i, rq, kl, an, x⟩ := h
  refine ⟨t, i, rq, kl, an, x.ev, x.ht, x.hkl, fun m => ?_, x.ti, x.tr, x.ta⟩
  rcases sub _ m with z | z
  · exact x.nR z
  · rw [x.hkl] at z
    cases z
theorem StL.bt {R ls : List Addr} {H H' : Hp} {a : Addr} {st : Std} (b : Bt ls H H') (sub : ∀ x ∈ ls, x ∈ R) (n : a ∉ ls) (h : StL R H a st) : StL R H' a st := by
  obtain ⟨svs, h1, h2⟩ := h
  exact ⟨svs, b.keep _ _ n h1, Paired.mapP h2 fun _ _ z => z.bt b sub⟩
theorem StL.re {R R' : List Addr} {H : Hp} {a : Addr} {st : Std} (sub : ∀ x ∈ R', x ∈ R ∨ H x = none) (h : StL R H a st) : StL R' H a st := by
  obtain ⟨svs, h1, h2⟩ := h
  exact ⟨svs, h1, Paired.mapP h2 fun _ _ z => z.re sub⟩
def besD (g : Gr) : PyData := .tuple [.str g.kd.s, g.ans]
def besR : Option Gr → PyData
  | none => .none
  | some g => besD g
def hardG (g : Gr) : Bool := inV (.str g.kd.s) [.str Kd.see.s, .str Kd.own.s, .str Kd.short.s]
def seeG (g : Gr) : Bool := decide (g.kd = .see)
def amplG (g : Gr) : Bool := decide (g.kd = .ample)
theorem hard_soft (g : Gr) : hardG g = !softG g := by
  unfold hardG softG
  cases g.kd <;> decide +kernel
theorem ft_take {α β : Type} (p : α → Bool) (f : α → β) {l : List α} {i : Nat} {a : α} (h : l[i]? = some a) : ((l.take (i + 1)).filter p).map f = ((l.take i).filter p).map f ++ (if p a = true then [f a] else []) := by
  rw [List.take_add_one, h, Option.toList_some, List.filter_append, List.map_append]
  congr 1
  cases e : p a with
  | true => rw [if_pos rfl, List.filter_cons_of_pos e]; rfl
  | false => rw [if_neg Bool.false_ne_true, List.filter_cons_of_neg (by rw [e]; exact Bool.false_ne_true)]; rfl
theorem hard_len (l : List Gr) : (l.filter hardG).length = 0 ↔ l.all softG = true := by
  rw [List.length_eq_zero_iff, List.filter_eq_nil_iff, List.all_eq_true]
  constructor
  · intro h g m
    have := h g m
    rw [hard_soft] at this
    simpa using this
  · intro h g m
    rw [hard_soft, h g m]
    decide
theorem see_len : ∀ l : List Gr, (l.filter seeG).length = l.length ↔ l.all (fun g => decide (g.kd = .see)) = true
  | [] => by simp
  | g :: l => by
    have ih := see_len l
    have hle : (l.filter seeG).length ≤ l.length := List.length_filter_le _ _
    rw [List.all_cons]
    by_cases e : g.kd = .see
    · rw [List.filter_cons_of_pos (p := seeG) (decide_eq_true e), List.length_cons, List.length_cons, decide_eq_true e, Bool.true_and, ← ih]
      omega
    · rw [List.filter_cons_of_neg (p := seeG) (by unfold seeG; simpa using e), List.length_cons, decide_eq_false e, Bool.false_and]
      constructor
      · intro z; omega
      · intro z; cases z
theorem room_eq : ∀ l : List Gr, ((l.filter amplG).map (·.rq.many)).sum = roomOf l
  | [] => rfl
  | g :: l => by
    have ih := room_eq l
    unfold roomOf at ih ⊢
    rw [List.map_cons, List.sum_cons, ← ih]
    unfold takenI
    by_cases e : g.kd = .ample
    · rw [if_pos e, List.filter_cons_of_pos (p := amplG) (decide_eq_true e), List.map_cons, List.sum_cons]
    · rw [if_neg e, List.filter_cons_of_neg (p := amplG) (by unfold amplG; simpa using e), Int.zero_add]
theorem sel {c : Bool} {p : Prop} [Decidable p] {g : Gr} {o : Option Gr} (hc : c = true ↔ p) (ho : o = if p then some g else none) : besR o = if c = true then .tuple [.str g.kd.s, g.ans] else .none := by
  rw [ho]
  by_cases h : p
  · rw [if_pos h, if_pos (hc.mpr h)]
    rfl
  · rw [if_neg h, if_neg (fun z => h (hc.mp z))]
    rfl
theorem pick2 {a b : V} (c : Bool) : atI [a, b] (if c = true then (1 : Int) else 0) = some (if c = true then b else a) := by cases c <;> rfl
section
variable {P : Program} {w : World} {K : PySem.W.Frag} {mg : Str → Option Value} {base : Heap}
/-! ### beside -/
def spBeside (R : List Addr) : Sp := fun vs H Q _ => ∃ (dv ls : Addr) (rv : V) (h : Int) (vals : Vs) (st : Std) (r : Rq), vs = [.ref dv, .ref ls, rv] ∧ DictAt H dv vals ∧ StL R H ls st ∧ Td H rv (reqD r) ∧ RqOk h r ∧ PrsOk h vals ∧ StdOk h st ∧ st.length ≤ 1000 ∧
  ∀ v' H', Bt [] H H' → Td H' v' (besR (beside vals st r)) → Q v' H'
abbrev s_law_beside : Stmt := top 47
theorem sc_law_beside : FnScope ["_law_values_here", "_law_standing", "_law_request", "_law_value", "_law_there", "_law_grant", "_law_hard", "_law_sees", "_law_room", "_law_k", "_law_one"] ["_law_values_here", "_law_standing", "_law_request"] (defScope s_law_beside) := ⟨rfl, rfl, rfl, by decide +kernel, rfl, by decide +kernel, by decide +kernel⟩
theorem ok_beside {f : Addr} {fd : FuncData} (F : Fun K "_law_beside" "_law_beside" s_law_beside f fd) (T : Blt mg) (C_law_first : Cal P w K mg base "_law_first" 1 spFirst) (R : List Addr) : FnOk P w K mg base CX0 2 f fd ["_law_values_here", "_law_standing", "_law_request"] (spBeside R) := by
  refine F.ok sc_law_beside (fun vs H Q E h => ?_) (fun cdv A outer s H vs Q E hr h => ?_)
  · obtain ⟨_, _, _, _, _, _, _, rfl, _⟩ := h
    rfl
  · obtain ⟨dv, ls, rv, h, vals, st, r, rfl, hd, ⟨svs, hls, hst⟩, trv, rq, po, so, sl, q⟩ := h
    have hu := hu_of hr
    have svl : svs.length = st.length := Paired.length hst
    obtain ⟨rb, rys, rfl, hrb, tys⟩ := Td.tup_inv trv
    obtain ⟨v1, r1, rfl, t1, tys⟩ := tys.cons_inv
    obtain ⟨v2, r2, rfl, t2, tys⟩ := tys.cons_inv
    obtain ⟨v3, r3, rfl, t3, tys⟩ := tys.cons_inv
    cases tys.nil_inv
    have e2 := Td.str_inv t2
    have e3 := Td.int_inv t3
    subst e2 e3
    obtain ⟨kb, rfl, hkb, _⟩ := key_td t1
    have hRq : ∀ {H'}, Bt [] H H' → SqT K H' rb [.ref kb, .str r.md.s, .int r.many] := fun b => .inl (.inl (b.tup _ _ hrb))
    generalize hL : onKey st r.key = l
    have hll : l.length ≤ 100000 := by rw [← hL]; exact onKey_len so sl
    have gok : ∀ g ∈ l, GrOk h g := fun g m => by
      rw [← hL] at m
      obtain ⟨p, m1, m2, _⟩ := mem_onKey m
      exact so.gr p m1 g m2
    refine ⟨_, ((pss_cons (ps_set (i := 3) sc_law_beside.nd rfl (Or.inl rfl) (pe_dget2 hu (pv 0) (pe_ix (ix_tupK (K := K) rfl) (pv 2) pe_int (fun _ _ => rfl)) (pe_cc C_law_first hr (by decide) (by rfl) (pa_cons (pe_ix (ix_tupK (K := K) rfl) (pv 2) pe_int (fun _ _ => rfl)) pa_nil)) ⟨rfl, rfl, rfl, rfl⟩))
  (pss_cons (ps_set (i := 4) sc_law_beside.nd rfl (Or.inl rfl) (pe_lst pa_nil))
  (pss_cons (ps_for PassesOwn.never rfl (pi_list (pv 1)) (pg_name (i := 5) sc_law_beside.nd rfl (Or.inl rfl))
  (pss_one (ps_for PassesOwn.never rfl (pi_range1 (by rfl) T.range (pa_cons (pe_callB call_len_seq (by rfl) T.len B_len (pa_cons (pe_ix (ix_tupK (K := K) rfl) (pv 5) pe_int (fun _ _ => rfl)) pa_nil)) pa_nil)) (pg_name (i := 9) sc_law_beside.nd rfl (Or.inl rfl))
  (pss_one (ps_if (pt_cmpR (op_eqDK (K := K) rfl hr.units) (pe_ix (ix_tupK (K := K) rfl) (pe_ix (ix_tupK (K := K) rfl) (pe_ix (ix_tupK (K := K) rfl) (pv 5) pe_int (fun _ _ => rfl)) (pv 9) (fun _ _ => rfl)) pe_int (fun _ _ => rfl)) (pe_ix (ix_tupK (K := K) rfl) (pv 2) pe_int (fun _ _ => rfl)) (nomark _)) (pss_one (ps_expr (pe_bm PySem.F.plainAttrs_list PySem.F.slot_list_append PySem.F.type_list_append mt_append (pv 4) (pa_cons (pe_tup (pa_cons (pe_ix (ix_listK (K := K) rfl) (pe_ix (ix_tupK (K := K) rfl) (pv 5) pe_int (fun _ _ => rfl)) (pv 9) (fun _ _ => rfl)) (pa_cons (pe_ix (ix_tupK (K := K) rfl) (pe_ix (ix_tupK (K := K) rfl) (pv 5) pe_int (fun _ _ => rfl)) (pv 9) (fun _ _ => rfl)) pa_nil))) pa_nil)))) pss_nil)))))
  (pss_cons (ps_setLc (i := 6) (own := [("_law_one", 10)]) (g := gName 10)  rfl sc_law_beside.nd rfl rfl (sw_true rfl rfl rfl (by decide +kernel)) (pi_list (pv 4)) (blkOk_by (own := [("_law_one", 10)]) (N := ["_law_values_here", "_law_standing", "_law_request", "_law_value", "_law_there", "_law_grant", "_law_hard", "_law_sees", "_law_room", "_law_k", "_law_one"]) (sc := defScope s_law_beside) (by decide +kernel)) (fun _ _ _ _ _ => (pg_name (i := 10) sc_law_beside.nd rfl (Or.inl rfl))) (fun _ _ _ _ _ => pts_one (pt_cmpR (op_in_seqK (K := K) rfl) (pe_ix (ix_tupK (K := K) rfl) (pv 10) pe_int (fun _ _ => rfl)) (pe_lst (pa_cons pe_str (pa_cons pe_str (pa_cons pe_str pa_nil)))) rfl)) (fun _ _ _ _ _ => (pv 10)))
  (pss_cons (ps_setLc (i := 7) (own := [("_law_one", 10)]) (g := gName 10)  rfl sc_law_beside.nd rfl rfl (sw_true rfl rfl rfl (by decide +kernel)) (pi_list (pv 4)) (blkOk_by (own := [("_law_one", 10)]) (N := ["_law_values_here", "_law_standing", "_law_request", "_law_value", "_law_there", "_law_grant", "_law_hard", "_law_sees", "_law_room", "_law_k", "_law_one"]) (sc := defScope s_law_beside) (by decide +kernel)) (fun _ _ _ _ _ => (pg_name (i := 10) sc_law_beside.nd rfl (Or.inl rfl))) (fun _ _ _ _ _ => pts_one (pt_cmpR op_eq (pe_ix (ix_tupK (K := K) rfl) (pv 10) pe_int (fun _ _ => rfl)) pe_str (nomark _))) (fun _ _ _ _ _ => (pv 10)))
  (pss_cons (ps_set (i := 8) sc_law_beside.nd rfl (Or.inl rfl) (pe_callB (cr_sum rfl) (by rfl) T.sum B_sum (pa_cons (pe_lc (own := [("_law_one", 10)]) (g := gName 10)  rfl sc_law_beside.nd (pi_list (pv 4)) (blkOk_by (own := [("_law_one", 10)]) (N := ["_law_values_here", "_law_standing", "_law_request", "_law_value", "_law_there", "_law_grant", "_law_hard", "_law_sees", "_law_room", "_law_k", "_law_one"]) (sc := defScope s_law_beside) (by decide +kernel)) (fun _ _ _ _ _ => (pg_name (i := 10) sc_law_beside.nd rfl (Or.inl rfl))) (fun _ _ _ _ _ => pts_one (pt_cmpR op_eq (pe_ix (ix_tupK (K := K) rfl) (pv 10) pe_int (fun _ _ => rfl)) pe_str (nomark _))) (fun _ _ _ _ _ => (pe_ix (ix_tupK (K := K) rfl) (pv 10) pe_int (fun _ _ => rfl)))) pa_nil)))
  (pss_cons (ps_if (pt_cmpR op_eq (pe_ix (ix_tupK (K := K) rfl) (pv 2) pe_int (fun _ _ => rfl)) pe_str (nomark _)) (pss_one (ps_ret (pe_ix (ix_listK (K := K) rfl) (pe_lst (pa_cons pe_non (pa_cons (pe_tup (pa_cons pe_str (pa_cons (pv 3) pa_nil))) pa_nil))) (pe_callTy call_int1 (by rfl) T.int B_int (pa_cons (pe_cmpR op_eq (pe_callB call_len_seq (by rfl) T.len B_len (pa_cons (pv 7) pa_nil)) (pe_callB call_len_seq (by rfl) T.len B_len (pa_cons (pv 4) pa_nil)) (nomark _)) pa_nil)) (fun _ _ => rfl)))) pss_nil)
  (pss_cons (ps_if (pt_cmpR op_eq (pe_ix (ix_tupK (K := K) rfl) (pv 2) pe_int (fun _ _ => rfl)) pe_str (nomark _)) (pss_one (ps_ret (pe_ix (ix_listK (K := K) rfl) (pe_lst (pa_cons pe_non (pa_cons (pe_tup (pa_cons pe_str (pa_cons (pv 3) pa_nil))) pa_nil))) (pe_callTy call_int1 (by rfl) T.int B_int (pa_cons (pe_cmpR op_eq (pe_callB call_len_seq (by rfl) T.len B_len (pa_cons (pv 4) pa_nil)) pe_int (nomark _)) pa_nil)) (fun _ _ => rfl)))) pss_nil)
  (pss_cons (ps_if (pt_cmpR op_eq (pe_ix (ix_tupK (K := K) rfl) (pv 2) pe_int (fun _ _ => rfl)) pe_str (nomark _)) (pss_one (ps_ret (pe_ix (ix_listK (K := K) rfl) (pe_lst (pa_cons pe_non (pa_cons (pe_tup (pa_cons pe_str (pa_cons pe_non pa_nil))) pa_nil))) (pe_callTy call_int1 (by rfl) T.int B_int (pa_cons (pe_cmpR op_eq (pe_callB call_len_seq (by rfl) T.len B_len (pa_cons (pv 6) pa_nil)) pe_int (nomark _)) pa_nil)) (fun _ _ => rfl)))) pss_nil)
  (pss_cons (ps_if (PW.pt (pw_and (pt_cmpR op_eq (pe_callB call_len_seq (by rfl) T.len B_len (pa_cons (pv 6) pa_nil)) pe_int (nomark _)) (pw_and1 (pt_cmpR op_le (pe_ix (ix_tupK (K := K) rfl) (pv 2) pe_int (fun _ _ => rfl)) (pe_op op_sub (pv 3) (pv 8)) (nomark _))))) (pss_one (ps_ret (pe_tup (pa_cons pe_str (pa_cons (pe_ix (ix_tupK (K := K) rfl) (pv 2) pe_int (fun _ _ => rfl)) pa_nil))))) pss_nil)
  (pss_one (ps_ret (pe_ix (ix_listK (K := K) rfl) (pe_lst (pa_cons pe_non (pa_cons (pe_tup (pa_cons pe_str (pa_cons (pv 3) pa_nil))) pa_nil))) (pe_callTy call_int1 (by rfl) T.int B_int (pa_cons (pe_cmpR op_eq (pe_callB call_len_seq (by rfl) T.len B_len (pa_cons (pv 4) pa_nil)) pe_int (nomark _)) pa_nil)) (fun _ _ => rfl))))))))))))))), ?_⟩
    refine ⟨_, rfl, dv, rfl, (by obtain ⟨kk, z1, _⟩ := hd; exact .inr ⟨kk, .inl z1⟩), ?_⟩
    refine ⟨_, rfl, rb, _, _, _, rfl, rfl, hRq Bt.refl, atI_nat (j := 0) rfl, ?_⟩
    refine ⟨_, rfl, rb, _, _, _, rfl, rfl, hRq Bt.refl, atI_nat (j := 0) rfl, ?_⟩
    refine ⟨kb, h, r.key, rfl, hkb, rq.key, fun H1 b1 => ?_⟩
    obtain ⟨o, og, oe⟩ := (hd.bt b1 (fun z => nomatch z)).get (b1.tup _ _ hkb)
    refine ⟨o, og, ?_⟩
    have tval : Td H1 (o.getD (fvV r.key)) (gv vals r.key) := by
      unfold gv
      rcases oe with ⟨rfl, e⟩ | ⟨v, x, rfl, e, t⟩
      · rw [e]; exact td_fv H1 r.key
      · rw [e]; exact t
    generalize o.getD (fvV r.key) = vv at tval
    clear og oe
    refine ⟨by show 0 ≤ sizeLine; decide, fun lo nlo => ?_⟩
    generalize e2 : upd _ lo _ = H2
    obtain ⟨S2, h2⟩ := new_of e2 nlo
    clear e2
    have b02 := b1.trans S2
    have nlo0 : H lo = none := fresh_back b1 (fun _ m => nomatch m) nlo
    have nlls : ls ≠ lo := ne_of_none hls nlo0
    refine ⟨_, rfl, ls, rfl, ⟨svs, .inl (.inl (b02.at hls))⟩, ?_⟩
    refine for_list (K := K) (a := ls) (xs := svs) (fun i σ H3 => ∃ (u5 u9 : Option V), σ = [some (.ref dv), some (.ref ls), some (.ref rb), some vv, some (.ref lo), u5, none, none, none, u9, none] ∧ Bt [lo] H H3 ∧ Bt [lo] H2 H3 ∧ LsAt H3 lo ((onKey (st.take i) r.key).map besD))
      ⟨none, none, rfl, b02.nil, Bt.refl, [], h2, .nil⟩ (fun i σ H3 _ hp => ?_) ?_ ?_
    · obtain ⟨_, _, _, b3, _⟩ := hp
      exact .inl (.inl (b3.at1 nlls hls))
    · rintro i x σ H3 hx ⟨u5, u9, rfl, b3, c3, hlo⟩
      have d3 : Bt [] H H3 := b3.dropN nlo0
      obtain ⟨s1, es, hs1⟩ := paired_get hst hx
      have hm := List.mem_of_getElem? es
      obtain ⟨t, ii, rqv, kl, an, X⟩ := hs1
      have hgl := so.len s1 hm
      obtain ⟨ev, ht, hkl, _, ti, tr, ta⟩ := X
      subst ev
      obtain ⟨ra, rxs, rfl, hra, trx⟩ := Td.tup_inv tr
      obtain ⟨aa, axs, rfl, haa, tax⟩ := Td.tup_inv ta
      have rxl : rxs.length = s1.2.length := by rw [trx.len, List.length_map, List.length_map]
      have hT : ∀ {H'}, Bt [] H H' → SqT K H' t [ii, .ref ra, .ref kl, .ref aa] := fun b => .inl (.inl (b.tup _ _ ht))
      refine ⟨_, rfl, t, _, _, _, rfl, rfl, hT d3, atI_nat (j := 1) rfl, ?_⟩
      refine ⟨ra, rxs, rfl, .inr (.inl (.inl (d3.tup _ _ hra))), ?_⟩
      refine ⟨_, rfl, by omega, by omega, ?_⟩
      refine for_range (n := ((rxs.length : Nat) : Int).toNat) (fun j σ H4 => ∃ (u9 : Option V), σ = [some (.ref dv), some (.ref ls), some (.ref rb), some vv, some (.ref lo), some (.ref t), none, none, none, u9, none] ∧ Bt [lo] H H4 ∧ Bt [lo] H2 H4 ∧
          LsAt H4 lo ((onKey (st.take i) r.key ++ (s1.2.take j).filter fun g => decide (g.rq.key = r.key)).map besD))
        ⟨u9, rfl, b3, c3, by simpa using hlo⟩ ?_ ?_
      · rintro j σ H4 hj ⟨u9, rfl, b4, c4, zs, hz1, hz2⟩
        have hj' : j < s1.2.length := by omega
        have d4 : Bt [] H H4 := b4.dropN nlo0
        obtain ⟨g, eg⟩ : ∃ g, s1.2[j]? = some g := ⟨_, List.getElem?_eq_getElem hj'⟩
        obtain ⟨rv, erv, trv⟩ := trx.get (i := j) (d := reqD g.rq) (by rw [List.getElem?_map, List.getElem?_map, eg]; rfl)
        obtain ⟨av, eav, tav⟩ := tax.get (i := j) (d := g.ans) (by rw [List.getElem?_map, eg]; rfl)
        have ekl : (s1.2.map fun g => V.str g.kd.s)[j]? = some (.str g.kd.s) := by rw [List.getElem?_map, eg]; rfl
        obtain ⟨gb, gys, rfl, hgb, gtys⟩ := Td.tup_inv trv
        obtain ⟨w1, q1, rfl, tw1, gtys⟩ := gtys.cons_inv
        have ej : ((0 : Int) + (j : Nat)) = (j : Int) := Int.zero_add _
        have a1 : atI rxs ((0 : Int) + (j : Nat)) = some (.ref gb) := by rw [ej]; exact atI_nat erv
        have a2 : atI (s1.2.map fun g => V.str g.kd.s) ((0 : Int) + (j : Nat)) = some (.str g.kd.s) := by rw [ej]; exact atI_nat ekl
        have a3 : atI axs ((0 : Int) + (j : Nat)) = some av := by rw [ej]; exact atI_nat eav
        refine ⟨_, rfl, t, _, _, _, rfl, rfl, hT d4, atI_nat (j := 1) rfl, ?_⟩
        refine ⟨_, rfl, ra, _, _, _, rfl, rfl, .inl (.inl (d4.tup _ _ hra)), a1, ?_⟩
        refine ⟨gb, _, _, _, rfl, rfl, .inl (.inl (d4.tup _ _ hgb)), atI_nat (j := 0) rfl, ?_⟩
        refine ⟨_, rfl, rb, _, _, _, rfl, rfl, hRq d4, atI_nat (j := 0) rfl, ?_⟩
        have tk1 := tw1.bt d4
        have tk2 := t1.bt d4
        refine ⟨kD g.rq.key, kD r.key, tk1.dp, tk2.dp, tk1.shaped (by rw [kD_depth]; omega), tk2.shaped (by rw [kD_depth]; omega), _, rfl, ?_⟩
        rw [tk1.eqv tk2]
        have et := filter_take (k := r.key) eg
        refine iteD2 (fun ee => ?_) (fun ee => ?_)
        · have ek : g.rq.key = r.key := kD_inj ee
          refine ⟨_, rfl, .inl ⟨rfl, _, .inl (.inl hz1)⟩, ?_⟩
          refine ⟨_, rfl, t, _, _, _, rfl, rfl, hT d4, atI_nat (j := 2) rfl, ?_⟩
          refine ⟨_, rfl, kl, _, _, _, rfl, rfl, .inl (.inl (d4.at hkl)), a2, ?_⟩
          refine ⟨_, rfl, t, _, _, _, rfl, rfl, hT d4, atI_nat (j := 3) rfl, ?_⟩
          refine ⟨_, rfl, aa, _, _, _, rfl, rfl, .inl (.inl (d4.tup _ _ haa)), a3, ?_⟩
          refine ⟨by show 2 ≤ sizeLine; decide, fun p5 n5 => ?_⟩
          generalize e5 : upd _ p5 _ = H5
          obtain ⟨S5, h5⟩ := new_of e5 n5
          clear e5
          refine ⟨lo, zs, _, rfl, rfl, S5.at hz1, sz_lt ?_, ?_⟩
          · rw [hz2.len, List.length_map, List.length_append]
            have q1 := onKey_len (k := r.key) (st := st.take i) ⟨fun p m => so.ids p (List.mem_of_mem_take m), fun p m => so.gr p (List.mem_of_mem_take m), fun p m => so.len p (List.mem_of_mem_take m)⟩ (by rw [List.length_take]; omega)
            have q2 : ((s1.2.take j).filter fun g => decide (g.rq.key = r.key)).length ≤ 100 := by
              refine Nat.le_trans (List.length_filter_le _ _) ?_
              rw [List.length_take]
              omega
            omega
          generalize e6 : upd _ lo _ = H6
          obtain ⟨S6, h6⟩ := mut_of e6 (S5.at hz1) trivial
          clear e6
          have b46 : Bt [lo] H4 H6 := S5.nil.trans S6
          refine ⟨_, rfl, b4.trans b46, c4.trans b46, _, h6, ?_⟩
          rw [et, if_pos ek, ← List.append_assoc, List.map_append]
          refine (hz2.bt b46).app (.one ?_)
          exact (Td.tup h5 (.cons (.str _ (Kd.ok _)) (.cons ((tav.bt d4).bt S5) .nil))).bt S6
        · have ek : ¬ g.rq.key = r.key := fun z => ee (by rw [z])
          refine ⟨_, rfl, b4, c4, zs, hz1, ?_⟩
          rw [et, if_neg ek, List.append_nil]
          exact hz2
      · rintro σ H4 ⟨u9, rfl, b4, c4, hz⟩
        refine ⟨_, _, rfl, b4, c4, ?_⟩
        rw [onKey_take es]
        rw [show (((rxs.length : Nat) : Int)).toNat = s1.2.length by omega, List.take_length] at hz
        exact hz
    · rintro σ H3 ⟨u5, u9, rfl, b3, c3, hlo⟩
      rw [svl, List.take_length, hL] at hlo
      have d3 : Bt [] H H3 := b3.dropN nlo0
      have tv3 := (tval.bt S2).bt c3
      obtain ⟨ys, hlo, ty⟩ := hlo
      have yl : ys.length = l.length := by rw [ty.len, List.length_map]
      clear b3 c3 b02 S2 b1 tval h2
      have hget : ∀ (i : Nat) (x : V) (H2 : Hp), ys[i]? = some x → Bt [] H3 H2 → ∃ (g : Gr) (b : Addr) (av : V), l[i]? = some g ∧ x = V.ref b ∧ H2 b = some (.tup [.str g.kd.s, av]) ∧ Td H2 av g.ans ∧ Td H2 x (besD g) := by
        intro i x H2 hx b2
        obtain ⟨dd, e2, t2⟩ := (ty.bt b2).get' hx
        rw [List.getElem?_map] at e2
        cases eg : l[i]? with
        | none => rw [eg] at e2; cases e2
        | some g =>
        rw [eg] at e2
        cases e2
        have t2' := t2
        obtain ⟨b, zs, rfl, hb, tz⟩ := Td.tup_inv t2
        obtain ⟨v1, r1, rfl, u1, tz⟩ := tz.cons_inv
        obtain ⟨v2, r2, rfl, u2, tz⟩ := tz.cons_inv
        cases tz.nil_inv
        have q1 := Td.str_inv u1
        subst q1
        exact ⟨g, b, v2, rfl, rfl, hb, u2, t2'⟩
      refine ⟨_, rfl, lo, rfl, ⟨_, .inl (.inl hlo)⟩, fun D1 nD1 => ?_⟩
      refine lcD (walk_list (K := K) (xs := ys)) nD1 (fun H b => b.sqL (.inl (.inl hlo))) (by omega) (fun i => ((l.take i).filter hardG).map besD) rfl ?_ ?_
      · intro i x H4 hx b4 N1 N2 k1 k2
        obtain ⟨g, b, av, eg, rfl, hb, _, tb⟩ := hget i x H4 hx b4
        refine ⟨rfl, ?_⟩
        refine ⟨_, rfl, b, _, _, _, rfl, rfl, .inl (.inl hb), atI_nat (j := 0) rfl, ?_⟩
        refine ⟨by show 3 ≤ sizeLine; decide, fun l5 nl5 => ?_⟩
        generalize e5 : upd _ l5 _ = H5
        obtain ⟨S5, h5⟩ := new_of e5 nl5
        clear e5
        refine ⟨l5, _, rfl, .inl (.inl (.inl h5)), rfl, rfl, ?_⟩
        have et := ft_take hardG besD eg
        refine ⟨_, rfl, ite1 (fun e => ?_) (fun e => ?_)⟩
        · have e' : hardG g = true := e
          refine ⟨_, rfl, k1 _ H5 _ S5 (tb.bt S5) ?_⟩
          show ((l.take (i + 1)).filter hardG).map besD = _
          rw [et, if_pos e']
        · have e' : hardG g = false := e
          refine k2 H5 S5 ?_
          show ((l.take (i + 1)).filter hardG).map besD = _
          rw [et, if_neg (by rw [e']; exact Bool.false_ne_true), List.append_nil]
      intro H4 hvs b4 hD1 th
      rw [yl, List.take_length] at th
      have hhl : hvs.length = (l.filter hardG).length := by rw [th.len, List.length_map]
      clear th
      refine ⟨_, rfl, lo, rfl, ⟨_, .inl (.inl (b4.at hlo))⟩, fun D2 nD2 => ?_⟩
      refine lcD (walk_list (K := K) (xs := ys)) nD2 (fun H b => b.sqL (.inl (.inl (b4.at hlo)))) (by omega) (fun i => ((l.take i).filter seeG).map besD) rfl ?_ ?_
      · intro i x H5 hx b5 N1 N2 k1 k2
        obtain ⟨g, b, av, eg, rfl, hb, _, tb⟩ := hget i x H5 hx (b4.trans b5)
        refine ⟨rfl, ?_⟩
        refine ⟨_, rfl, b, _, _, _, rfl, rfl, .inl (.inl hb), atI_nat (j := 0) rfl, ?_⟩
        refine ⟨rfl, _, rfl, ?_⟩
        have et := ft_take seeG besD eg
        refine iteD2 (fun e => ?_) (fun e => ?_)
        · have e' : seeG g = true := decide_eq_true (Kd.s_inj (b := .see) (V.str.inj e))
          refine ⟨_, rfl, k1 _ H5 _ Bt.refl tb ?_⟩
          show ((l.take (i + 1)).filter seeG).map besD = _
          rw [et, if_pos e']
        · have e' : seeG g = false := decide_eq_false (fun z => e (by rw [z]; rfl))
          refine k2 H5 Bt.refl ?_
          show ((l.take (i + 1)).filter seeG).map besD = _
          rw [et, if_neg (by rw [e']; exact Bool.false_ne_true), List.append_nil]
      intro H5 svs2 b5 hD2 th
      rw [yl, List.take_length] at th
      have hsl : svs2.length = (l.filter seeG).length := by rw [th.len, List.length_map]
      clear th
      have b35 := b4.trans b5
      refine ⟨_, rfl, lo, rfl, ⟨_, .inl (.inl (b35.at hlo))⟩, fun D3 nD3 => ?_⟩
      refine lcX (walk_list (K := K) (xs := ys)) nD3 (fun H b => b.sqL (.inl (.inl (b35.at hlo)))) (by omega) (fun i => ((l.take i).filter amplG).map fun g => V.int g.rq.many) rfl ?_ ?_
      · intro i x H6 hx b6 N1 N2 k1 k2
        obtain ⟨g, b, av, eg, rfl, hb, tav, tb⟩ := hget i x H6 hx (b35.trans b6)
        refine ⟨rfl, ?_⟩
        refine ⟨_, rfl, b, _, _, _, rfl, rfl, .inl (.inl hb), atI_nat (j := 0) rfl, ?_⟩
        refine ⟨rfl, _, rfl, ?_⟩
        have et := ft_take amplG (fun g : Gr => V.int g.rq.many) eg
        refine iteD2 (fun e => ?_) (fun e => ?_)
        · have e0 : g.kd = .ample := Kd.s_inj (b := .ample) (V.str.inj e)
          have e' : amplG g = true := decide_eq_true e0
          rw [((gok g (List.mem_of_getElem? eg)).ample e0).2] at tav
          have eav := Td.int_inv tav
          subst eav
          refine ⟨_, rfl, b, _, _, _, rfl, rfl, .inl (.inl hb), atI_nat (j := 1) rfl, ?_⟩
          refine k1 _ H6 Bt.refl ?_
          show ((l.take (i + 1)).filter amplG).map (fun g : Gr => V.int g.rq.many) = _
          rw [et, if_pos e']
        · have e' : amplG g = false := decide_eq_false (fun z => e (by rw [z]; rfl))
          refine k2 H6 Bt.refl ?_
          show ((l.take (i + 1)).filter amplG).map (fun g : Gr => V.int g.rq.many) = _
          rw [et, if_neg (by rw [e']; exact Bool.false_ne_true), List.append_nil]
      intro H6 b6 hD3
      rw [yl, List.take_length] at hD3
      refine ⟨D3, (l.filter amplG).map (·.rq.many), rfl, .inl (.inl (by rw [List.map_map]; exact hD3)), ?_⟩
      rw [room_eq]
      have b36 := b35.trans b6
      have d6 := d3.trans b36
      have tv6 := tv3.bt b36
      have hlo6 := b36.at hlo
      have hD16 := (b5.trans b6).at hD1
      have hD26 := b6.at hD2
      have e0 : l.length = 0 ↔ l = [] := List.length_eq_zero_iff
      -- the end of each way: none, or a pair
      have wayR : ∀ (kd : Kd) (uv : V) (H7 : Hp) (t : Addr) (c : Bool) (dd : PyData), Bt [] H6 H7 → H7 t = some (.tup [.str kd.s, uv]) → Td H7 uv dd → besR (beside vals st r) = (if c = true then .tuple [.str kd.s, dd] else .none) → Q (if c = true then .ref t else .non) H7 := by
        intro kd uv H7 t c dd b7 ht tu e
        refine q _ H7 (d6.trans b7) ?_
        rw [e]
        cases c with
        | true => exact .tup ht (.cons (.str _ kd.ok) (.cons tu .nil))
        | false => exact .non
      have hemp : (decide (V.int (ys.length : Int) = V.int 0) = true) ↔ l = [] := by
        rw [decide_eq_true_iff, ← e0, ← yl]
        constructor
        · intro z; have := V.int.inj z; omega
        · intro z; rw [z]; rfl
      have hhard : (decide (V.int (hvs.length : Int) = V.int 0) = true) ↔ l.all softG = true := by
        rw [decide_eq_true_iff, ← hard_len, ← hhl]
        constructor
        · intro z; have := V.int.inj z; omega
        · intro z; rw [z]; rfl
      refine ⟨_, rfl, rb, _, _, _, rfl, rfl, hRq d6, atI_nat (j := 1) rfl, ?_⟩
      refine ⟨rfl, _, rfl, ?_⟩
      refine iteD2 (fun z => ?_) (fun z1 => ?_)
      · have em : r.md = .see := Md.s_inj (b := .see) (V.str.inj z)
        refine ⟨_, rfl, by show 2 ≤ sizeLine; decide, fun t nt => ?_⟩
        generalize e7 : upd _ t _ = H7
        obtain ⟨S7, h7⟩ := new_of e7 nt
        clear e7
        refine ⟨by show 2 ≤ sizeLine; decide, fun l8 nl8 => ?_⟩
        generalize e8 : upd _ l8 _ = H8
        obtain ⟨S8, h8⟩ := new_of e8 nl8
        clear e8
        refine ⟨_, rfl, D2, _, rfl, .inl (.inl (.inl ((S7.trans S8).at hD26))), ?_⟩
        refine ⟨_, rfl, lo, _, rfl, .inl (.inl (.inl ((S7.trans S8).at hlo6))), ?_⟩
        refine ⟨rfl, ?_⟩
        refine .inr ⟨_, rfl, ?_⟩
        refine ⟨l8, _, _, _, rfl, rfl, .inl (.inl h8), pick2 _, ?_⟩
        refine wayR .see vv H8 t _ (gv vals r.key) (S7.trans S8) (S8.at h7) (tv6.bt (S7.trans S8)) (sel (g := ⟨r, .see, gv vals r.key⟩) (p := l.all (fun g => decide (g.kd = .see)) = true) ?_ ?_)
        · rw [decide_eq_true_iff, ← see_len, ← hsl, ← yl]
          constructor
          · intro z; have := V.int.inj z; omega
          · intro z; rw [z]
        · unfold beside
          rw [em]
          dsimp only
          rw [hL]
      have n1 : r.md ≠ .see := fun e => z1 (by rw [e]; rfl)
      refine ⟨_, rfl, rb, _, _, _, rfl, rfl, hRq d6, atI_nat (j := 1) rfl, ?_⟩
      refine ⟨rfl, _, rfl, ?_⟩
      refine iteD2 (fun z => ?_) (fun z2 => ?_)
      · have em : r.md = .own := Md.s_inj (b := .own) (V.str.inj z)
        refine ⟨_, rfl, by show 2 ≤ sizeLine; decide, fun t nt => ?_⟩
        generalize e7 : upd _ t _ = H7
        obtain ⟨S7, h7⟩ := new_of e7 nt
        clear e7
        refine ⟨by show 2 ≤ sizeLine; decide, fun l8 nl8 => ?_⟩
        generalize e8 : upd _ l8 _ = H8
        obtain ⟨S8, h8⟩ := new_of e8 nl8
        clear e8
        refine ⟨_, rfl, lo, _, rfl, .inl (.inl (.inl ((S7.trans S8).at hlo6))), ?_⟩
        refine ⟨rfl, ?_⟩
        refine .inr ⟨_, rfl, ?_⟩
        refine ⟨l8, _, _, _, rfl, rfl, .inl (.inl h8), pick2 _, ?_⟩
        refine wayR .own vv H8 t _ (gv vals r.key) (S7.trans S8) (S8.at h7) (tv6.bt (S7.trans S8)) (sel (g := ⟨r, .own, gv vals r.key⟩) (p := l = []) hemp ?_)
        unfold beside
        rw [em]
        dsimp only
        rw [hL]
      have n2 : r.md ≠ .own := fun e => z2 (by rw [e]; rfl)
      refine ⟨_, rfl, rb, _, _, _, rfl, rfl, hRq d6, atI_nat (j := 1) rfl, ?_⟩
      refine ⟨rfl, _, rfl, ?_⟩
      refine iteD2 (fun z => ?_) (fun z3 => ?_)
      · have em : r.md = .add := Md.s_inj (b := .add) (V.str.inj z)
        refine ⟨by show 2 ≤ sizeLine; decide, fun t nt => ?_⟩
        generalize e7 : upd _ t _ = H7
        obtain ⟨S7, h7⟩ := new_of e7 nt
        clear e7
        refine ⟨by show 2 ≤ sizeLine; decide, fun l8 nl8 => ?_⟩
        generalize e8 : upd _ l8 _ = H8
        obtain ⟨S8, h8⟩ := new_of e8 nl8
        clear e8
        refine ⟨_, rfl, D1, _, rfl, .inl (.inl (.inl ((S7.trans S8).at hD16))), ?_⟩
        refine ⟨rfl, ?_⟩
        refine .inr ⟨_, rfl, ?_⟩
        refine ⟨l8, _, _, _, rfl, rfl, .inl (.inl h8), pick2 _, ?_⟩
        refine wayR .add .non H8 t _ .none (S7.trans S8) (S8.at h7) .non (sel (g := ⟨r, .add, .none⟩) (p := l.all softG = true) hhard ?_)
        unfold beside
        rw [em]
        dsimp only
        rw [hL]
      have n3 : r.md ≠ .add := fun e => z3 (by rw [e]; rfl)
      have em : r.md = .take := by
        cases e : r.md with
        | see => exact absurd e n1
        | own => exact absurd e n2
        | add => exact absurd e n3
        | take => rfl
      obtain ⟨m, emv⟩ := po.gv rq.key (rq.take em)
      have emv : gv vals r.key = .int m := emv
      have tvi := tv6
      rw [emv] at tvi
      have evv := Td.int_inv tvi
      subst evv
      have short : ¬ (l.all softG = true ∧ r.many ≤ intD (gv vals r.key) - roomOf l) → beside vals st r = if l = [] then some ⟨r, .short, gv vals r.key⟩ else none := by
        intro hno
        unfold beside
        rw [em]
        dsimp only
        rw [hL, if_neg hno]
      refine ⟨_, rfl, D1, _, rfl, .inl (.inl (.inl hD16)), ?_⟩
      refine ⟨rfl, _, rfl, ?_⟩
      refine iteD2 (fun z => ?_) (fun z4 => ?_)
      · have hs := hhard.mp (decide_eq_true z)
        refine ⟨_, rfl, rb, _, _, _, rfl, rfl, hRq d6, atI_nat (j := 2) rfl, ?_⟩
        refine ⟨_, rfl, _, rfl, _, _, rfl, rfl, _, _, rfl, rfl, _, rfl, ?_⟩
        refine iteD2 (fun z5 => ?_) (fun z5 => ?_)
        · refine ⟨_, rfl, rb, _, _, _, rfl, rfl, hRq d6, atI_nat (j := 2) rfl, ?_⟩
          refine ⟨by show 2 ≤ sizeLine; decide, fun t nt => ?_⟩
          generalize e7 : upd _ t _ = H7
          obtain ⟨S7, h7⟩ := new_of e7 nt
          clear e7
          refine q _ H7 (d6.trans S7) ?_
          have eb : beside vals st r = some ⟨r, .ample, .int r.many⟩ := by
            unfold beside
            rw [em]
            dsimp only
            rw [hL]
            exact if_pos ⟨hs, by rw [emv]; exact z5⟩
          rw [eb]
          exact .tup h7 (.cons (.str _ (Kd.ok .ample)) (.cons (.int _) .nil))
        · have hno : ¬ (l.all softG = true ∧ r.many ≤ intD (gv vals r.key) - roomOf l) := fun e => z5 (by have := e.2; rw [emv] at this; exact this)
          refine ⟨_, rfl, by show 2 ≤ sizeLine; decide, fun t nt => ?_⟩
          generalize e7 : upd _ t _ = H7
          obtain ⟨S7, h7⟩ := new_of e7 nt
          clear e7
          refine ⟨by show 2 ≤ sizeLine; decide, fun l8 nl8 => ?_⟩
          generalize e8 : upd _ l8 _ = H8
          obtain ⟨S8, h8⟩ := new_of e8 nl8
          clear e8
          refine ⟨_, rfl, lo, _, rfl, .inl (.inl (.inl ((S7.trans S8).at hlo6))), ?_⟩
          refine ⟨rfl, ?_⟩
          refine .inr ⟨_, rfl, ?_⟩
          refine ⟨l8, _, _, _, rfl, rfl, .inl (.inl h8), pick2 _, ?_⟩
          exact wayR .short (.int m) H8 t _ (gv vals r.key) (S7.trans S8) (S8.at h7) (tv6.bt (S7.trans S8)) (sel (g := ⟨r, .short, gv vals r.key⟩) (p := l = []) hemp (short hno))
      · have hno : ¬ (l.all softG = true ∧ r.many ≤ intD (gv vals r.key) - roomOf l) := fun e => z4 (of_decide_eq_true (hhard.mpr e.1))
        refine ⟨_, rfl, by show 2 ≤ sizeLine; decide, fun t nt => ?_⟩
        generalize e7 : upd _ t _ = H7
        obtain ⟨S7, h7⟩ := new_of e7 nt
        clear e7
        refine ⟨by show 2 ≤ sizeLine; decide, fun l8 nl8 => ?_⟩
        generalize e8 : upd _ l8 _ = H8
        obtain ⟨S8, h8⟩ := new_of e8 nl8
        clear e8
        refine ⟨_, rfl, lo, _, rfl, .inl (.inl (.inl ((S7.trans S8).at hlo6))), ?_⟩
        refine ⟨rfl, ?_⟩
        refine .inr ⟨_, rfl, ?_⟩
        refine ⟨l8, _, _, _, rfl, rfl, .inl (.inl h8), pick2 _, ?_⟩
        exact wayR .short (.int m) H8 t _ (gv vals r.key) (S7.trans S8) (S8.at h7) (tv6.bt (S7.trans S8)) (sel (g := ⟨r, .short, gv vals r.key⟩) (p := l = []) hemp (short hno))
end
end K33

/-! K21: shares, the law's pass -/
namespace K33
open PySem L2
def shB (a b : Ask) : Bool := b.2.any fun r => a.2.any fun q => decide (q.key = r.key)
def shP (a : Ask) (r : Rq) : Bool := a.2.any fun q => decide (q.key = r.key)
theorem shP_eq (a : Ask) (r : Rq) : shP a r = decide (kD r.key ∈ a.2.map fun q => kD q.key) := by
  unfold shP
  rw [Bool.eq_iff_iff, decide_eq_true_iff, List.any_eq_true, List.mem_map]
  constructor
  · rintro ⟨q, m, e⟩
    exact ⟨q, m, by rw [of_decide_eq_true e]⟩
  · rintro ⟨q, m, e⟩
    exact ⟨q, m, decide_eq_true (kD_inj e)⟩
theorem sh_len (a b : Ask) : decide (((b.2.filter (shP a)).length : Int) > 0) = shB a b := by
  unfold shB
  have e : (fun r : Rq => a.2.any fun q => decide (q.key = r.key)) = shP a := rfl
  rw [e, Bool.eq_iff_iff, decide_eq_true_iff, List.any_eq_true]
  constructor
  · intro h
    have : 0 < (b.2.filter (shP a)).length := by omega
    obtain ⟨r, m⟩ := List.exists_mem_of_length_pos this
    obtain ⟨m1, m2⟩ := List.mem_filter.mp m
    exact ⟨r, m1, m2⟩
  · rintro ⟨r, m1, m2⟩
    have := List.length_pos_of_mem (List.mem_filter.mpr ⟨m1, m2⟩)
    omega
theorem blk_len (left : List Ask) (a : Ask) : (left.filter fun x => shB x a).length = 0 ↔ ¬ blockedBy left a.2 = true := by
  rw [List.length_eq_zero_iff, List.filter_eq_nil_iff]
  unfold blockedBy shB
  constructor
  · intro h z
    rw [List.any_eq_true] at z
    obtain ⟨r, m, e⟩ := z
    rw [List.any_eq_true] at e
    obtain ⟨x, mx, e⟩ := e
    exact h x mx (List.any_eq_true.mpr ⟨r, m, e⟩)
  · intro h x mx z
    rw [List.any_eq_true] at z
    obtain ⟨r, m, e⟩ := z
    exact h (List.any_eq_true.mpr ⟨r, m, List.any_eq_true.mpr ⟨x, mx, e⟩⟩)
def besL (vals : Vs) (st : Std) (rs : List Rq) : List PyData := rs.map fun r => besR (beside vals st r)
theorem gf_none {vals : Vs} {st : Std} : ∀ {rs : List Rq}, PyData.none ∈ besL vals st rs → grantsFor vals st rs = none
  | [], h => nomatch h
  | r :: rs, h => by
    unfold grantsFor
    cases e : beside vals st r with
    | none => rfl
    | some g =>
      unfold besL at h
      rw [List.map_cons, e] at h
      rcases List.mem_cons.mp h with z | z
      · cases z
      · dsimp only
        rw [gf_none z]
        rfl
theorem gf_some {vals : Vs} {st : Std} : ∀ {rs : List Rq}, PyData.none ∉ besL vals st rs → ∃ gs, grantsFor vals st rs = some gs ∧ besL vals st rs = gs.map besD
  | [], _ => ⟨[], rfl, rfl⟩
  | r :: rs, h => by
    unfold besL at h
    rw [List.map_cons] at h
    cases e : beside vals st r with
    | none =>
      rw [e] at h
      exact absurd List.mem_cons_self h
    | some g =>
      obtain ⟨gs, h1, h2⟩ := gf_some (rs := rs) fun z => h (List.mem_cons_of_mem _ z)
      refine ⟨g :: gs, ?_, ?_⟩
      · unfold grantsFor
        rw [e, h1]
        rfl
      · unfold besL at h2 ⊢
        rw [List.map_cons, List.map_cons, h2, e]
        rfl
section
variable {P : Program} {w : World} {K : PySem.W.Frag} {mg : Str → Option Value} {base : Heap}
def spShares : Sp := fun vs H Q _ => ∃ (v1 v2 : V) (a b : Ask), vs = [v1, v2] ∧ Td H v1 (askD a) ∧ Td H v2 (askD b) ∧ a.2.length ≤ 100 ∧ b.2.length ≤ 100 ∧ ∀ H', Bt [] H H' → Q (.bl (shB a b)) H'
abbrev s_law_shares : Stmt := top 48
theorem sc_law_shares : FnScope ["_law_one", "_law_two", "_law_keys", "_law_request"] ["_law_one", "_law_two"] (defScope s_law_shares) := ⟨rfl, rfl, rfl, by decide +kernel, rfl, by decide +kernel, by decide +kernel⟩
theorem ok_shares {f : Addr} {fd : FuncData} (F : Fun K "_law_shares" "_law_shares" s_law_shares f fd) (T : Blt mg) : FnOk P w K mg base CX0 1 f fd ["_law_one", "_law_two"] spShares := by
  refine F.ok sc_law_shares (fun vs H Q E h => ?_) (fun cdv A outer s H vs Q E hr h => ?_)
  · obtain ⟨_, _, _, _, rfl, _⟩ := h
    rfl
  · obtain ⟨v1, v2, a, b, rfl, ta, tb, la, lb, q⟩ := h
    obtain ⟨t1, ys1, rfl, h1, tys1⟩ := Td.tup_inv ta
    obtain ⟨i1, z1, rfl, ti1, tys1⟩ := tys1.cons_inv
    obtain ⟨r1, z1', rfl, tr1, tys1⟩ := tys1.cons_inv
    cases tys1.nil_inv
    obtain ⟨ra, xa, rfl, hra, txa⟩ := Td.tup_inv tr1
    obtain ⟨t2, ys2, rfl, h2, tys2⟩ := Td.tup_inv tb
    obtain ⟨i2, z2, rfl, ti2, tys2⟩ := tys2.cons_inv
    obtain ⟨r2, z2', rfl, tr2, tys2⟩ := tys2.cons_inv
    cases tys2.nil_inv
    obtain ⟨rb, xb, rfl, hrb, txb⟩ := Td.tup_inv tr2
    have xal : xa.length = a.2.length := by rw [txa.len, List.length_map]
    have xbl : xb.length = b.2.length := by rw [txb.len, List.length_map]
    refine ⟨_, ((pss_cons (ps_set (i := 2) sc_law_shares.nd rfl (Or.inr rfl) (pe_lc (own := [("_law_request", 3)]) (g := gName 3)  rfl sc_law_shares.nd (pi_tup (pe_ix (ix_tupK (K := K) rfl) (pv 0) pe_int (fun _ _ => rfl))) (blkOk_by (own := [("_law_request", 3)]) (N := ["_law_one", "_law_two", "_law_keys", "_law_request"]) (sc := defScope s_law_shares) (by decide +kernel)) (fun _ _ _ _ _ => (pg_name (i := 3) sc_law_shares.nd rfl (Or.inl rfl))) (fun _ _ _ _ _ => pts_nil) (fun _ _ _ _ _ => (pe_ix (ix_tupK (K := K) rfl) (pv 3) pe_int (fun _ _ => rfl)))))
  (pss_one (ps_ret (pe_cmpR op_gt (pe_callB call_len_seq (by rfl) T.len B_len (pa_cons (pe_lc (own := [("_law_request", 3)]) (g := gName 3)  rfl sc_law_shares.nd (pi_tup (pe_ix (ix_tupK (K := K) rfl) (pv 1) pe_int (fun _ _ => rfl))) (blkOk_by (own := [("_law_request", 3)]) (N := ["_law_one", "_law_two", "_law_keys", "_law_request"]) (sc := defScope s_law_shares) (by decide +kernel)) (fun _ _ _ _ _ => (pg_name (i := 3) sc_law_shares.nd rfl (Or.inl rfl))) (fun _ _ _ _ _ => pts_one (pt_cmpR (op_inDK (K := K) rfl (u65 hr)) (pe_ix (ix_tupK (K := K) rfl) (pv 3) pe_int (fun _ _ => rfl)) (pv 2) rfl)) (fun _ _ _ _ _ => (pv 3))) pa_nil)) pe_int (nomark _)))))), ?_⟩
    refine ⟨_, rfl, t1, _, _, _, rfl, rfl, .inl (.inl h1), atI_nat (j := 1) rfl, ?_⟩
    refine ⟨ra, rfl, ⟨_, .inl (.inl hra)⟩, fun D nD => ?_⟩
    refine lcD (walk_tup (K := K) (xs := xa)) nD (fun H b => .inl (.inl (b.tup _ _ hra))) (by omega) (fun i => (a.2.take i).map fun q => kD q.key) rfl ?_ ?_
    · intro i x H2 hx b2 N1 N2 k1 k2
      obtain ⟨dd, e2, td⟩ := (txa.bt b2).get' hx
      rw [List.getElem?_map] at e2
      cases eg : a.2[i]? with
      | none => rw [eg] at e2; cases e2
      | some r =>
      rw [eg] at e2
      cases e2
      obtain ⟨qb, qs, rfl, hqb, tqs⟩ := Td.tup_inv td
      obtain ⟨w1, q1, rfl, tw1, tqs⟩ := tqs.cons_inv
      refine ⟨rfl, ?_⟩
      refine ⟨_, rfl, qb, _, _, _, rfl, rfl, .inl (.inl hqb), atI_nat (j := 0) rfl, ?_⟩
      exact k1 _ H2 _ Bt.refl tw1 (take_map _ eg)
    intro H2 kvs b2 hD tk
    rw [xal, List.take_length] at tk
    refine ⟨_, rfl, t2, _, _, _, rfl, rfl, .inl (.inl (b2.tup _ _ h2)), atI_nat (j := 1) rfl, ?_⟩
    refine ⟨rb, rfl, ⟨_, .inl (.inl (b2.tup _ _ hrb))⟩, fun D2 nD2 => ?_⟩
    refine lcD (walk_tup (K := K) (xs := xb)) nD2 (fun H b => .inl (.inl (b.tup _ _ (b2.tup _ _ hrb)))) (by omega) (fun i => ((b.2.take i).filter (shP a)).map reqD) rfl ?_ ?_
    · intro i x H3 hx b3 N1 N2 k1 k2
      obtain ⟨dd, e2, td⟩ := ((txb.bt b2).bt b3).get' hx
      rw [List.getElem?_map] at e2
      cases eg : b.2[i]? with
      | none => rw [eg] at e2; cases e2
      | some r =>
      rw [eg] at e2
      cases e2
      have td0 := td
      obtain ⟨qb, qs, rfl, hqb, tqs⟩ := Td.tup_inv td
      obtain ⟨w1, q1, rfl, tw1, tqs⟩ := tqs.cons_inv
      have lsk : LsAt H3 D (a.2.map fun q => kD q.key) := ⟨_, b3.at hD, tk.bt b3⟩
      refine ⟨rfl, ?_⟩
      refine ⟨_, rfl, qb, _, _, _, rfl, rfl, .inl (.inl hqb), atI_nat (j := 0) rfl, ?_⟩
      refine ⟨_, rfl, _, _, tw1.dp, lsk.dp, tw1.shaped (by rw [kD_depth]; omega), lsk.shaped (fun x m => ?_), ?_⟩
      · obtain ⟨q, _, e⟩ := List.mem_map.mp m
        rw [← e, kD_depth]
        omega
      rw [lsk.any tw1]
      have et := ft_take (shP a) reqD eg
      refine ⟨_, rfl, ite1 (fun e => ?_) (fun e => ?_)⟩
      · have e' : shP a r = true := (shP_eq a r).trans e
        refine ⟨_, rfl, k1 _ H3 _ Bt.refl td0 ?_⟩
        show ((b.2.take (i + 1)).filter (shP a)).map reqD = _
        rw [et, if_pos e']
      · have e' : shP a r = false := (shP_eq a r).trans e
        refine k2 H3 Bt.refl ?_
        show ((b.2.take (i + 1)).filter (shP a)).map reqD = _
        rw [et, if_neg (by rw [e']; exact Bool.false_ne_true), List.append_nil]
    intro H3 fs b3 hD2 tf
    rw [xbl, List.take_length] at tf
    refine ⟨D2, _, rfl, .inl (.inl (.inl hD2)), ?_⟩
    refine ⟨_, _, rfl, rfl, ?_⟩
    show Q (.bl (decide ((fs.length : Int) > 0))) H3
    rw [show fs.length = (b.2.filter (shP a)).length by rw [tf.len, List.length_map], sh_len]
    exact q H3 (b2.trans b3)
/-! ### the pass -/
theorem paired_snoc {α β : Type} {r : α → β → Prop} : ∀ {xs : List α} {ys : List β} {x : α} {y : β}, Paired r xs ys → r x y → Paired r (xs ++ [x]) (ys ++ [y])
  | _, _, _, _, .nil, h => .cons h .nil
  | _, _, _, _, .cons a t, h => .cons a (paired_snoc t h)
structure LpAt (R : List Addr) (H0 : Hp) (p4 p5 ls lt : Addr) (ps : Ps) (H : Hp) : Prop where
  b : Bt [p4, p5, ls, lt] H0 H
  h4 : LsAt H p4 (ps.told.map toldD)
  h5 : LsAt H p5 (ps.left.map askD)
  hs : StL (p4 :: p5 :: R) H ls ps.st
  ht : LsAt H lt (ps.tr.map trD)
def spPass (R : List Addr) : Sp := fun vs H Q _ => ∃ (dv lw ls lt : Addr) (h : Int) (vals : Vs) (asks : List Ask) (st : Std) (tr : Tr), vs = [.ref dv, .ref lw, .ref ls, .ref lt] ∧ DictAt H dv vals ∧ LsAt H lw (asks.map askD) ∧ StL R H ls st ∧ LsAt H lt (tr.map trD) ∧ StOk h vals asks st tr ∧
  lw ≠ ls ∧ lw ≠ lt ∧ ls ≠ lt ∧ lw ∈ R ∧ ls ∈ R ∧ lt ∈ R ∧ (∀ x ∈ R, H x ≠ none) ∧
  ∀ v H', Bt [lw, ls, lt] H H' → LsAt H' lw ((pass vals asks st tr).left.map askD) → StL R H' ls (pass vals asks st tr).st → LsAt H' lt ((pass vals asks st tr).tr.map trD) → Td H' v (.tuple ((pass vals asks st tr).told.map toldD)) → Q v H'
abbrev s_law_pass : Stmt := top 49
theorem sc_law_pass : FnScope ["_law_values_here", "_law_waiting", "_law_standing", "_law_trace", "_law_told", "_law_left", "_law_ask", "_law_found", "_law_answers", "_law_request", "_law_other_here", "_law_one"] ["_law_values_here", "_law_waiting", "_law_standing", "_law_trace"] (defScope s_law_pass) := ⟨rfl, rfl, rfl, by decide +kernel, rfl, by decide +kernel, by decide +kernel⟩
theorem ok_pass {f : Addr} {fd : FuncData} (F : Fun K "_law_pass" "_law_pass" s_law_pass f fd) (T : Blt mg) (R : List Addr) (C_law_shares : Cal P w K mg base "_law_shares" 1 spShares) (C_law_beside : Cal P w K mg base "_law_beside" 2 (spBeside R)) : FnOk P w K mg base CX0 3 f fd ["_law_values_here", "_law_waiting", "_law_standing", "_law_trace"] (spPass R) := by
  refine F.ok sc_law_pass (fun vs H Q E h => ?_) (fun cdv A outer s H vs Q E hr h => ?_)
  · obtain ⟨_, _, _, _, _, _, _, _, _, rfl, _⟩ := h
    rfl
  · obtain ⟨dv, lw, ls, lt, h, vals, asks, st, tr, rfl, hd, ⟨lvs, hlw, tla⟩, hst, hlt, so, nws, nwt, nst, mw, ms, mt, hR, q⟩ := h
    have lal : lvs.length = asks.length := by rw [tla.len, List.length_map]
    have hsz := so.sz
    obtain ⟨kvv, hdv, _⟩ := _root_.id hd
    obtain ⟨svs0, hls0, _⟩ := _root_.id hst
    obtain ⟨tvs0, hlt0, _⟩ := _root_.id hlt
    refine ⟨_, ((pss_cons (ps_set (i := 4) sc_law_pass.nd rfl (Or.inl rfl) (pe_lst pa_nil))
  (pss_cons (ps_set (i := 5) sc_law_pass.nd rfl (Or.inl rfl) (pe_lst pa_nil))
  (pss_cons (ps_for PassesOwn.never rfl (pi_list (pv 1)) (pg_name (i := 6) sc_law_pass.nd rfl (Or.inr rfl))
  (pss_cons (ps_set (i := 7) sc_law_pass.nd rfl (Or.inl rfl) (pe_lst pa_nil))
  (pss_cons (ps_if (pt_cmpR op_eq (pe_callB call_len_seq (by rfl) T.len B_len (pa_cons (pe_lc (own := [("_law_other_here", 10)]) (g := gName 10)  rfl sc_law_pass.nd (pi_list (pv 5)) (blkOk_by (own := [("_law_other_here", 10)]) (N := ["_law_values_here", "_law_waiting", "_law_standing", "_law_trace", "_law_told", "_law_left", "_law_ask", "_law_found", "_law_answers", "_law_request", "_law_other_here", "_law_one"]) (sc := defScope s_law_pass) (by decide +kernel)) (fun _ _ _ _ _ => (pg_name (i := 10) sc_law_pass.nd rfl (Or.inl rfl))) (fun _ _ _ _ _ => pts_one (pt_val (pe_cc C_law_shares hr (by decide) (by rfl) (pa_cons (pv 10) (pa_cons (pv 6) pa_nil))))) (fun _ _ _ _ _ => (pv 10))) pa_nil)) pe_int (nomark _)) (pss_one (ps_setLc (i := 7) (own := [("_law_request", 9)]) (g := gName 9)  rfl sc_law_pass.nd rfl rfl (sw_true rfl rfl rfl (by decide +kernel)) (pi_tup (pe_ix (ix_tupK (K := K) rfl) (pv 6) pe_int (fun _ _ => rfl))) (blkOk_by (own := [("_law_request", 9)]) (N := ["_law_values_here", "_law_waiting", "_law_standing", "_law_trace", "_law_told", "_law_left", "_law_ask", "_law_found", "_law_answers", "_law_request", "_law_other_here", "_law_one"]) (sc := defScope s_law_pass) (by decide +kernel)) (fun _ _ _ _ _ => (pg_name (i := 9) sc_law_pass.nd rfl (Or.inl rfl))) (fun _ _ _ _ _ => pts_nil) (fun _ _ _ _ _ => (pe_cc C_law_beside hr (by decide) (by rfl) (pa_cons (pv 0) (pa_cons (pv 2) (pa_cons (pv 9) pa_nil))))))) pss_nil)
  (pss_one (ps_if (PW.pt (pw_or (pt_cmpR op_eq (pe_callB call_len_seq (by rfl) T.len B_len (pa_cons (pv 7) pa_nil)) pe_int (nomark _)) (pw_or1 (pt_cmpR (op_inDK (K := K) rfl (u65 hr)) pe_non (pv 7) rfl)))) (pss_one (ps_expr (pe_bm PySem.F.plainAttrs_list PySem.F.slot_list_append PySem.F.type_list_append mt_append (pv 5) (pa_cons (pv 6) pa_nil)))) (pss_cons (ps_set (i := 8) sc_law_pass.nd rfl (Or.inl rfl) (pe_callTy call_tuple_of (by rfl) T.tuple B_tuple (pa_cons (pe_lc (own := [("_law_one", 11)]) (g := gName 11)  rfl sc_law_pass.nd (pi_list (pv 7)) (blkOk_by (own := [("_law_one", 11)]) (N := ["_law_values_here", "_law_waiting", "_law_standing", "_law_trace", "_law_told", "_law_left", "_law_ask", "_law_found", "_law_answers", "_law_request", "_law_other_here", "_law_one"]) (sc := defScope s_law_pass) (by decide +kernel)) (fun _ _ _ _ _ => (pg_name (i := 11) sc_law_pass.nd rfl (Or.inl rfl))) (fun _ _ _ _ _ => pts_nil) (fun _ _ _ _ _ => (pe_ix (ix_tupK (K := K) rfl) (pv 11) pe_int (fun _ _ => rfl)))) pa_nil)))
  (pss_cons (ps_expr (pe_bm PySem.F.plainAttrs_list PySem.F.slot_list_append PySem.F.type_list_append mt_append (pv 2) (pa_cons (pe_tup (pa_cons (pe_ix (ix_tupK (K := K) rfl) (pv 6) pe_int (fun _ _ => rfl)) (pa_cons (pe_ix (ix_tupK (K := K) rfl) (pv 6) pe_int (fun _ _ => rfl)) (pa_cons (pe_lc (own := [("_law_one", 11)]) (g := gName 11)  rfl sc_law_pass.nd (pi_list (pv 7)) (blkOk_by (own := [("_law_one", 11)]) (N := ["_law_values_here", "_law_waiting", "_law_standing", "_law_trace", "_law_told", "_law_left", "_law_ask", "_law_found", "_law_answers", "_law_request", "_law_other_here", "_law_one"]) (sc := defScope s_law_pass) (by decide +kernel)) (fun _ _ _ _ _ => (pg_name (i := 11) sc_law_pass.nd rfl (Or.inl rfl))) (fun _ _ _ _ _ => pts_nil) (fun _ _ _ _ _ => (pe_ix (ix_tupK (K := K) rfl) (pv 11) pe_int (fun _ _ => rfl)))) (pa_cons (pv 8) pa_nil))))) pa_nil)))
  (pss_cons (ps_expr (pe_bm PySem.F.plainAttrs_list PySem.F.slot_list_append PySem.F.type_list_append mt_append (pv 3) (pa_cons (pe_tup (pa_cons pe_str (pa_cons (pe_ix (ix_tupK (K := K) rfl) (pv 6) pe_int (fun _ _ => rfl)) pa_nil))) pa_nil)))
  (pss_one (ps_expr (pe_bm PySem.F.plainAttrs_list PySem.F.slot_list_append PySem.F.type_list_append mt_append (pv 4) (pa_cons (pe_tup (pa_cons (pe_ix (ix_tupK (K := K) rfl) (pv 6) pe_int (fun _ _ => rfl)) (pa_cons (pv 8) pa_nil))) pa_nil))))))))))))
  (pss_cons (ps_expr (pe_bm0 PySem.F.plainAttrs_list PySem.F.slot_list_clear PySem.F.type_list_clear mt_clear (pv 1)))
  (pss_cons (ps_expr (pe_bm PySem.F.plainAttrs_list PySem.F.slot_list_extend PySem.F.type_list_extend mt_extend (pv 1) (pa_cons (pv 5) pa_nil)))
  (pss_one (ps_ret (pe_callTy call_tuple_of (by rfl) T.tuple B_tuple (pa_cons (pv 4) pa_nil)))))))))), ?_⟩
    refine ⟨by show 0 ≤ sizeLine; decide, fun p4 n4 => ?_⟩
    generalize e1 : upd _ p4 _ = H1
    obtain ⟨S1, h1⟩ := new_of e1 n4
    clear e1
    refine ⟨by show 0 ≤ sizeLine; decide, fun p5 n5 => ?_⟩
    generalize e2 : upd _ p5 _ = H2
    obtain ⟨S2, h2⟩ := new_of e2 n5
    clear e2
    have b2 := S1.trans S2
    have n5' : H p5 = none := fresh_back S1 (fun _ m => nomatch m) n5
    have n45 : p4 ≠ p5 := ne_of_none h1 n5
    have s4 : ls ≠ p4 := ne_of_none hls0 n4
    have s5 : ls ≠ p5 := ne_of_none hls0 n5'
    have t4 : lt ≠ p4 := ne_of_none hlt0 n4
    have t5 : lt ≠ p5 := ne_of_none hlt0 n5'
    have w4 : lw ≠ p4 := ne_of_none hlw n4
    have w5 : lw ≠ p5 := ne_of_none hlw n5'
    have R4 : p4 ∉ R := fun m => hR _ m n4
    have R5 : p5 ∉ R := fun m => hR _ m n5'
    have ov : dv ∉ [p4, p5, ls, lt] := by
      intro z
      have m1 := ne_of_none hdv n4
      have m2 := ne_of_none hdv n5'
      have m3 : dv ≠ ls := ne_of hdv hls0 (by intro z; cases z)
      have m4 : dv ≠ lt := ne_of hdv hlt0 (by intro z; cases z)
      simp at z
      rcases z with z | z | z | z
      · exact m1 z
      · exact m2 z
      · exact m3 z
      · exact m4 z
    have ow : lw ∉ [p4, p5, ls, lt] := by simp [w4, w5, nws, nwt]
    refine ⟨_, rfl, lw, rfl, ⟨lvs, .inl (.inl (b2.at hlw))⟩, ?_⟩
    generalize hps : (fun i : Nat => (asks.take i).foldl (pass1 vals) ⟨[], st, tr, []⟩) = ps
    have hps' : ∀ i, ps i = (asks.take i).foldl (pass1 vals) ⟨[], st, tr, []⟩ := fun i => by rw [← hps]
    refine for_list (K := K) (a := lw) (xs := lvs) (fun i σ H4 => ∃ u6 u7 u8 : Option V, σ = [some (.ref dv), some (.ref lw), some (.ref ls), some (.ref lt), some (.ref p4), some (.ref p5), u6, u7, u8, none, none, none] ∧ LpAt R H p4 p5 ls lt (ps i) H4)
      ⟨none, none, none, rfl, b2.nil, ?_, ?_, ?_, ?_⟩ (fun i σ H2 _ hp => ?_) ?_ ?_
    · rw [hps']
      exact ⟨[], S2.at h1, .nil⟩
    · rw [hps']
      exact ⟨[], h2, .nil⟩
    · rw [hps']
      exact (hst.re (R' := p4 :: p5 :: R) (fun x m => by
        rcases List.mem_cons.mp m with e | m
        · exact .inr (by rw [e]; exact n4)
        · rcases List.mem_cons.mp m with e | m
          · exact .inr (by rw [e]; exact n5')
          · exact .inl m)).bt b2 (fun _ z => nomatch z) (fun z => nomatch z)
    · rw [hps']
      exact hlt.bt b2 (fun z => nomatch z)
    · obtain ⟨_, _, _, _, lk⟩ := hp
      exact .inl (.inl (lk.b.keep _ _ ow hlw))
    · rintro i x σ H4 hx ⟨u6, u7, u8, rfl, lk⟩
      have hil : i < asks.length := by rw [← lal]; exact (List.getElem?_eq_some_iff.mp hx).1
      obtain ⟨dd, e2, td⟩ := (tla.bt lk.b).get' hx
      rw [List.getElem?_map] at e2
      cases er : asks[i]? with
      | none => rw [er] at e2; cases e2
      | some a =>
      rw [er] at e2
      cases e2
      have hao := so.ao a (List.mem_of_getElem? er)
      have epass : ps (i + 1) = pass1 vals (ps i) a := by
        rw [hps', hps']
        exact fold_take er
      have pok : PsOk h (ps i) := by
        rw [hps']
        exact fold_ok so.po ⟨(fun _ m => nomatch m), so.so, so.to, ⟨(fun _ m => nomatch m), (fun _ m => nomatch m), (fun _ m => nomatch m)⟩⟩ fun a m => so.ao a (List.mem_of_mem_take m)
      have plen : (ps i).left.length ≤ 100 ∧ (ps i).st.length ≤ 100 ∧ (ps i).tr.length ≤ 400 ∧ (ps i).told.length ≤ 100 := by
        rw [hps']
        have := fold_len (vals := vals) (l := asks.take i) (p := ⟨[], st, tr, []⟩)
        obtain ⟨a1, a2, a3⟩ := this
        have htz := so.tz
        generalize (asks.take i).foldl (pass1 vals) ⟨[], st, tr, []⟩ = q at *
        have h9 : (asks.take i).length ≤ asks.length := by rw [List.length_take]; omega
        simp only [List.length_nil] at a1 a2 a3
        refine ⟨?_, ?_, ?_, ?_⟩ <;> omega
      obtain ⟨l1, l2, l3, l4⟩ := plen
      have tda := td
      obtain ⟨t, ys, rfl, hb, tys⟩ := Td.tup_inv td
      obtain ⟨v1, r1, rfl, t1, tys⟩ := tys.cons_inv
      obtain ⟨v2, r2, rfl, t2, tys⟩ := tys.cons_inv
      cases tys.nil_inv
      obtain ⟨rb, rxs, rfl, hrb, trx⟩ := Td.tup_inv t2
      have rxl : rxs.length = a.2.length := by rw [trx.len, List.length_map]
      have hd4 := hd.bt lk.b ov
      obtain ⟨lfs, hlf, tlf⟩ := lk.h5
      have lfl : lfs.length = (ps i).left.length := by rw [tlf.len, List.length_map]
      refine ⟨by show 0 ≤ sizeLine; decide, fun q0 nq0 => ?_⟩
      generalize e5 : upd _ q0 _ = H5
      obtain ⟨S5, h5⟩ := new_of e5 nq0
      clear e5
      refine ⟨_, rfl, p5, rfl, ⟨_, .inl (.inl (S5.at hlf))⟩, fun D nD => ?_⟩
      refine lcD (walk_list (K := K) (xs := lfs)) nD (fun H b => b.sqL (.inl (.inl (S5.at hlf)))) (by omega) (fun j => (((ps i).left.take j).filter fun x => shB x a).map askD) rfl ?_ ?_
      · intro j y H6 hy b6 N1 N2 k1 k2
        obtain ⟨dd, e6, td6⟩ := ((tlf.bt S5).bt b6).get' hy
        rw [List.getElem?_map] at e6
        cases ej : (ps i).left[j]? with
        | none => rw [ej] at e6; cases e6
        | some x =>
        rw [ej] at e6
        cases e6
        refine ⟨rfl, ?_⟩
        refine ⟨_, rfl, _, rfl, _, _, x, a, rfl, td6, (tda.bt S5).bt b6, (pok.left x (List.mem_of_getElem? ej)).len, hao.len, fun H7 b7 => ?_⟩
        have et := ft_take (fun x => shB x a) askD ej
        refine ⟨_, rfl, ite1 (fun e => ?_) (fun e => ?_)⟩
        · refine ⟨_, rfl, k1 _ H7 _ b7 (td6.bt b7) ?_⟩
          show (((ps i).left.take (j + 1)).filter fun x => shB x a).map askD = _
          rw [et, if_pos e]
        · refine k2 H7 b7 ?_
          show (((ps i).left.take (j + 1)).filter fun x => shB x a).map askD = _
          rw [et, if_neg (by rw [e]; exact Bool.false_ne_true), List.append_nil]
      intro H6 fs b6 hD tf
      rw [lfl, List.take_length] at tf
      have fsl : fs.length = ((ps i).left.filter fun x => shB x a).length := by rw [tf.len, List.length_map]
      clear tf
      refine ⟨D, _, rfl, .inl (.inl (.inl hD)), ?_⟩
      refine ⟨rfl, _, rfl, ?_⟩
      have b46 := S5.trans b6
      -- append to left
      have appL : ∀ H7, Bt [] H4 H7 → (if blockedBy (ps i).left a.2 = true then none else grantsFor vals (ps i).st a.2) = none → ∃ zs, H7 p5 = some (.lst zs) ∧ zs.length < sizeLine ∧ LpAt R H p4 p5 ls lt (ps (i + 1)) (upd H7 p5 (.lst (zs ++ [.ref t]))) := by
        intro H7 b7 e
        refine ⟨lfs, b7.at hlf, sz_lt (by omega), ?_⟩
        generalize e8 : upd H7 p5 _ = H8
        obtain ⟨S8, h8⟩ := mut_of e8 (b7.at hlf) trivial
        clear e8
        have b48 : Bt [p5] H4 H8 := b7.nil.trans S8
        have ep : ps (i + 1) = { ps i with left := (ps i).left ++ [a] } := by
          rw [epass]
          unfold pass1
          rw [e]
        rw [ep]
        refine ⟨lk.b.trans (b48.mono fun _ z => by simp at z; simp [z]), lk.h4.bt b48 (no1 n45), ⟨_, h8, ?_⟩, ?_, lk.ht.bt b48 (no1 t5)⟩
        · rw [List.map_append]
          exact (tlf.bt b48).app (.one (tda.bt b48))
        · exact lk.hs.bt b48 (fun x m => by rw [List.mem_singleton.mp m]; simp) (no1 s5)
      refine iteD2 (fun z => ?_) (fun z => ?_)
      · -- no key is shared with a waiting ask
        have hnb : ¬ blockedBy (ps i).left a.2 = true := (blk_len _ _).mp (by have := V.int.inj z; omega)
        have eif : (if blockedBy (ps i).left a.2 = true then none else grantsFor vals (ps i).st a.2) = grantsFor vals (ps i).st a.2 := if_neg hnb
        have hb6 := b46.tup _ _ hb
        refine ⟨_, rfl, t, _, _, _, rfl, rfl, .inl (.inl hb6), atI_nat (j := 1) rfl, ?_⟩
        refine ⟨rb, rfl, ⟨_, .inl (.inl (b46.tup _ _ hrb))⟩, fun D2 nD2 => ?_⟩
        refine lcD (walk_tup (K := K) (xs := rxs)) nD2 (fun H b => .inl (.inl (b.tup _ _ (b46.tup _ _ hrb)))) (by have := hao.len; omega) (fun j => besL vals (ps i).st (a.2.take j)) rfl ?_ ?_
        · intro j y H7 hy b7 N1 N2 k1 k2
          obtain ⟨dd, e6, td6⟩ := ((trx.bt b46).bt b7).get' hy
          rw [List.getElem?_map] at e6
          cases ej : a.2[j]? with
          | none => rw [ej] at e6; cases e6
          | some r =>
          rw [ej] at e6
          cases e6
          have b47 := b46.trans b7
          refine ⟨rfl, ?_⟩
          refine ⟨_, rfl, _, rfl, _, rfl, dv, ls, _, h, vals, (ps i).st, r, rfl, hd4.bt b47 (fun z => nomatch z), (lk.hs.re (fun x m => .inl (by simp [m]))).bt b47 (fun _ z => nomatch z) (fun z => nomatch z), td6, hao.rqs r (List.mem_of_getElem? ej), so.po, pok.st, by omega, fun v' H8 b8 t8 => ?_⟩
          exact k1 v' H8 _ b8 t8 (take_map _ ej)
        intro H7 fvs b7 hD2 tfv
        rw [rxl, List.take_length] at tfv
        have fvl : fvs.length = a.2.length := by rw [tfv.len]; unfold besL; rw [List.length_map]
        have b47 := b46.trans b7
        have apos : 0 < a.2.length := List.length_pos_iff.mpr hao.ne
        have lsf : LsAt H7 D2 (besL vals (ps i).st a.2) := ⟨_, hD2, tfv⟩
        refine ⟨_, rfl, D2, _, rfl, .inl (.inl (.inl hD2)), ?_⟩
        refine ⟨rfl, _, rfl, ?_⟩
        refine iteDF (fun z => by have := V.int.inj z; omega) ?_
        refine ⟨_, rfl, _, _, .non, lsf.dp, Td.shaped (H := H7) .non (by simp [PyData.depth]), lsf.shaped (fun x m => ?_), _, rfl, ?_⟩
        · unfold besL at m
          obtain ⟨r, m1, e⟩ := List.mem_map.mp m
          rw [← e]
          cases eb : beside vals (ps i).st r with
          | none => simp [besR, PyData.depth]
          | some g =>
            have := (beside_ok so.po (hao.rqs r m1) eb).1.dp
            show (besD g).depth ≤ 60
            unfold besD
            simp only [PyData.depth, PyData.depthAll]
            omega
        rw [lsf.any (v := .non) .non]
        refine iteD2 (fun z2 => ?_) (fun z2 => ?_)
        · -- one is not granted
          have e := gf_none z2
          obtain ⟨zs, hz, hl, lk'⟩ := appL H7 b47 (eif.trans e)
          refine ⟨_, rfl, .inl ⟨rfl, _, .inl (.inl hz)⟩, ?_⟩
          refine ⟨_, rfl, p5, zs, _, rfl, rfl, hz, hl, ?_⟩
          exact ⟨_, _, _, rfl, lk'⟩
        · -- all are granted
          obtain ⟨gs, eg, ebs⟩ := gf_some z2
          rw [ebs] at tfv
          obtain ⟨gok, grq⟩ := grantsFor_ok so.po hao.rqs eg
          have gsl : gs.length = a.2.length := by rw [← grq, List.length_map]
          have ep : ps (i + 1) = { left := (ps i).left, st := (ps i).st ++ [(a.1, gs)], tr := (ps i).tr ++ [(true, a.1)], told := (ps i).told ++ [(a.1, gs)] } := by
            rw [epass]
            unfold pass1
            rw [eif, eg]
          have hget : ∀ (j : Nat) (y : V) (H9 : Hp), fvs[j]? = some y → Bt [] H7 H9 → ∃ (g : Gr) (b : Addr) (av : V), gs[j]? = some g ∧ y = V.ref b ∧ H9 b = some (.tup [.str g.kd.s, av]) ∧ Td H9 av g.ans := by
            intro j y H9 hy b9
            obtain ⟨dd, e2, t2⟩ := (tfv.bt b9).get' hy
            rw [List.getElem?_map] at e2
            cases eg : gs[j]? with
            | none => rw [eg] at e2; cases e2
            | some g =>
            rw [eg] at e2
            cases e2
            obtain ⟨b, zs, rfl, hb, tz⟩ := Td.tup_inv t2
            obtain ⟨v1, r1, rfl, u1, tz⟩ := tz.cons_inv
            obtain ⟨v2, r2, rfl, u2, tz⟩ := tz.cons_inv
            cases tz.nil_inv
            have q1 := Td.str_inv u1
            subst q1
            exact ⟨g, b, v2, rfl, rfl, hb, u2⟩
          have fvg : fvs.length = gs.length := by omega
          refine ⟨_, rfl, D2, rfl, ⟨_, .inl (.inl hD2)⟩, fun D3 nD3 => ?_⟩
          refine lcD (walk_list (K := K) (xs := fvs)) nD3 (fun H b => b.sqL (.inl (.inl hD2))) (by have := hao.len; omega) (fun j => (gs.take j).map (·.ans)) rfl ?_ ?_
          · intro j y H9 hy b9 N1 N2 k1 k2
            obtain ⟨g, b, av, ej, rfl, hgb, tav⟩ := hget j y H9 hy b9
            refine ⟨rfl, ?_⟩
            refine ⟨_, rfl, b, _, _, _, rfl, rfl, .inl (.inl hgb), atI_nat (j := 1) rfl, ?_⟩
            exact k1 _ H9 _ Bt.refl tav (take_map _ ej)
          intro H9 avs b9 hD3 tav
          rw [fvg, List.take_length] at tav
          refine ⟨D3, avs, rfl, .inl ⟨.inl (.inl hD3), fun p10 n10 => ?_⟩⟩
          generalize e10 : upd _ p10 _ = H10
          obtain ⟨S10, h10⟩ := new_of e10 n10
          clear e10
          have b710 := b9.trans S10
          have b410 := b47.trans b710
          have tans : Td H10 (.ref p10) (ansD gs) := .tup h10 (tav.bt S10)
          -- standing.append
          obtain ⟨svs, hsv, psv⟩ := lk.hs
          have svl : svs.length = (ps i).st.length := Paired.length psv
          refine ⟨_, rfl, .inl ⟨rfl, _, .inl (.inl (b410.at hsv))⟩, ?_⟩
          refine ⟨_, rfl, t, _, _, _, rfl, rfl, .inl (.inl (b410.tup _ _ hb)), atI_nat (j := 0) rfl, ?_⟩
          refine ⟨_, rfl, t, _, _, _, rfl, rfl, .inl (.inl (b410.tup _ _ hb)), atI_nat (j := 1) rfl, ?_⟩
          refine ⟨_, rfl, D2, rfl, ⟨_, .inl (.inl (b710.at hD2))⟩, fun D4 nD4 => ?_⟩
          refine lcX (walk_list (K := K) (xs := fvs)) nD4 (fun H b => b.sqL (.inl (.inl (b710.at hD2)))) (by have := hao.len; omega) (fun j => (gs.take j).map fun g => V.str g.kd.s) rfl ?_ ?_
          · intro j y H11 hy b11 N1 N2 k1 k2
            obtain ⟨g, b, av, ej, rfl, hgb, tav⟩ := hget j y H11 hy (b710.trans b11)
            refine ⟨rfl, ?_⟩
            refine ⟨_, rfl, b, _, _, _, rfl, rfl, .inl (.inl hgb), atI_nat (j := 0) rfl, ?_⟩
            exact k1 _ H11 Bt.refl (take_map _ ej)
          intro H11 b11 hD4
          rw [fvg, List.take_length] at hD4
          have b411 := b410.trans b11
          refine ⟨_, rfl, by show 4 ≤ sizeLine; decide, fun p12 n12 => ?_⟩
          generalize e12 : upd _ p12 _ = H12
          obtain ⟨S12, h12⟩ := new_of e12 n12
          clear e12
          have b412 := b411.trans S12
          refine ⟨ls, svs, _, rfl, rfl, b412.at hsv, sz_lt (by omega), ?_⟩
          generalize e13 : upd _ ls _ = H13
          obtain ⟨S13, h13⟩ := mut_of e13 (b412.at hsv) trivial
          clear e13
          have b413 : Bt [ls] H4 H13 := b412.nil.trans S13
          -- trace.append
          obtain ⟨tvs, htv, ttv⟩ := lk.ht.bt b413 (no1 nst.symm)
          refine ⟨_, rfl, .inl ⟨rfl, _, .inl (.inl htv)⟩, ?_⟩
          refine ⟨_, rfl, t, _, _, _, rfl, rfl, .inl (.inl (b413.tup _ _ hb)), atI_nat (j := 0) rfl, ?_⟩
          refine ⟨by show 2 ≤ sizeLine; decide, fun p14 n14 => ?_⟩
          generalize e14 : upd _ p14 _ = H14
          obtain ⟨S14, h14⟩ := new_of e14 n14
          clear e14
          refine ⟨lt, tvs, _, rfl, rfl, S14.at htv, sz_lt (by rw [ttv.len, List.length_map]; omega), ?_⟩
          generalize e15 : upd _ lt _ = H15
          obtain ⟨S15, h15⟩ := mut_of e15 (S14.at htv) trivial
          clear e15
          have b1315 : Bt [lt] H13 H15 := S14.nil.trans S15
          have b415 : Bt [ls, lt] H4 H15 := (b413.mono fun _ z => by simp at z; simp [z]).trans (b1315.mono fun _ z => by simp at z; simp [z])
          -- told.append
          obtain ⟨pvs, hpv, tpv⟩ := lk.h4.bt b415 (by simp [s4.symm, t4.symm])
          refine ⟨_, rfl, .inl ⟨rfl, _, .inl (.inl hpv)⟩, ?_⟩
          refine ⟨_, rfl, t, _, _, _, rfl, rfl, .inl (.inl (b415.tup _ _ hb)), atI_nat (j := 0) rfl, ?_⟩
          refine ⟨_, rfl, by show 2 ≤ sizeLine; decide, fun p16 n16 => ?_⟩
          generalize e16 : upd _ p16 _ = H16
          obtain ⟨S16, h16⟩ := new_of e16 n16
          clear e16
          refine ⟨p4, pvs, _, rfl, rfl, S16.at hpv, sz_lt (by rw [tpv.len, List.length_map]; omega), ?_⟩
          generalize e17 : upd _ p4 _ = H17
          obtain ⟨S17, h17⟩ := mut_of e17 (S16.at hpv) trivial
          clear e17
          have b1517 : Bt [p4] H15 H17 := S16.nil.trans S17
          have b417 : Bt [p4, ls, lt] H4 H17 := (b415.mono fun _ z => by simp at z; rcases z with z | z <;> simp [z]).trans (b1517.mono fun _ z => by simp at z; simp [z])
          have b1317 : Bt [lt, p4] H13 H17 := (b1315.mono fun _ z => by simp at z; simp [z]).trans (b1517.mono fun _ z => by simp at z; simp [z])
          have b1017 : Bt [p4, ls, lt] H10 H17 := ((b11.trans S12).nil.trans (S13.mono fun _ z => by simp at z; simp [z])).trans (b1317.mono fun _ z => by simp at z; rcases z with z | z <;> simp [z])
          have alloc : ∀ x ∈ p4 :: p5 :: R, H10 x ≠ none := by
            intro x m z
            have hk : ∀ o, H x = some o → x ∉ [p4, p5, ls, lt] → False := fun o e n => by
              have := b410.at (lk.b.keep _ _ n e)
              rw [z] at this
              cases this
            rcases List.mem_cons.mp m with e | m
            · obtain ⟨_, y, _⟩ := lk.h4
              rw [e, b410.at y] at z
              cases z
            · rcases List.mem_cons.mp m with e | m
              · rw [e, b410.at hlf] at z
                cases z
              · by_cases e1 : x = ls
                · rw [e1, b410.at hsv] at z
                  cases z
                · by_cases e2 : x = lt
                  · obtain ⟨_, y, _⟩ := lk.ht
                    rw [e2, b410.at y] at z
                    cases z
                  · cases e3 : H x with
                    | none => exact hR x m e3
                    | some o =>
                      refine hk o e3 (fun y => ?_)
                      simp at y
                      rcases y with y | y | y | y
                      · exact R4 (y ▸ m)
                      · exact R5 (y ▸ m)
                      · exact e1 y
                      · exact e2 y
          have D4n : D4 ∉ p4 :: p5 :: R := fun m => alloc _ m nD4
          refine ⟨_, _, _, rfl, ?_⟩
          rw [ep]
          refine ⟨lk.b.trans (b417.mono fun _ z => by simp at z; rcases z with z | z | z <;> simp [z]), ?_, ?_, ?_, ?_⟩
          · refine ⟨_, h17, ?_⟩
            rw [List.map_append]
            refine (tpv.bt b1517).app (.one ?_)
            exact (Td.tup h16 (.cons ((t1.bt b415).bt S16) (.cons ((((((tans.bt b11).bt S12).bt S13).bt b1315).bt S16)) .nil))).bt S17
          · exact LsAt.bt b417 (by simp [n45.symm, s5.symm, t5.symm]) ⟨_, hlf, tlf⟩
          · refine ⟨_, b1317.keep _ _ (by simp [s4, nst]) h13, ?_⟩
            refine paired_snoc (Paired.mapP psv fun v s hs => hs.bt b417 (fun x m => ?_)) ⟨p12, _, _, D4, _, rfl, b1317.tup _ _ (S13.tup _ _ h12), ?_, D4n, t1.bt b417, ?_, tans.bt b1017⟩
            · simp at m
              rcases m with e | e | e
              · simp [e]
              · rw [e]; simp [ms]
              · rw [e]; simp [mt]
            · have nd : D4 ∉ [ls, lt, p4] := fun m => by
                simp at m
                rcases m with e | e | e
                · exact D4n (by rw [e]; simp [ms])
                · exact D4n (by rw [e]; simp [mt])
                · exact D4n (by rw [e]; simp)
              have bb : Bt [ls, lt, p4] H11 H17 := (S12.nil.trans (S13.mono fun _ z => by simp at z; simp [z])).trans (b1317.mono fun _ z => by simp at z; rcases z with z | z <;> simp [z])
              exact bb.keep _ _ nd hD4
            · show Td H17 _ (reqsD (gs.map (·.rq)))
              rw [grq]
              exact t2.bt b417
          · refine LsAt.bt b1517 (no1 t4) ⟨_, h15, ?_⟩
            rw [List.map_append]
            refine (ttv.bt b1315).app (.one ?_)
            exact (Td.tup h14 (.cons (.str _ (trS_ok true)) (.cons ((t1.bt b413).bt S14) .nil))).bt S15
      · have hbk : blockedBy (ps i).left a.2 = true := by
          cases e : blockedBy (ps i).left a.2 with
          | true => rfl
          | false => exact absurd (by rw [fsl, (blk_len _ _).mpr (by rw [e]; exact Bool.false_ne_true)]; rfl) z
        refine ⟨_, rfl, q0, _, rfl, .inl (.inl (.inl (b6.at h5))), ?_⟩
        refine ⟨rfl, _, rfl, iteDT rfl ?_⟩
        obtain ⟨zs, hz, hl, lk'⟩ := appL H6 b46 (if_pos hbk)
        refine ⟨_, rfl, .inl ⟨rfl, _, .inl (.inl hz)⟩, ?_⟩
        refine ⟨_, rfl, p5, zs, _, rfl, rfl, hz, hl, ?_⟩
        exact ⟨_, _, _, rfl, lk'⟩
    · rintro σ H4 ⟨u6, u7, u8, rfl, lk⟩
      rw [show ps lvs.length = pass vals asks st tr by rw [hps', lal, List.take_length]; rfl] at lk
      have hlw4 := lk.b.keep _ _ ow hlw
      refine ⟨_, rfl, .inl ⟨rfl, _, .inl (.inl hlw4)⟩, ?_⟩
      refine ⟨lw, _, rfl, rfl, hlw4, ?_⟩
      generalize e5 : upd _ lw _ = H5
      obtain ⟨S5, h5⟩ := mut_of e5 hlw4 trivial
      clear e5
      obtain ⟨lfs, hlf, tlf⟩ := lk.h5.bt S5 (no1 w5.symm)
      refine ⟨_, rfl, .inl ⟨rfl, _, .inl (.inl h5)⟩, ?_⟩
      refine ⟨_, rfl, lw, p5, _, _, rfl, rfl, h5, hlf, ?_, ?_⟩
      · have := fold_len (vals := vals) (l := asks) (p := ⟨[], st, tr, []⟩)
        obtain ⟨a1, _⟩ := this
        simp only [List.length_nil] at a1
        refine sz_le ?_
        rw [tlf.len, List.length_map]
        show 0 + (pass vals asks st tr).left.length ≤ _
        unfold pass
        omega
      generalize e6 : upd _ lw _ = H6
      obtain ⟨S6, h6⟩ := mut_of e6 h5 trivial
      clear e6
      have b46 := S5.trans S6
      obtain ⟨pvs, hpv, tpv⟩ := lk.h4.bt b46 (no1 w4.symm)
      refine ⟨_, rfl, p4, pvs, rfl, .inl ⟨.inl (.inl hpv), fun p7 n7 => ?_⟩⟩
      generalize e7 : upd _ p7 _ = H7
      obtain ⟨S7, h7⟩ := new_of e7 n7
      clear e7
      have b47 : Bt [lw] H4 H7 := b46.trans S7.nil
      have hs7 := (lk.hs.re (R' := R) (fun x m => .inl (by simp [m]))).bt b47 (fun x m => by rw [List.mem_singleton.mp m]; exact mw) (no1 nws.symm)
      refine q _ H7 ?_ ⟨_, S7.at h6, (tlf.bt S6).bt S7⟩ hs7 (lk.ht.bt b47 (no1 nwt.symm)) (.tup h7 (tpv.bt S7))
      have : Bt (p4 :: p5 :: [lw, ls, lt]) H H7 := (lk.b.mono fun _ z => by simp at z; rcases z with z | z | z | z <;> simp [z]).trans (b47.mono fun _ z => by simp at z; simp [z])
      exact (this.dropN n4).dropN n5'
end
end K33

/-! K22: the law's writes -/
namespace K33
open PySem L2
section
variable {P : Program} {w : World} {K : PySem.W.Frag} {mg : Str → Option Value} {base : Heap}
def ChgOk (gs : List Gr) (ws : Wrs) : Prop := ∀ pr ∈ ws, ∃ g ∈ gs, g.kd ≠ .see ∧ g.rq.key = pr.1
def spWrites (R : List Addr) : Sp := fun vs H Q _ => ∃ (p : Addr) (v : V) (h : Int) (s : List Key × List Gr), vs = [.ref p, v] ∧ PoolAt H p ∧ StAt R H v s ∧ p ∈ R ∧ (∀ g ∈ s.2, GrOk h g) ∧ s.2.length ≤ 100 ∧
  ∀ v' ws H', Bt [p] H H' → PoolAt H' p → Td H' v' (.tuple (ws.map wrD)) → PrsOk h ws → ChgOk s.2 ws → ws.length ≤ 100 → Q v' H'
abbrev s_law_writes : Stmt := top 50
theorem sc_law_writes : FnScope ["_law_pool_here", "_law_grant", "_law_out", "_law_k", "_law_key", "_law_way", "_law_more"] ["_law_pool_here", "_law_grant"] (defScope s_law_writes) := ⟨rfl, rfl, rfl, by decide +kernel, rfl, by decide +kernel, by decide +kernel⟩
theorem ok_writes {f : Addr} {fd : FuncData} (F : Fun K "_law_writes" "_law_writes" s_law_writes f fd) (T : Blt mg) (R : List Addr) (C_law_draw : Cal P w K mg base "_law_draw" 1 spDraw) (C_law_record : Cal P w K mg base "_law_record" 2 spRecord) : FnOk P w K mg base CX0 3 f fd ["_law_pool_here", "_law_grant"] (spWrites R) := by
  refine F.ok sc_law_writes (fun vs H Q E h => ?_) (fun cdv A outer s H vs Q E hr h => ?_)
  · obtain ⟨_, _, _, _, rfl, _⟩ := h
    rfl
  · obtain ⟨p, v, h, sg, rfl, hp, ⟨t, ii, rqv, kl, an, ev, ht, hkl, nR, ti, tr, ta⟩, pR, gok, gl, q⟩ := h
    subst ev
    obtain ⟨ra, rxs, rfl, hra, trx⟩ := Td.tup_inv tr
    obtain ⟨aa, axs, rfl, haa, tax⟩ := Td.tup_inv ta
    have rxl : rxs.length = sg.2.length := by rw [trx.len, List.length_map, List.length_map]
    have nkp : kl ≠ p := fun e => nR (by rw [e]; exact pR)
    refine ⟨_, ((pss_cons (ps_set (i := 2) sc_law_writes.nd rfl (Or.inl rfl) (pe_lst pa_nil))
  (pss_cons (ps_for PassesOwn.never rfl (pi_range1 (by rfl) T.range (pa_cons (pe_callB call_len_seq (by rfl) T.len B_len (pa_cons (pe_ix (ix_tupK (K := K) rfl) (pv 1) pe_int (fun _ _ => rfl)) pa_nil)) pa_nil)) (pg_name (i := 3) sc_law_writes.nd rfl (Or.inl rfl))
  (pss_cons (ps_set (i := 4) sc_law_writes.nd rfl (Or.inl rfl) (pe_ix (ix_tupK (K := K) rfl) (pe_ix (ix_tupK (K := K) rfl) (pe_ix (ix_tupK (K := K) rfl) (pv 1) pe_int (fun _ _ => rfl)) (pv 3) (fun _ _ => rfl)) pe_int (fun _ _ => rfl)))
  (pss_cons (ps_set (i := 5) sc_law_writes.nd rfl (Or.inl rfl) (pe_cc C_law_draw hr (by decide) (by rfl) (pa_cons (pv 0) (pa_cons pe_int pa_nil))))
  (pss_cons (ps_if (PW.pt (pw_and (pt_cmpR op_eq (pe_ix (ix_listK (K := K) rfl) (pe_ix (ix_tupK (K := K) rfl) (pv 1) pe_int (fun _ _ => rfl)) (pv 3) (fun _ _ => rfl)) pe_str (nomark _)) (pw_and1 (pt_cmpR op_gt (pv 5) pe_int (nomark _))))) (pss_one (ps_expr (pe_bm PySem.F.plainAttrs_list PySem.F.slot_list_append PySem.F.type_list_append mt_append (pv 2) (pa_cons (pe_tup (pa_cons (pv 4) (pa_cons (pe_cc C_law_record hr (by decide) (by rfl) (pa_cons (pv 0) (pa_cons (pv 4) pa_nil))) pa_nil))) pa_nil)))) pss_nil)
  (pss_cons (ps_if (PW.pt (pw_and (pt_cmpR op_eq (pe_ix (ix_listK (K := K) rfl) (pe_ix (ix_tupK (K := K) rfl) (pv 1) pe_int (fun _ _ => rfl)) (pv 3) (fun _ _ => rfl)) pe_str (nomark _)) (pw_and1 (pt_cmpR op_gt (pv 5) pe_int (nomark _))))) (pss_cons (ps_set (i := 6) sc_law_writes.nd rfl (Or.inl rfl) (pe_op op_add pe_int (pe_cc C_law_draw hr (by decide) (by rfl) (pa_cons (pv 0) (pa_cons (pe_ix (ix_listK (K := K) rfl) (pe_lst (pa_cons pe_int (pa_cons pe_int pa_nil))) (pe_callTy call_int1 (by rfl) T.int B_int (pa_cons (pe_cmpR op_eq (pv 5) pe_int (nomark _)) pa_nil)) (fun _ _ => rfl)) pa_nil)))))
  (pss_cons (ps_if (PW.pt (pw_and (pt_cmpR op_eq (pv 5) pe_int (nomark _)) (pw_and1 (pt_cmpR (op_notIn_seqK (K := K) rfl) (pe_ix (ix_tupK (K := K) rfl) (pv 4) pe_int (fun _ _ => rfl)) (pe_lst (pa_cons pe_str (pa_cons pe_str pa_nil))) rfl)))) (pss_one (ps_set (i := 6) sc_law_writes.nd rfl (Or.inl rfl) (pe_op op_sub pe_int (pv 6)))) pss_nil)
  (pss_one (ps_expr (pe_bm PySem.F.plainAttrs_list PySem.F.slot_list_append PySem.F.type_list_append mt_append (pv 2) (pa_cons (pe_tup (pa_cons (pv 4) (pa_cons (pv 6) pa_nil))) pa_nil)))))) pss_nil)
  (pss_one (ps_if (PW.pt (pw_and (pt_cmpR (op_in_seqK (K := K) rfl) (pe_ix (ix_listK (K := K) rfl) (pe_ix (ix_tupK (K := K) rfl) (pv 1) pe_int (fun _ _ => rfl)) (pv 3) (fun _ _ => rfl)) (pe_lst (pa_cons pe_str (pa_cons pe_str pa_nil))) rfl) (pw_and (pt_cmpR op_gt (pv 5) pe_int (nomark _)) (pw_and1 (pt_cmpR op_gt (pe_ix (ix_tupK (K := K) rfl) (pe_ix (ix_tupK (K := K) rfl) (pv 1) pe_int (fun _ _ => rfl)) (pv 3) (fun _ _ => rfl)) pe_int (nomark _)))))) (pss_one (ps_expr (pe_bm PySem.F.plainAttrs_list PySem.F.slot_list_append PySem.F.type_list_append mt_append (pv 2) (pa_cons (pe_tup (pa_cons (pv 4) (pa_cons (pe_op op_sub pe_int (pe_ix (ix_listK (K := K) rfl) (pe_lst (pa_cons (pe_ix (ix_tupK (K := K) rfl) (pe_ix (ix_tupK (K := K) rfl) (pv 1) pe_int (fun _ _ => rfl)) (pv 3) (fun _ _ => rfl)) (pa_cons pe_int (pa_cons (pe_op op_add pe_int (pe_op op_fdiv (pe_ix (ix_tupK (K := K) rfl) (pe_ix (ix_tupK (K := K) rfl) (pv 1) pe_int (fun _ _ => rfl)) (pv 3) (fun _ _ => rfl)) pe_int)) pa_nil)))) (pe_op op_sub (pv 5) pe_int) (fun _ _ => rfl))) pa_nil))) pa_nil)))) pss_nil)))))))
  (pss_one (ps_ret (pe_callTy call_tuple_of (by rfl) T.tuple B_tuple (pa_cons (pv 2) pa_nil))))))), ?_⟩
    refine ⟨by show 0 ≤ sizeLine; decide, fun lo nlo => ?_⟩
    generalize e1 : upd _ lo _ = H1
    obtain ⟨S1, h1⟩ := new_of e1 nlo
    clear e1
    have npl : p ≠ lo := hp.nen nlo
    have nkl : kl ≠ lo := ne_of_none hkl nlo
    have hT : ∀ {H'}, Bt [p, lo] H H' → SqT K H' t [ii, .ref ra, .ref kl, .ref aa] := fun b => .inl (.inl (b.tup _ _ ht))
    have hK : ∀ {H'}, Bt [p, lo] H H' → SqL K H' kl (sg.2.map fun g => V.str g.kd.s) := fun b => .inl (.inl (b.keep _ _ (by simp [nkp, nkl]) hkl))
    have hA : ∀ {H'}, Bt [p, lo] H H' → SqT K H' aa axs := fun b => .inl (.inl (b.tup _ _ haa))
    refine ⟨_, rfl, t, _, _, _, rfl, rfl, hT S1.nil, atI_nat (j := 1) rfl, ?_⟩
    refine ⟨ra, rxs, rfl, .inr (.inl (.inl (S1.tup _ _ hra))), ?_⟩
    refine ⟨_, rfl, by omega, by omega, ?_⟩
    refine for_range (n := ((rxs.length : Nat) : Int).toNat) (fun i σ H2 => ∃ (u3 u4 u5 u6 : Option V) (ws : Wrs), σ = [some (.ref p), some (.ref t), some (.ref lo), u3, u4, u5, u6] ∧ Bt [p, lo] H H2 ∧ PoolAt H2 p ∧ LsAt H2 lo (ws.map wrD) ∧ ws.length ≤ i ∧ PrsOk h ws ∧ ChgOk sg.2 ws)
      ⟨none, none, none, none, [], rfl, S1.nil, hp.bt S1 (fun z => nomatch z), ⟨[], h1, .nil⟩, Nat.le_refl _, (fun _ m => nomatch m), (fun _ m => nomatch m)⟩ ?_ ?_
    · rintro i σ H2 hi ⟨u3, u4, u5, u6, ws, rfl, b2, hp2, ⟨zs, ho, tz⟩, wl, wok, wch⟩
      have hi' : i < sg.2.length := by omega
      obtain ⟨g, eg⟩ : ∃ g, sg.2[i]? = some g := ⟨_, List.getElem?_eq_getElem hi'⟩
      have gm := List.mem_of_getElem? eg
      have go := gok g gm
      obtain ⟨rv, erv, trv⟩ := trx.get (i := i) (d := reqD g.rq) (by rw [List.getElem?_map, List.getElem?_map, eg]; rfl)
      obtain ⟨av, eav, tav⟩ := tax.get (i := i) (d := g.ans) (by rw [List.getElem?_map, eg]; rfl)
      have ekl : (sg.2.map fun g => V.str g.kd.s)[i]? = some (.str g.kd.s) := by rw [List.getElem?_map, eg]; rfl
      obtain ⟨gb, gys, rfl, hgb, gtys⟩ := Td.tup_inv trv
      obtain ⟨w1, q1, rfl, tw1, gtys⟩ := gtys.cons_inv
      obtain ⟨kb, rfl, hkb, _⟩ := key_td tw1
      have ej : ((0 : Int) + (i : Nat)) = (i : Int) := Int.zero_add _
      have a1 : atI rxs ((0 : Int) + (i : Nat)) = some (.ref gb) := by rw [ej]; exact atI_nat erv
      have a2 : atI (sg.2.map fun g => V.str g.kd.s) ((0 : Int) + (i : Nat)) = some (.str g.kd.s) := by rw [ej]; exact atI_nat ekl
      have a3 : atI axs ((0 : Int) + (i : Nat)) = some av := by rw [ej]; exact atI_nat eav
      refine ⟨_, rfl, t, _, _, _, rfl, rfl, hT b2, atI_nat (j := 1) rfl, ?_⟩
      refine ⟨_, rfl, ra, _, _, _, rfl, rfl, .inl (.inl (b2.tup _ _ hra)), a1, ?_⟩
      refine ⟨gb, _, _, _, rfl, rfl, .inl (.inl (b2.tup _ _ hgb)), atI_nat (j := 0) rfl, ?_⟩
      refine ⟨_, rfl, p, 4, rfl, hp2, by decide, fun way H3 wy0 wy1 b23 hp3 => ?_⟩
      have b3 : Bt [p, lo] H H3 := b2.trans (b23.mono fun _ z => by simp at z; simp [z])
      have ho3 := b23.at1 npl.symm ho
      have tz3 := tz.bt b23
      have hkb3 := b3.tup _ _ hkb
      have nk : ∀ k : Kd, g.kd ≠ k → ¬ V.str g.kd.s = V.str k.s := fun k n z => n (Kd.s_inj (V.str.inj z))
      have hko := go.rq.key
      -- the list with one more
      have more : ∀ (d : PyData) (ws : Wrs), ws.length ≤ i → PrsOk h ws → ChgOk sg.2 ws → PrOk h (g.rq.key, d) → g.kd ≠ .see → (ws ++ [(g.rq.key, d)]).length ≤ i + 1 ∧ PrsOk h (ws ++ [(g.rq.key, d)]) ∧ ChgOk sg.2 (ws ++ [(g.rq.key, d)]) := by
        intro d ws l1 l2 l3 o n
        refine ⟨by rw [List.length_append, List.length_singleton]; omega, fun x m => ?_, fun x m => ?_⟩
        · rcases List.mem_append.mp m with m | m
          · exact l2 x m
          · rw [List.mem_singleton.mp m]; exact o
        · rcases List.mem_append.mp m with m | m
          · exact l3 x m
          · rw [List.mem_singleton.mp m]; exact ⟨g, gm, n, rfl⟩
      clear tz ho hp2 b23 b2
      cases ek : g.kd with
      | see =>
        refine ⟨_, rfl, t, _, _, _, rfl, rfl, hT b3, atI_nat (j := 2) rfl, ?_⟩
        refine ⟨_, rfl, kl, _, _, _, rfl, rfl, hK b3, a2, ?_⟩
        refine ⟨rfl, _, rfl, iteDF (nk .own (by rw [ek]; decide)) ?_⟩
        refine ⟨_, rfl, t, _, _, _, rfl, rfl, hT b3, atI_nat (j := 2) rfl, ?_⟩
        refine ⟨_, rfl, kl, _, _, _, rfl, rfl, hK b3, a2, ?_⟩
        refine ⟨rfl, _, rfl, iteDF (nk .add (by rw [ek]; decide)) ?_⟩
        refine ⟨_, rfl, t, _, _, _, rfl, rfl, hT b3, atI_nat (j := 2) rfl, ?_⟩
        refine ⟨_, rfl, kl, _, _, _, rfl, rfl, hK b3, a2, ?_⟩
        refine ⟨by show 2 ≤ sizeLine; decide, fun l9 n9 => ?_⟩
        generalize e9 : upd _ l9 _ = H9
        obtain ⟨S9, h9⟩ := new_of e9 n9
        clear e9
        have hin : inV (V.str g.kd.s) [.str ("ample" : Str), .str ("short" : Str)] = false := by rw [ek]; decide +kernel
        refine ⟨l9, _, rfl, .inl (.inl (.inl h9)), rfl, rfl, _, rfl, ite1 (fun e => nomatch (hin.symm.trans e)) (fun _ => ?_)⟩
        exact ⟨_, _, _, _, ws, rfl, (b3).trans S9.nil, (hp3).bt S9 (fun z => nomatch z), ⟨_, S9.at ho3, (tz3).bt S9⟩, by omega, wok, wch⟩
      | own =>
        refine ⟨_, rfl, t, _, _, _, rfl, rfl, hT b3, atI_nat (j := 2) rfl, ?_⟩
        refine ⟨_, rfl, kl, _, _, _, rfl, rfl, hK b3, a2, ?_⟩
        refine ⟨rfl, _, rfl, iteDT (by rw [ek]; rfl) ?_⟩
        refine ⟨_, rfl, _, _, rfl, rfl, _, rfl, iteD2 (fun zw => ?_) (fun zw => ?_)⟩
        · refine ⟨_, rfl, .inl ⟨rfl, _, .inl (.inl ho3)⟩, ?_⟩
          obtain ⟨n, r, hkn⟩ := hko
          have hko : KeyOk h g.rq.key := ⟨n, r, hkn⟩
          have eam := go.rq.own (go.own ek)
          have erec : n.isRec = true := by have := hkn.amt; rw [eam] at this; simpa using this.symm
          have hkb4 : H3 kb = some (.tup ((Sum.inl h :: Sum.inr n.s :: r : List Key).map kV)) := by rw [← hkn.eq]; exact hkb3
          refine ⟨_, rfl, _, rfl, _, rfl, p, kb, h, n, r, rfl, hp3, hkb4, erec, fun v d H5 b5 hp5 tv hdp => ?_⟩
          have b35 : Bt [p, lo] H H5 := b3.trans (b5.mono fun _ z => by simp at z; simp [z])
          have ho5 := b5.at1 npl.symm ho3
          refine ⟨by show 2 ≤ sizeLine; decide, fun t7 n7 => ?_⟩
          generalize e7 : upd _ t7 _ = H7
          obtain ⟨S7, h7⟩ := new_of e7 n7
          clear e7
          refine ⟨lo, zs, _, rfl, rfl, S7.at ho5, sz_lt (by rw [tz3.len, List.length_map]; omega), ?_⟩
          generalize e8 : upd _ lo _ = H8
          obtain ⟨S8, h8⟩ := mut_of e8 (S7.at ho5) trivial
          clear e8
          have bA : Bt [p, lo] H H8 := (b35).trans (S7.nil.trans (S8.mono fun _ z => by simp at z; simp [z]))
          have hpA : PoolAt H8 p := ((hp5).bt S7 (fun z => nomatch z)).bt S8 (no1 npl)
          have tzA : TdA H8 (zs ++ [.ref t7]) ((ws ++ [(g.rq.key, d)]).map wrD) := by
            rw [List.map_append]
            refine (((tz3.bt b5).bt S7).bt S8).app (.one ?_)
            exact (Td.tup h7 (.cons (td_key (S7.tup _ _ ((b35).tup _ _ hkb)) hko.ok) (.cons ((tv).bt S7) .nil))).bt S8
          have mo := more d ws wl wok wch ⟨hko, (fun z => by rw [eam] at z; cases z), hdp⟩ (by rw [ek]; decide)
          refine ⟨_, rfl, t, _, _, _, rfl, rfl, hT bA, atI_nat (j := 2) rfl, ?_⟩
          refine ⟨_, rfl, kl, _, _, _, rfl, rfl, hK bA, a2, ?_⟩
          refine ⟨rfl, _, rfl, iteDF (nk .add (by rw [ek]; decide)) ?_⟩
          refine ⟨_, rfl, t, _, _, _, rfl, rfl, hT bA, atI_nat (j := 2) rfl, ?_⟩
          refine ⟨_, rfl, kl, _, _, _, rfl, rfl, hK bA, a2, ?_⟩
          refine ⟨by show 2 ≤ sizeLine; decide, fun l9 n9 => ?_⟩
          generalize e9 : upd _ l9 _ = H9
          obtain ⟨S9, h9⟩ := new_of e9 n9
          clear e9
          have hin : inV (V.str g.kd.s) [.str ("ample" : Str), .str ("short" : Str)] = false := by rw [ek]; decide +kernel
          refine ⟨l9, _, rfl, .inl (.inl (.inl h9)), rfl, rfl, _, rfl, ite1 (fun e => nomatch (hin.symm.trans e)) (fun _ => ?_)⟩
          exact ⟨_, _, _, _, (ws ++ [(g.rq.key, d)]), rfl, (bA).trans S9.nil, (hpA).bt S9 (fun z => nomatch z), ⟨_, S9.at h8, (tzA).bt S9⟩, mo.1, mo.2.1, mo.2.2⟩
        · skip
          refine ⟨_, rfl, t, _, _, _, rfl, rfl, hT b3, atI_nat (j := 2) rfl, ?_⟩
          refine ⟨_, rfl, kl, _, _, _, rfl, rfl, hK b3, a2, ?_⟩
          refine ⟨rfl, _, rfl, iteDF (nk .add (by rw [ek]; decide)) ?_⟩
          refine ⟨_, rfl, t, _, _, _, rfl, rfl, hT b3, atI_nat (j := 2) rfl, ?_⟩
          refine ⟨_, rfl, kl, _, _, _, rfl, rfl, hK b3, a2, ?_⟩
          refine ⟨by show 2 ≤ sizeLine; decide, fun l9 n9 => ?_⟩
          generalize e9 : upd _ l9 _ = H9
          obtain ⟨S9, h9⟩ := new_of e9 n9
          clear e9
          have hin : inV (V.str g.kd.s) [.str ("ample" : Str), .str ("short" : Str)] = false := by rw [ek]; decide +kernel
          refine ⟨l9, _, rfl, .inl (.inl (.inl h9)), rfl, rfl, _, rfl, ite1 (fun e => nomatch (hin.symm.trans e)) (fun _ => ?_)⟩
          exact ⟨_, _, _, _, ws, rfl, (b3).trans S9.nil, (hp3).bt S9 (fun z => nomatch z), ⟨_, S9.at ho3, (tz3).bt S9⟩, by omega, wok, wch⟩
      | add =>
        refine ⟨_, rfl, t, _, _, _, rfl, rfl, hT b3, atI_nat (j := 2) rfl, ?_⟩
        refine ⟨_, rfl, kl, _, _, _, rfl, rfl, hK b3, a2, ?_⟩
        refine ⟨rfl, _, rfl, iteDF (nk .own (by rw [ek]; decide)) ?_⟩
        refine ⟨_, rfl, t, _, _, _, rfl, rfl, hT b3, atI_nat (j := 2) rfl, ?_⟩
        refine ⟨_, rfl, kl, _, _, _, rfl, rfl, hK b3, a2, ?_⟩
        refine ⟨rfl, _, rfl, iteDT (by rw [ek]; rfl) ?_⟩
        refine ⟨_, rfl, _, _, rfl, rfl, _, rfl, iteD2 (fun zw => ?_) (fun zw => ?_)⟩
        · have eam := go.rq.add (go.add ek).1
          obtain ⟨n, r, hkn⟩ := hko
          have hko : KeyOk h g.rq.key := ⟨n, r, hkn⟩
          have hkb4 : H3 kb = some (.tup ((Sum.inl h :: Sum.inr n.s :: r : List Key).map kV)) := by rw [← hkn.eq]; exact hkb3
          refine ⟨_, rfl, by show 2 ≤ sizeLine; decide, fun l5 n5 => ?_⟩
          generalize e5 : upd _ l5 _ = H5
          obtain ⟨S5, h5⟩ := new_of e5 n5
          clear e5
          refine ⟨_, rfl, rfl, ?_⟩
          refine .inr ⟨_, rfl, ?_⟩
          refine ⟨l5, _, _, _, rfl, rfl, .inl (.inl h5), pick2 _, ?_⟩
          obtain ⟨mm, em, m0⟩ : ∃ mm : Int, (if decide (V.int way = V.int 3) = true then V.int 2520 else V.int 9) = .int mm ∧ 0 < mm := by
            split
            · exact ⟨_, rfl, by decide⟩
            · exact ⟨_, rfl, by decide⟩
          refine ⟨p, mm, (by rw [em]; rfl), hp3.bt S5 (fun z => nomatch z), m0, fun dr H6 d0 d1 b6 hp6 => ?_⟩
          refine ⟨_, _, rfl, rfl, ?_⟩
          have b36 : Bt [p] H3 H6 := S5.nil.trans b6
          have b06 : Bt [p, lo] H H6 := b3.trans (b36.mono fun _ z => by simp at z; simp [z])
          have ho6 := b36.at1 npl.symm ho3
          have hq6 : SqT K H6 kb ((Sum.inl h :: Sum.inr n.s :: r : List Key).map kV) := .inl (.inl (b36.tup _ _ hkb4))
          refine ⟨_, rfl, rfl, _, rfl, iteD2 (fun zy => ?_) (fun zy => ?_)⟩
          · refine ⟨_, rfl, kb, _, _, _, rfl, rfl, hq6, atI_nat (j := 1) rfl, ?_⟩
            refine ⟨by show 2 ≤ sizeLine; decide, fun l10 n10 => ?_⟩
            generalize e10 : upd _ l10 _ = H10
            obtain ⟨S10, h10⟩ := new_of e10 n10
            clear e10
            refine ⟨l10, _, rfl, .inl (.inl (.inl h10)), rfl, rfl, _, rfl, ite1 (fun e => ?_) (fun e => ?_)⟩
            · refine ⟨_, rfl, _, _, rfl, rfl, ?_⟩
              refine ⟨_, rfl, .inl ⟨rfl, _, .inl (.inl (S10.at ho6))⟩, ?_⟩
              refine ⟨_, rfl, _, rfl, ?_⟩
              refine ⟨by show 2 ≤ sizeLine; decide, fun t7 n7 => ?_⟩
              generalize e7 : upd _ t7 _ = H7
              obtain ⟨S7, h7⟩ := new_of e7 n7
              clear e7
              refine ⟨lo, zs, _, rfl, rfl, S7.at (S10.at ho6), sz_lt (by rw [tz3.len, List.length_map]; omega), ?_⟩
              generalize e8 : upd _ lo _ = H8
              obtain ⟨S8, h8⟩ := mut_of e8 (S7.at (S10.at ho6)) trivial
              clear e8
              have bA : Bt [p, lo] H H8 := ((b06.trans S10.nil)).trans (S7.nil.trans (S8.mono fun _ z => by simp at z; simp [z]))
              have hpA : PoolAt H8 p := (((hp6.bt S10 (fun z => nomatch z))).bt S7 (fun z => nomatch z)).bt S8 (no1 npl)
              have tzA : TdA H8 (zs ++ [.ref t7]) ((ws ++ [(g.rq.key, (PyData.int (0 - (1 + dr))))]).map wrD) := by
                rw [List.map_append]
                refine (((((tz3.bt b36).bt S10)).bt S7).bt S8).app (.one ?_)
                exact (Td.tup h7 (.cons (td_key (S7.tup _ _ (((b06.trans S10.nil)).tup _ _ hkb)) hko.ok) (.cons ((Td.int _).bt S7) .nil))).bt S8
              have mo := more (PyData.int (0 - (1 + dr))) ws wl wok wch ⟨hko, (fun _ => ⟨_, rfl⟩), dep0i _⟩ (by rw [ek]; decide)
              refine ⟨_, rfl, t, _, _, _, rfl, rfl, hT bA, atI_nat (j := 2) rfl, ?_⟩
              refine ⟨_, rfl, kl, _, _, _, rfl, rfl, hK bA, a2, ?_⟩
              refine ⟨by show 2 ≤ sizeLine; decide, fun l9 n9 => ?_⟩
              generalize e9 : upd _ l9 _ = H9
              obtain ⟨S9, h9⟩ := new_of e9 n9
              clear e9
              have hin : inV (V.str g.kd.s) [.str ("ample" : Str), .str ("short" : Str)] = false := by rw [ek]; decide +kernel
              refine ⟨l9, _, rfl, .inl (.inl (.inl h9)), rfl, rfl, _, rfl, ite1 (fun e => nomatch (hin.symm.trans e)) (fun _ => ?_)⟩
              exact ⟨_, _, _, _, (ws ++ [(g.rq.key, PyData.int (0 - (1 + dr)))]), rfl, (bA).trans S9.nil, (hpA).bt S9 (fun z => nomatch z), ⟨_, S9.at h8, (tzA).bt S9⟩, mo.1, mo.2.1, mo.2.2⟩
            · skip
              refine ⟨_, rfl, .inl ⟨rfl, _, .inl (.inl (S10.at ho6))⟩, ?_⟩
              refine ⟨_, rfl, _, rfl, ?_⟩
              refine ⟨by show 2 ≤ sizeLine; decide, fun t7 n7 => ?_⟩
              generalize e7 : upd _ t7 _ = H7
              obtain ⟨S7, h7⟩ := new_of e7 n7
              clear e7
              refine ⟨lo, zs, _, rfl, rfl, S7.at (S10.at ho6), sz_lt (by rw [tz3.len, List.length_map]; omega), ?_⟩
              generalize e8 : upd _ lo _ = H8
              obtain ⟨S8, h8⟩ := mut_of e8 (S7.at (S10.at ho6)) trivial
              clear e8
              have bA : Bt [p, lo] H H8 := ((b06.trans S10.nil)).trans (S7.nil.trans (S8.mono fun _ z => by simp at z; simp [z]))
              have hpA : PoolAt H8 p := (((hp6.bt S10 (fun z => nomatch z))).bt S7 (fun z => nomatch z)).bt S8 (no1 npl)
              have tzA : TdA H8 (zs ++ [.ref t7]) ((ws ++ [(g.rq.key, (PyData.int (1 + dr)))]).map wrD) := by
                rw [List.map_append]
                refine (((((tz3.bt b36).bt S10)).bt S7).bt S8).app (.one ?_)
                exact (Td.tup h7 (.cons (td_key (S7.tup _ _ (((b06.trans S10.nil)).tup _ _ hkb)) hko.ok) (.cons ((Td.int _).bt S7) .nil))).bt S8
              have mo := more (PyData.int (1 + dr)) ws wl wok wch ⟨hko, (fun _ => ⟨_, rfl⟩), dep0i _⟩ (by rw [ek]; decide)
              refine ⟨_, rfl, t, _, _, _, rfl, rfl, hT bA, atI_nat (j := 2) rfl, ?_⟩
              refine ⟨_, rfl, kl, _, _, _, rfl, rfl, hK bA, a2, ?_⟩
              refine ⟨by show 2 ≤ sizeLine; decide, fun l9 n9 => ?_⟩
              generalize e9 : upd _ l9 _ = H9
              obtain ⟨S9, h9⟩ := new_of e9 n9
              clear e9
              have hin : inV (V.str g.kd.s) [.str ("ample" : Str), .str ("short" : Str)] = false := by rw [ek]; decide +kernel
              refine ⟨l9, _, rfl, .inl (.inl (.inl h9)), rfl, rfl, _, rfl, ite1 (fun e => nomatch (hin.symm.trans e)) (fun _ => ?_)⟩
              exact ⟨_, _, _, _, (ws ++ [(g.rq.key, PyData.int (1 + dr))]), rfl, (bA).trans S9.nil, (hpA).bt S9 (fun z => nomatch z), ⟨_, S9.at h8, (tzA).bt S9⟩, mo.1, mo.2.1, mo.2.2⟩
          · skip
            refine ⟨_, rfl, .inl ⟨rfl, _, .inl (.inl ho6)⟩, ?_⟩
            refine ⟨_, rfl, _, rfl, ?_⟩
            refine ⟨by show 2 ≤ sizeLine; decide, fun t7 n7 => ?_⟩
            generalize e7 : upd _ t7 _ = H7
            obtain ⟨S7, h7⟩ := new_of e7 n7
            clear e7
            refine ⟨lo, zs, _, rfl, rfl, S7.at ho6, sz_lt (by rw [tz3.len, List.length_map]; omega), ?_⟩
            generalize e8 : upd _ lo _ = H8
            obtain ⟨S8, h8⟩ := mut_of e8 (S7.at ho6) trivial
            clear e8
            have bA : Bt [p, lo] H H8 := (b06).trans (S7.nil.trans (S8.mono fun _ z => by simp at z; simp [z]))
            have hpA : PoolAt H8 p := ((hp6).bt S7 (fun z => nomatch z)).bt S8 (no1 npl)
            have tzA : TdA H8 (zs ++ [.ref t7]) ((ws ++ [(g.rq.key, (PyData.int (1 + dr)))]).map wrD) := by
              rw [List.map_append]
              refine ((((tz3.bt b36)).bt S7).bt S8).app (.one ?_)
              exact (Td.tup h7 (.cons (td_key (S7.tup _ _ ((b06).tup _ _ hkb)) hko.ok) (.cons ((Td.int _).bt S7) .nil))).bt S8
            have mo := more (PyData.int (1 + dr)) ws wl wok wch ⟨hko, (fun _ => ⟨_, rfl⟩), dep0i _⟩ (by rw [ek]; decide)
            refine ⟨_, rfl, t, _, _, _, rfl, rfl, hT bA, atI_nat (j := 2) rfl, ?_⟩
            refine ⟨_, rfl, kl, _, _, _, rfl, rfl, hK bA, a2, ?_⟩
            refine ⟨by show 2 ≤ sizeLine; decide, fun l9 n9 => ?_⟩
            generalize e9 : upd _ l9 _ = H9
            obtain ⟨S9, h9⟩ := new_of e9 n9
            clear e9
            have hin : inV (V.str g.kd.s) [.str ("ample" : Str), .str ("short" : Str)] = false := by rw [ek]; decide +kernel
            refine ⟨l9, _, rfl, .inl (.inl (.inl h9)), rfl, rfl, _, rfl, ite1 (fun e => nomatch (hin.symm.trans e)) (fun _ => ?_)⟩
            exact ⟨_, _, _, _, (ws ++ [(g.rq.key, PyData.int (1 + dr))]), rfl, (bA).trans S9.nil, (hpA).bt S9 (fun z => nomatch z), ⟨_, S9.at h8, (tzA).bt S9⟩, mo.1, mo.2.1, mo.2.2⟩
        · skip
          refine ⟨_, rfl, t, _, _, _, rfl, rfl, hT b3, atI_nat (j := 2) rfl, ?_⟩
          refine ⟨_, rfl, kl, _, _, _, rfl, rfl, hK b3, a2, ?_⟩
          refine ⟨by show 2 ≤ sizeLine; decide, fun l9 n9 => ?_⟩
          generalize e9 : upd _ l9 _ = H9
          obtain ⟨S9, h9⟩ := new_of e9 n9
          clear e9
          have hin : inV (V.str g.kd.s) [.str ("ample" : Str), .str ("short" : Str)] = false := by rw [ek]; decide +kernel
          refine ⟨l9, _, rfl, .inl (.inl (.inl h9)), rfl, rfl, _, rfl, ite1 (fun e => nomatch (hin.symm.trans e)) (fun _ => ?_)⟩
          exact ⟨_, _, _, _, ws, rfl, (b3).trans S9.nil, (hp3).bt S9 (fun z => nomatch z), ⟨_, S9.at ho3, (tz3).bt S9⟩, by omega, wok, wch⟩
      | ample =>
        refine ⟨_, rfl, t, _, _, _, rfl, rfl, hT b3, atI_nat (j := 2) rfl, ?_⟩
        refine ⟨_, rfl, kl, _, _, _, rfl, rfl, hK b3, a2, ?_⟩
        refine ⟨rfl, _, rfl, iteDF (nk .own (by rw [ek]; decide)) ?_⟩
        refine ⟨_, rfl, t, _, _, _, rfl, rfl, hT b3, atI_nat (j := 2) rfl, ?_⟩
        refine ⟨_, rfl, kl, _, _, _, rfl, rfl, hK b3, a2, ?_⟩
        refine ⟨rfl, _, rfl, iteDF (nk .add (by rw [ek]; decide)) ?_⟩
        have eam := go.rq.take (go.ample ek).1
        obtain ⟨ai, eai⟩ : ∃ ai, g.ans = .int ai := ⟨_, (go.ample ek).2⟩
        rw [eai] at tav
        have evi := Td.int_inv tav
        subst evi
        refine ⟨_, rfl, t, _, _, _, rfl, rfl, hT b3, atI_nat (j := 2) rfl, ?_⟩
        refine ⟨_, rfl, kl, _, _, _, rfl, rfl, hK b3, a2, ?_⟩
        refine ⟨by show 2 ≤ sizeLine; decide, fun l9 n9 => ?_⟩
        generalize e9 : upd _ l9 _ = H9
        obtain ⟨S9, h9⟩ := new_of e9 n9
        clear e9
        have b9 : Bt [p, lo] H H9 := b3.trans S9.nil
        have hp9 := hp3.bt S9 (fun z => nomatch z)
        have ho9 := S9.at ho3
        have tz9 := tz3.bt S9
        have hin : inV (V.str g.kd.s) [.str ("ample" : Str), .str ("short" : Str)] = true := by rw [ek]; decide +kernel
        refine ⟨l9, _, rfl, .inl (.inl (.inl h9)), rfl, rfl, _, rfl, ite1 (fun _ => ?_) (fun e => nomatch (hin.symm.trans e))⟩
        refine ⟨_, rfl, _, _, rfl, rfl, _, rfl, iteD2 (fun zw => ?_) (fun zw => ?_)⟩
        · skip
          refine ⟨_, rfl, t, _, _, _, rfl, rfl, hT b9, atI_nat (j := 3) rfl, ?_⟩
          refine ⟨_, rfl, aa, _, _, _, rfl, rfl, hA b9, a3, ?_⟩
          refine ⟨_, _, rfl, rfl, _, rfl, iteD2 (fun za => ?_) (fun za => ?_)⟩
          · refine ⟨_, rfl, .inl ⟨rfl, _, .inl (.inl ho9)⟩, ?_⟩
            refine ⟨_, rfl, ?_⟩
            refine ⟨_, rfl, t, _, _, _, rfl, rfl, hT b9, atI_nat (j := 3) rfl, ?_⟩
            refine ⟨_, rfl, aa, _, _, _, rfl, rfl, hA b9, a3, ?_⟩
            refine ⟨_, rfl, t, _, _, _, rfl, rfl, hT b9, atI_nat (j := 3) rfl, ?_⟩
            refine ⟨_, rfl, aa, _, _, _, rfl, rfl, hA b9, a3, ?_⟩
            refine ⟨_, _, rfl, rfl, ⟨by decide, by decide⟩, ?_⟩
            refine ⟨_, _, rfl, rfl, ?_⟩
            refine ⟨by show 3 ≤ sizeLine; decide, fun l11 n11 => ?_⟩
            generalize e11 : upd _ l11 _ = H11
            obtain ⟨S11, h11⟩ := new_of e11 n11
            clear e11
            refine ⟨_, rfl, _, _, rfl, rfl, ?_⟩
            obtain ⟨u, hu2, eu⟩ := three_of (a := .int ai) (b := .int 1) (c := .int (1 + ai / 2)) (j := way - 1) (by omega) (by omega)
            obtain ⟨mv, rfl⟩ : ∃ mv : Int, u = .int mv := by
              rcases eu with e | e | e <;> exact ⟨_, e⟩
            refine ⟨l11, _, _, _, rfl, rfl, .inl (.inl h11), hu2, ?_⟩
            refine ⟨_, _, rfl, rfl, ?_⟩
            refine ⟨by show 2 ≤ sizeLine; decide, fun t7 n7 => ?_⟩
            generalize e7 : upd _ t7 _ = H7
            obtain ⟨S7, h7⟩ := new_of e7 n7
            clear e7
            refine ⟨lo, zs, _, rfl, rfl, S7.at (S11.at ho9), sz_lt (by rw [tz3.len, List.length_map]; omega), ?_⟩
            generalize e8 : upd _ lo _ = H8
            obtain ⟨S8, h8⟩ := mut_of e8 (S7.at (S11.at ho9)) trivial
            clear e8
            have bA : Bt [p, lo] H H8 := ((b9.trans S11.nil)).trans (S7.nil.trans (S8.mono fun _ z => by simp at z; simp [z]))
            have hpA : PoolAt H8 p := (((hp9.bt S11 (fun z => nomatch z))).bt S7 (fun z => nomatch z)).bt S8 (no1 npl)
            have tzA : TdA H8 (zs ++ [.ref t7]) ((ws ++ [(g.rq.key, (PyData.int (0 - mv)))]).map wrD) := by
              rw [List.map_append]
              refine ((((tz9.bt S11)).bt S7).bt S8).app (.one ?_)
              exact (Td.tup h7 (.cons (td_key (S7.tup _ _ (((b9.trans S11.nil)).tup _ _ hkb)) hko.ok) (.cons ((Td.int _).bt S7) .nil))).bt S8
            have mo := more (PyData.int (0 - mv)) ws wl wok wch ⟨hko, (fun _ => ⟨_, rfl⟩), dep0i _⟩ (by rw [ek]; decide)
            exact ⟨_, _, _, _, (ws ++ [(g.rq.key, PyData.int (0 - mv))]), rfl, bA, hpA, ⟨_, h8, tzA⟩, mo.1, mo.2.1, mo.2.2⟩
          · exact ⟨_, _, _, _, ws, rfl, b9, hp9, ⟨_, ho9, tz9⟩, by omega, wok, wch⟩
        · exact ⟨_, _, _, _, ws, rfl, b9, hp9, ⟨_, ho9, tz9⟩, by omega, wok, wch⟩
      | short =>
        refine ⟨_, rfl, t, _, _, _, rfl, rfl, hT b3, atI_nat (j := 2) rfl, ?_⟩
        refine ⟨_, rfl, kl, _, _, _, rfl, rfl, hK b3, a2, ?_⟩
        refine ⟨rfl, _, rfl, iteDF (nk .own (by rw [ek]; decide)) ?_⟩
        refine ⟨_, rfl, t, _, _, _, rfl, rfl, hT b3, atI_nat (j := 2) rfl, ?_⟩
        refine ⟨_, rfl, kl, _, _, _, rfl, rfl, hK b3, a2, ?_⟩
        refine ⟨rfl, _, rfl, iteDF (nk .add (by rw [ek]; decide)) ?_⟩
        have eam := go.rq.take (go.short ek).1
        obtain ⟨ai, eai⟩ := (go.short ek).2
        rw [eai] at tav
        have evi := Td.int_inv tav
        subst evi
        refine ⟨_, rfl, t, _, _, _, rfl, rfl, hT b3, atI_nat (j := 2) rfl, ?_⟩
        refine ⟨_, rfl, kl, _, _, _, rfl, rfl, hK b3, a2, ?_⟩
        refine ⟨by show 2 ≤ sizeLine; decide, fun l9 n9 => ?_⟩
        generalize e9 : upd _ l9 _ = H9
        obtain ⟨S9, h9⟩ := new_of e9 n9
        clear e9
        have b9 : Bt [p, lo] H H9 := b3.trans S9.nil
        have hp9 := hp3.bt S9 (fun z => nomatch z)
        have ho9 := S9.at ho3
        have tz9 := tz3.bt S9
        have hin : inV (V.str g.kd.s) [.str ("ample" : Str), .str ("short" : Str)] = true := by rw [ek]; decide +kernel
        refine ⟨l9, _, rfl, .inl (.inl (.inl h9)), rfl, rfl, _, rfl, ite1 (fun _ => ?_) (fun e => nomatch (hin.symm.trans e))⟩
        refine ⟨_, rfl, _, _, rfl, rfl, _, rfl, iteD2 (fun zw => ?_) (fun zw => ?_)⟩
        · skip
          refine ⟨_, rfl, t, _, _, _, rfl, rfl, hT b9, atI_nat (j := 3) rfl, ?_⟩
          refine ⟨_, rfl, aa, _, _, _, rfl, rfl, hA b9, a3, ?_⟩
          refine ⟨_, _, rfl, rfl, _, rfl, iteD2 (fun za => ?_) (fun za => ?_)⟩
          · refine ⟨_, rfl, .inl ⟨rfl, _, .inl (.inl ho9)⟩, ?_⟩
            refine ⟨_, rfl, ?_⟩
            refine ⟨_, rfl, t, _, _, _, rfl, rfl, hT b9, atI_nat (j := 3) rfl, ?_⟩
            refine ⟨_, rfl, aa, _, _, _, rfl, rfl, hA b9, a3, ?_⟩
            refine ⟨_, rfl, t, _, _, _, rfl, rfl, hT b9, atI_nat (j := 3) rfl, ?_⟩
            refine ⟨_, rfl, aa, _, _, _, rfl, rfl, hA b9, a3, ?_⟩
            refine ⟨_, _, rfl, rfl, ⟨by decide, by decide⟩, ?_⟩
            refine ⟨_, _, rfl, rfl, ?_⟩
            refine ⟨by show 3 ≤ sizeLine; decide, fun l11 n11 => ?_⟩
            generalize e11 : upd _ l11 _ = H11
            obtain ⟨S11, h11⟩ := new_of e11 n11
            clear e11
            refine ⟨_, rfl, _, _, rfl, rfl, ?_⟩
            obtain ⟨u, hu2, eu⟩ := three_of (a := .int ai) (b := .int 1) (c := .int (1 + ai / 2)) (j := way - 1) (by omega) (by omega)
            obtain ⟨mv, rfl⟩ : ∃ mv : Int, u = .int mv := by
              rcases eu with e | e | e <;> exact ⟨_, e⟩
            refine ⟨l11, _, _, _, rfl, rfl, .inl (.inl h11), hu2, ?_⟩
            refine ⟨_, _, rfl, rfl, ?_⟩
            refine ⟨by show 2 ≤ sizeLine; decide, fun t7 n7 => ?_⟩
            generalize e7 : upd _ t7 _ = H7
            obtain ⟨S7, h7⟩ := new_of e7 n7
            clear e7
            refine ⟨lo, zs, _, rfl, rfl, S7.at (S11.at ho9), sz_lt (by rw [tz3.len, List.length_map]; omega), ?_⟩
            generalize e8 : upd _ lo _ = H8
            obtain ⟨S8, h8⟩ := mut_of e8 (S7.at (S11.at ho9)) trivial
            clear e8
            have bA : Bt [p, lo] H H8 := ((b9.trans S11.nil)).trans (S7.nil.trans (S8.mono fun _ z => by simp at z; simp [z]))
            have hpA : PoolAt H8 p := (((hp9.bt S11 (fun z => nomatch z))).bt S7 (fun z => nomatch z)).bt S8 (no1 npl)
            have tzA : TdA H8 (zs ++ [.ref t7]) ((ws ++ [(g.rq.key, (PyData.int (0 - mv)))]).map wrD) := by
              rw [List.map_append]
              refine ((((tz9.bt S11)).bt S7).bt S8).app (.one ?_)
              exact (Td.tup h7 (.cons (td_key (S7.tup _ _ (((b9.trans S11.nil)).tup _ _ hkb)) hko.ok) (.cons ((Td.int _).bt S7) .nil))).bt S8
            have mo := more (PyData.int (0 - mv)) ws wl wok wch ⟨hko, (fun _ => ⟨_, rfl⟩), dep0i _⟩ (by rw [ek]; decide)
            exact ⟨_, _, _, _, (ws ++ [(g.rq.key, PyData.int (0 - mv))]), rfl, bA, hpA, ⟨_, h8, tzA⟩, mo.1, mo.2.1, mo.2.2⟩
          · exact ⟨_, _, _, _, ws, rfl, b9, hp9, ⟨_, ho9, tz9⟩, by omega, wok, wch⟩
        · exact ⟨_, _, _, _, ws, rfl, b9, hp9, ⟨_, ho9, tz9⟩, by omega, wok, wch⟩
    · rintro σ H2 ⟨u3, u4, u5, u6, ws, rfl, b2, hp2, ⟨zs, ho, tz⟩, wl, wok, wch⟩
      refine ⟨_, rfl, lo, zs, rfl, .inl ⟨.inl (.inl ho), fun t4 n4 => ?_⟩⟩
      generalize e4 : upd _ t4 _ = H4
      obtain ⟨S4, h4⟩ := new_of e4 n4
      clear e4
      have b0 : Bt (lo :: [p]) H H2 := b2.mono fun _ z => by simp at z; rcases z with z | z <;> simp [z]
      exact q _ ws H4 ((b0.dropN nlo).trans S4.nil) (hp2.bt S4 (fun z => nomatch z)) (.tup h4 (tz.bt S4)) wok wch (by omega)
end
end K33

/-! K23: the law's values -/
namespace K33
open PySem L2
section
variable {P : Program} {w : World} {K : PySem.W.Frag} {mg : Str → Option Value} {base : Heap}
theorem amt_fv {k : List Key} (h : amt k = true) : fv k = .int 0 := by
  unfold fv fst0
  rw [h]
  rfl
abbrev s_law_carried : Stmt := top 51
theorem sc_law_carried : FnScope ["_law_values_here", "_law_writes_here", "_law_pair"] ["_law_values_here", "_law_writes_here"] (defScope s_law_carried) := ⟨rfl, rfl, rfl, by decide +kernel, rfl, by decide +kernel, by decide +kernel⟩
theorem ok_carried {f : Addr} {fd : FuncData} (F : Fun K "_law_carried" "_law_carried" s_law_carried f fd) : FnOk P w K mg base CX0 1 f fd ["_law_values_here", "_law_writes_here"] spCarry := by
  refine F.ok sc_law_carried (fun vs H Q E h => ?_) (fun cdv A outer s H vs Q E hr h => ?_)
  · obtain ⟨_, _, _, _, _, rfl, _⟩ := h
    rfl
  · obtain ⟨d, t, h, vals, ws, rfl, hd, ht, ho, hw, hl, q⟩ := h
    have hu := hu_of hr
    obtain ⟨_, xs, e, h1, h2⟩ := Td.tup_inv ht
    cases e
    have el : xs.length = ws.length := by rw [h2.len, List.length_map]
    refine ⟨_, ((pss_one (ps_for PassesOwn.never rfl (pi_tup (pv 1)) (pg_name (i := 2) sc_law_carried.nd rfl (Or.inl rfl))
  (pss_one (ps_if (pt_cmpR (op_in_seqK (K := K) rfl) (pe_ix (ix_tupK (K := K) rfl) (pe_ix (ix_tupK (K := K) rfl) (pv 2) pe_int (fun _ _ => rfl)) pe_int (fun _ _ => rfl)) (pe_lst (pa_cons pe_str (pa_cons pe_str (pa_cons pe_str (pa_cons pe_str (pa_cons pe_str pa_nil)))))) rfl) (pss_one (ps_dput hu (pv 0) (pe_ix (ix_tupK (K := K) rfl) (pv 2) pe_int (fun _ _ => rfl)) (pe_ix (ix_tupK (K := K) rfl) (pv 2) pe_int (fun _ _ => rfl)) rfl)) (pss_one (ps_dput hu (pv 0) (pe_ix (ix_tupK (K := K) rfl) (pv 2) pe_int (fun _ _ => rfl)) (pe_op op_add (pe_dget2 hu (pv 0) (pe_ix (ix_tupK (K := K) rfl) (pv 2) pe_int (fun _ _ => rfl)) pe_int ⟨rfl, rfl, rfl, rfl⟩) (pe_ix (ix_tupK (K := K) rfl) (pv 2) pe_int (fun _ _ => rfl))) rfl))))))), ?_⟩
    refine ⟨_, rfl, t, rfl, ⟨_, .inl (.inl h1)⟩, ?_⟩
    refine for_tup (K := K) (a := t) (xs := xs) (fun i σ H2 => ∃ u : Option V, σ = [some (.ref d), some (.ref t), u] ∧ Bt [d] H H2 ∧ DictAt H2 d (carry vals (ws.take i))) ⟨none, rfl, Bt.refl, hd⟩ (fun i σ H2 _ hp => ?_) ?_ ?_
    · obtain ⟨_, _, b, _⟩ := hp
      exact .inl (.inl (b.tup _ _ h1))
    · rintro i x σ H2 hx ⟨u, rfl, b, hd2⟩
      obtain ⟨dd, e1, td⟩ := (h2.bt b).get' hx
      rw [List.getElem?_map] at e1
      cases ew : ws[i]? with
      | none => rw [ew] at e1; cases e1
      | some p =>
      rw [ew] at e1
      cases e1
      obtain ⟨a, ys, rfl, ha, hys⟩ := Td.tup_inv td
      obtain ⟨kr, r1, rfl, tk, hys⟩ := hys.cons_inv
      obtain ⟨wv, r2, rfl, tw, hys⟩ := hys.cons_inv
      cases hys.nil_inv
      obtain ⟨kb, rfl, hkb, _⟩ := key_td tk
      have pok : PrOk h p := hw p (List.mem_of_getElem? ew)
      have vok : PrsOk h (carry vals (ws.take i)) := carry_ok ho fun r m => hw r (List.mem_of_mem_take m)
      have hlen : (carry vals (ws.take i)).length ≤ 100000 := by
        have := carry_len (ws.take i) vals
        have h3 : (ws.take i).length ≤ ws.length := by rw [List.length_take]; omega
        omega
      obtain ⟨n, r, hkn⟩ := pok.key
      have hkb' : H2 kb = some (.tup ((Sum.inl h :: Sum.inr n.s :: r : List Key).map kV)) := by rw [← hkn.eq]; exact hkb
      have hamt := hkn.amt
      refine ⟨_, rfl, a, _, _, _, rfl, rfl, .inl (.inl ha), atI_nat (j := 0) rfl, ?_⟩
      refine ⟨kb, _, _, _, rfl, rfl, .inl (.inl hkb'), atI_nat (j := 1) rfl, ?_⟩
      refine ⟨by show 5 ≤ sizeLine; decide, fun l3 n3 => ?_⟩
      generalize e3 : upd _ l3 _ = H3
      obtain ⟨S3, h3⟩ := new_of e3 n3
      clear e3
      refine ⟨l3, _, rfl, .inl (.inl (.inl h3)), rfl, rfl, _, rfl, ?_⟩
      have hd3 := hd2.bt S3 (fun z => nomatch z)
      have ha3 := S3.tup _ _ ha
      have hkb3 := S3.tup _ _ hkb
      refine ite1 (fun e => ?_) (fun e => ?_)
      · have er : n.isRec = true := (in_recs n).symm.trans e
        have ea : amt p.1 = false := by rw [hamt, er]; rfl
        obtain ⟨H5, put, b5, hd5⟩ := hd3.put hkb3 (tw.bt S3) (by omega)
        refine ⟨_, rfl, a, _, _, _, rfl, rfl, .inl (.inl ha3), atI_nat (j := 1) rfl, ?_⟩
        refine ⟨_, rfl, ?_⟩
        refine ⟨_, rfl, a, _, _, _, rfl, rfl, .inl (.inl ha3), atI_nat (j := 0) rfl, ?_⟩
        refine ⟨d, H5, rfl, put, ?_⟩
        refine ⟨_, rfl, (b.trans S3.nil).trans b5, ?_⟩
        rw [carry_take ew]
        unfold carry1
        rw [if_neg (by rw [ea]; exact Bool.false_ne_true)]
        exact hd5
      · have er : n.isRec = false := (in_recs n).symm.trans e
        have ea : amt p.1 = true := by rw [hamt, er]; rfl
        obtain ⟨m2, em2⟩ := pok.am ea
        rw [em2] at tw
        have e4 := Td.int_inv tw
        subst e4
        obtain ⟨o, og, oe⟩ := hd3.get hkb3
        obtain ⟨m1, em1⟩ := vok.gv pok.key ea
        have eov : o.getD (.int 0) = .int m1 := by
          rcases oe with ⟨rfl, e5⟩ | ⟨v, x, rfl, e5, tv⟩
          · rw [e5] at em1
            rw [amt_fv ea] at em1
            cases em1
            rfl
          · rw [e5] at em1
            cases em1
            exact Td.int_inv tv
        refine ⟨_, rfl, d, rfl, (by obtain ⟨kk, z1, _⟩ := hd3; exact .inr ⟨kk, .inl z1⟩), ?_⟩
        refine ⟨_, rfl, a, _, _, _, rfl, rfl, .inl (.inl ha3), atI_nat (j := 0) rfl, ?_⟩
        refine ⟨o, og, ?_⟩
        rw [eov]
        refine ⟨_, rfl, a, _, _, _, rfl, rfl, .inl (.inl ha3), atI_nat (j := 1) rfl, ?_⟩
        refine ⟨_, _, rfl, rfl, ?_⟩
        refine ⟨_, rfl, ?_⟩
        refine ⟨_, rfl, a, _, _, _, rfl, rfl, .inl (.inl ha3), atI_nat (j := 0) rfl, ?_⟩
        obtain ⟨H5, put, b5, hd5⟩ := hd3.put hkb3 (.int (m1 + m2)) (by omega)
        refine ⟨d, H5, rfl, put, ?_⟩
        refine ⟨_, rfl, (b.trans S3.nil).trans b5, ?_⟩
        rw [carry_take ew]
        unfold carry1
        rw [if_pos ea, em1, em2]
        exact hd5
    · rintro σ H2 ⟨u, rfl, b, hd2⟩
      rw [el, List.take_length] at hd2
      exact q H2 b hd2
/-! ### values -/
def spValues (K : PySem.W.Frag) : Sp := fun vs H Q _ => ∃ (a : Addr) (xs : List V) (h : Int) (ps : Wrs), vs = [.ref a] ∧ H a = some (.lst xs) ∧ TdA H xs (ps.map wrD) ∧ (∀ p ∈ ps, KeyOk h p.1) ∧ ps.length ≤ 100000 ∧ ∀ d H', H d = none → Bt [] H H' → DictAt H' d (startV h ps) → Q (.ref d) H'
abbrev s_law_values : Stmt := top 53
theorem sc_law_values : FnScope ["_law_start_here", "_law_values_here", "_law_pair"] ["_law_start_here"] (defScope s_law_values) := ⟨rfl, rfl, rfl, by decide +kernel, rfl, by decide +kernel, by decide +kernel⟩
theorem ok_values {f : Addr} {fd : FuncData} (F : Fun K "_law_values" "_law_values" s_law_values f fd) : FnOk P w K mg base CX0 1 f fd ["_law_start_here"] (spValues K) := by
  refine F.ok sc_law_values (fun vs H Q E h => ?_) (fun cdv A outer s H vs Q E hr h => ?_)
  · obtain ⟨_, _, _, _, rfl, _⟩ := h
    rfl
  · obtain ⟨a, xs, h, ps, rfl, ha, txs, pok, pl, q⟩ := h
    have hu := hu_of hr
    have xl : xs.length = ps.length := by rw [txs.len, List.length_map]
    refine ⟨_, ((pss_cons (ps_set (i := 1) sc_law_values.nd rfl (Or.inl rfl) pe_dnewT)
  (pss_cons (ps_for PassesOwn.never rfl (pi_list (pv 0)) (pg_name (i := 2) sc_law_values.nd rfl (Or.inl rfl))
  (pss_one (ps_dput hu (pv 1) (pe_ix (ix_tupK (K := K) rfl) (pv 2) pe_int (fun _ _ => rfl)) (pe_ix (ix_tupK (K := K) rfl) (pv 2) pe_int (fun _ _ => rfl)) rfl)))
  (pss_one (ps_ret (pv 1)))))), ?_⟩
    intro d nd
    generalize e1 : upd _ d _ = H1
    obtain ⟨S1, h1⟩ := new_of e1 nd
    clear e1
    have nad : a ≠ d := ne_of_none ha nd
    refine ⟨_, rfl, a, rfl, ⟨xs, .inl (.inl (S1.at ha))⟩, ?_⟩
    refine for_list (K := K) (a := a) (xs := xs) (fun i σ H2 => ∃ u : Option V, σ = [some (.ref a), some (.ref d), u] ∧ Bt [d] H H2 ∧ DictAt H2 d (startV h (ps.take i))) ⟨none, rfl, S1.nil, [], h1, .nil⟩ (fun i σ H2 _ hp => ?_) ?_ ?_
    · obtain ⟨_, _, b, _⟩ := hp
      exact .inl (.inl (b.at1 nad ha))
    · rintro i x σ H2 hx ⟨u, rfl, b, hd⟩
      obtain ⟨dd, e2, td⟩ := (txs.bt b).get' hx
      rw [List.getElem?_map] at e2
      cases er : ps[i]? with
      | none => rw [er] at e2; cases e2
      | some p =>
      rw [er] at e2
      cases e2
      obtain ⟨tb, ys, rfl, hb, tys⟩ := Td.tup_inv td
      obtain ⟨w1, r1, rfl, tw1, tys⟩ := tys.cons_inv
      obtain ⟨w2, r2, rfl, tw2, tys⟩ := tys.cons_inv
      cases tys.nil_inv
      obtain ⟨kb, rfl, hkb, _⟩ := key_td tw1
      refine ⟨_, rfl, tb, _, _, _, rfl, rfl, .inl (.inl hb), atI_nat (j := 1) rfl, ?_⟩
      refine ⟨_, rfl, ?_⟩
      refine ⟨_, rfl, tb, _, _, _, rfl, rfl, .inl (.inl hb), atI_nat (j := 0) rfl, ?_⟩
      obtain ⟨H11, put, b11, hd11⟩ := hd.put hkb tw2 (by
        have := start_len (h := h) (ps.take i) []
        have h3 : (ps.take i).length ≤ ps.length := by rw [List.length_take]; omega
        unfold startV
        rw [List.length_nil] at this
        omega)
      refine ⟨d, H11, rfl, put, ?_⟩
      refine ⟨_, rfl, b.trans b11, ?_⟩
      rw [start_take er]
      unfold start1
      rw [if_pos (pok p (List.mem_of_getElem? er)).hdI]
      exact hd11
    · rintro σ H2 ⟨u, rfl, b, hd⟩
      rw [xl, List.take_length] at hd
      exact ⟨_, rfl, q d H2 nd (b.dropN nd) hd⟩
/-! ### shown -/
def spShown : Sp := fun vs H Q _ => ∃ (dv lm : Addr) (h : Int) (vals : Vs) (ks : List (List Key)), vs = [.ref dv, .ref lm] ∧ DictAt H dv vals ∧ LsAt H lm (ks.map kD) ∧ (∀ k ∈ ks, KeyOk h k) ∧ PrsOk h vals ∧ ks.length ≤ 100 ∧ ∀ v H', Bt [] H H' → Td H' v (.tuple (shownOf vals ks)) → Q v H'
abbrev s_law_shown : Stmt := top 54
theorem sc_law_shown : FnScope ["_law_values_here", "_law_menu_here", "_law_keys", "_law_key"] ["_law_values_here", "_law_menu_here"] (defScope s_law_shown) := ⟨rfl, rfl, rfl, by decide +kernel, rfl, by decide +kernel, by decide +kernel⟩
theorem ok_shown {f : Addr} {fd : FuncData} (F : Fun K "_law_shown" "_law_shown" s_law_shown f fd) (T : Blt mg) (C_law_first : Cal P w K mg base "_law_first" 1 spFirst) : FnOk P w K mg base CX0 2 f fd ["_law_values_here", "_law_menu_here"] spShown := by
  refine F.ok sc_law_shown (fun vs H Q E h => ?_) (fun cdv A outer s H vs Q E hr h => ?_)
  · obtain ⟨_, _, _, _, _, rfl, _⟩ := h
    rfl
  · obtain ⟨dv, lm, h, vals, ks, rfl, hd, ⟨ms, hm, tm⟩, kok, po, kl, q⟩ := h
    have hu := hu_of hr
    have ml : ms.length = ks.length := by rw [tm.len, List.length_map]
    refine ⟨_, ((pss_cons (ps_setLc (i := 2) (own := [("_law_key", 3)]) (g := gName 3)  rfl sc_law_shown.nd rfl rfl (sw_true rfl rfl rfl (by decide +kernel)) (pi_list (pv 1)) (blkOk_by (own := [("_law_key", 3)]) (N := ["_law_values_here", "_law_menu_here", "_law_keys", "_law_key"]) (sc := defScope s_law_shown) (by decide +kernel)) (fun _ _ _ _ _ => (pg_name (i := 3) sc_law_shown.nd rfl (Or.inl rfl))) (fun _ _ _ _ _ => pts_one (pt_cmpR (op_neDK (K := K) rfl hr.units) (pe_dget2 hu (pv 0) (pv 3) (pe_cc C_law_first hr (by decide) (by rfl) (pa_cons (pv 3) pa_nil)) ⟨rfl, rfl, rfl, rfl⟩) (pe_cc C_law_first hr (by decide) (by rfl) (pa_cons (pv 3) pa_nil)) (nomark _))) (fun _ _ _ _ _ => (pv 3)))
  (pss_one (ps_ret (pe_callTy call_tuple_of (by rfl) T.tuple B_tuple (pa_cons (pe_lc (own := [("_law_key", 3)]) (g := gName 3)  rfl sc_law_shown.nd (pi_list (pv 2)) (blkOk_by (own := [("_law_key", 3)]) (N := ["_law_values_here", "_law_menu_here", "_law_keys", "_law_key"]) (sc := defScope s_law_shown) (by decide +kernel)) (fun _ _ _ _ _ => (pg_name (i := 3) sc_law_shown.nd rfl (Or.inl rfl))) (fun _ _ _ _ _ => pts_nil) (fun _ _ _ _ _ => (pe_tup (pa_cons (pv 3) (pa_cons (pe_dget hu (pv 0) (pv 3) (fun _ _ => rfl)) pa_nil))))) pa_nil)))))), ?_⟩
    refine ⟨_, rfl, lm, rfl, ⟨ms, .inl (.inl hm)⟩, fun D nD => ?_⟩
    refine lcD (walk_list (K := K) (xs := ms)) nD (fun H b => b.sqL (.inl (.inl hm))) (by omega) (fun i => ((ks.take i).filter (shows vals)).map kD) rfl ?_ ?_
    · intro i x H2 hx b2 N1 N2 k1 k2
      obtain ⟨dd, e2, td⟩ := (tm.bt b2).get' hx
      rw [List.getElem?_map] at e2
      cases ek : ks[i]? with
      | none => rw [ek] at e2; cases e2
      | some k =>
      rw [ek] at e2
      cases e2
      obtain ⟨kb, rfl, hkb, _⟩ := key_td td
      have hk := kok k (List.mem_of_getElem? ek)
      have hd2 := hd.bt b2 (fun z => nomatch z)
      refine ⟨rfl, ?_⟩
      refine ⟨_, rfl, dv, rfl, (by obtain ⟨kk, z1, _⟩ := hd2; exact .inr ⟨kk, .inl z1⟩), ?_⟩
      refine ⟨_, rfl, _, rfl, kb, h, k, rfl, hkb, hk, fun H3 b3 => ?_⟩
      obtain ⟨o, og, oe⟩ := (hd2.bt b3 (fun z => nomatch z)).get (b3.tup _ _ hkb)
      refine ⟨o, og, ?_⟩
      have tval : Td H3 (o.getD (fvV k)) (gv vals k) := by
        unfold gv
        rcases oe with ⟨rfl, e⟩ | ⟨v, x, rfl, e, t⟩
        · rw [e]; exact td_fv H3 k
        · rw [e]; exact t
      refine ⟨_, rfl, kb, h, k, rfl, b3.tup _ _ hkb, hk, fun H4 b4 => ?_⟩
      have tv4 := tval.bt b4
      have tf4 := td_fv H4 k
      refine ⟨gv vals k, fv k, tv4.dp, tf4.dp, tv4.shaped (by have := gv_dp (k := k) po; omega), tf4.shaped (by rw [fv_depth]; omega), _, rfl, ?_⟩
      have et := ft_take (shows vals) kD ek
      refine ite1 (fun e => ?_) (fun e => ?_)
      · have e' : shows vals k = true := e
        refine ⟨_, rfl, k1 _ H4 _ (b3.trans b4) ((td.bt b3).bt b4) ?_⟩
        show ((ks.take (i + 1)).filter (shows vals)).map kD = _
        rw [et, if_pos e']
      · have e' : shows vals k = false := e
        refine k2 H4 (b3.trans b4) ?_
        show ((ks.take (i + 1)).filter (shows vals)).map kD = _
        rw [et, if_neg (by rw [e']; exact Bool.false_ne_true), List.append_nil]
    intro H2 zs b2 hD tz
    rw [ml, List.take_length] at tz
    have zl : zs.length ≤ 100 := by
      rw [tz.len, List.length_map]
      exact Nat.le_trans (List.length_filter_le _ _) kl
    have zeq : zs.length = (ks.filter (shows vals)).length := by rw [tz.len, List.length_map]
    refine ⟨_, rfl, D, rfl, ⟨zs, .inl (.inl hD)⟩, fun D2 nD2 => ?_⟩
    refine lcD (walk_list (K := K) (xs := zs)) nD2 (fun H b => b.sqL (.inl (.inl hD))) (by omega) (fun i => ((ks.filter (shows vals)).take i).map fun k => .tuple [kD k, gv vals k]) rfl ?_ ?_
    · intro i x H3 hx b3 N1 N2 k1 k2
      obtain ⟨dd, e2, td⟩ := (tz.bt b3).get' hx
      rw [List.getElem?_map] at e2
      cases ek : (ks.filter (shows vals))[i]? with
      | none => rw [ek] at e2; cases e2
      | some k =>
      rw [ek] at e2
      cases e2
      obtain ⟨kb, rfl, hkb, _⟩ := key_td td
      obtain ⟨km, ksh⟩ := List.mem_filter.mp (List.mem_of_getElem? ek)
      obtain ⟨o, og, oe⟩ := (hd.bt (b2.trans b3) (fun z => nomatch z)).get hkb
      obtain ⟨v, x, rfl, e, tv⟩ : ∃ v x, o = some v ∧ gt vals k = some x ∧ Td H3 v x := by
        rcases oe with ⟨_, e⟩ | z
        · exfalso
          unfold shows gv at ksh
          rw [e] at ksh
          have := (td_fv H3 k).eqv (td_fv H3 k)
          rw [decide_eq_true rfl] at this
          rw [show ((none : Option PyData).getD (fv k)) = fv k from rfl, this] at ksh
          cases ksh
        · exact z
      have egv : gv vals k = x := by unfold gv; rw [e]; rfl
      refine ⟨rfl, ?_⟩
      refine ⟨_, rfl, _, rfl, _, rfl, dv, v, rfl, og, ?_⟩
      refine ⟨by show 2 ≤ sizeLine; decide, fun t nt => ?_⟩
      generalize e4 : upd _ t _ = H4
      obtain ⟨S4, h4⟩ := new_of e4 nt
      clear e4
      refine k1 _ H4 (.tuple [kD k, gv vals k]) S4 (.tup h4 (.cons (td.bt S4) (.cons ?_ .nil))) (take_map _ ek)
      rw [egv]
      exact tv.bt S4
    · intro H3 us b3 hD2 tu
      refine ⟨D2, us, rfl, .inl ⟨.inl (.inl hD2), fun p4 n4 => ?_⟩⟩
      generalize e4 : upd _ p4 _ = H4
      obtain ⟨S4, h4⟩ := new_of e4 n4
      clear e4
      rw [zeq, List.take_length] at tu
      exact q _ H4 ((b2.trans b3).trans S4) (.tup h4 (tu.bt S4))
end
end K33

/-! K24: the law's start -/
namespace K33
open PySem L2
section
variable {P : Program} {w : World} {K : PySem.W.Frag} {mg : Str → Option Value} {base : Heap}
structure SumOk (h : Int) (ks : List (List Key)) (vals : Vs) (n : Nat) : Prop where
  po : PrsOk h vals
  ki : ∀ k ∈ vals.map (·.1), k ∈ ks
  le : vals.length ≤ n
theorem SumOk.put {h : Int} {ks : List (List Key)} {vals : Vs} {n : Nat} {k : List Key} {d : PyData} (s : SumOk h ks vals n) (o : PrOk h (k, d)) (m : k ∈ ks) : SumOk h ks (pt vals k d) (n + 1) := by
  refine ⟨pt_all s.po o, fun j hj => ?_, ?_⟩
  · rcases pt_mem hj with e | z
    · rw [e]; exact m
    · exact s.ki j z
  · have := pt_len vals k d
    have := s.le
    omega
theorem SumOk.mono {h : Int} {ks : List (List Key)} {vals : Vs} {n m : Nat} (s : SumOk h ks vals n) (l : n ≤ m) : SumOk h ks vals m := ⟨s.po, s.ki, Nat.le_trans s.le l⟩
theorem get_int {H : Hp} {d b : Addr} {h : Int} {vals : Vs} {k : List Key} (hd : DictAt H d vals) (hb : H b = some (.tup (k.map kV))) (po : PrsOk h vals) (ha : amt k = true) : ∃ o m, DGet H d (.ref b) o ∧ o.getD (.int 0) = .int m := by
  obtain ⟨o, og, oe⟩ := hd.get hb
  rcases oe with ⟨rfl, _⟩ | ⟨v, x, rfl, e, t⟩
  · exact ⟨_, 0, og, rfl⟩
  · obtain ⟨i, ei⟩ := (po.get e).am ha
    have ei : x = .int i := ei
    rw [ei] at t
    exact ⟨_, i, og, Td.int_inv t⟩
def spStart : Sp := fun vs H Q _ => ∃ (p lm : Addr) (h : Int) (ks : List (List Key)), vs = [.ref p, .ref lm] ∧ PoolAt H p ∧ p ≠ lm ∧ Menu h ks ∧ LsAt H lm (ks.map kD) ∧
  ∀ v ps H', Bt [p] H H' → PoolAt H' p → Td H' v (.tuple (ps.map wrD)) → PrsOk h ps → (∀ x ∈ ps, x.1 ∈ ks) → ps.length ≤ 100 → Q v H'
abbrev s_law_start : Stmt := top 52
theorem sc_law_start : FnScope ["_law_pool_here", "_law_menu_here", "_law_sums", "_law_key", "_law_amount", "_law_whole"] ["_law_pool_here", "_law_menu_here"] (defScope s_law_start) := ⟨rfl, rfl, rfl, by decide +kernel, rfl, by decide +kernel, by decide +kernel⟩
theorem ok_start {f : Addr} {fd : FuncData} (F : Fun K "_law_start" "_law_start" s_law_start f fd) (T : Blt mg) (C_law_draw : Cal P w K mg base "_law_draw" 1 spDraw) (C_law_large : Cal P w K mg base "_law_large" 2 spLarge) (C_law_first : Cal P w K mg base "_law_first" 1 spFirst) : FnOk P w K mg base CX0 3 f fd ["_law_pool_here", "_law_menu_here"] spStart := by
  refine F.ok sc_law_start (fun vs H Q E h => ?_) (fun cdv A outer s H vs Q E hr h => ?_)
  · obtain ⟨_, _, _, _, rfl, _⟩ := h
    rfl
  · obtain ⟨p, lm, h, ks, rfl, hp, npm, mn, ⟨ms, hm, tm⟩, q⟩ := h
    have hu := hu_of hr
    have ml : ms.length = ks.length := by rw [tm.len, List.length_map]
    have kl := mn.len
    refine ⟨_, ((pss_cons (ps_set (i := 2) sc_law_start.nd rfl (Or.inr rfl) pe_dnewT)
  (pss_cons (ps_for PassesOwn.never rfl (pi_list (pv 1)) (pg_name (i := 3) sc_law_start.nd rfl (Or.inl rfl))
  (pss_cons (ps_set (i := 4) sc_law_start.nd rfl (Or.inl rfl) (pe_ix (ix_listK (K := K) rfl) (pe_lst (pa_cons (pe_cc C_law_draw hr (by decide) (by rfl) (pa_cons (pv 0) (pa_cons pe_int pa_nil))) (pa_cons (pe_cc C_law_large hr (by decide) (by rfl) (pa_cons (pv 0) (pa_cons pe_int pa_nil))) pa_nil))) (pe_callTy call_int1 (by rfl) T.int B_int (pa_cons (pe_cmpR op_eq (pe_cc C_law_draw hr (by decide) (by rfl) (pa_cons (pv 0) (pa_cons pe_int pa_nil))) pe_int (nomark _)) pa_nil)) (fun _ _ => rfl)))
  (pss_cons (ps_if (PW.pt (pw_and (pt_cmpR op_eq (pe_ix (ix_tupK (K := K) rfl) (pv 3) pe_int (fun _ _ => rfl)) pe_str (nomark _)) (pw_and1 (pt_cmpR op_eq (pe_cc C_law_draw hr (by decide) (by rfl) (pa_cons (pv 0) (pa_cons pe_int pa_nil))) pe_int (nomark _))))) (pss_one (ps_set (i := 4) sc_law_start.nd rfl (Or.inl rfl) (pe_op op_sub pe_int (pv 4)))) pss_nil)
  (pss_cons (ps_if (PW.pt (pw_and (pt_cmpR (op_in_seqK (K := K) rfl) (pe_ix (ix_tupK (K := K) rfl) (pv 3) pe_int (fun _ _ => rfl)) (pe_lst (pa_cons pe_str (pa_cons pe_str (pa_cons pe_str pa_nil)))) rfl) (pw_and1 (pt_cmpR op_gt (pe_cc C_law_draw hr (by decide) (by rfl) (pa_cons (pv 0) (pa_cons pe_int pa_nil))) pe_int (nomark _))))) (pss_cons (ps_dput hu (pv 2) (pv 3) (pv 4) rfl)
  (pss_cons (ps_set (i := 5) sc_law_start.nd rfl (Or.inl rfl) (pe_tup (pa_cons pe_int (pa_cons pe_str pa_nil))))
  (pss_cons (ps_if (pt_cmpR op_ne (pe_ix (ix_tupK (K := K) rfl) (pv 3) pe_int (fun _ _ => rfl)) pe_str (nomark _)) (pss_one (ps_set (i := 5) sc_law_start.nd rfl (Or.inl rfl) (pe_tup (pa_cons (pe_ix (ix_tupK (K := K) rfl) (pv 3) pe_int (fun _ _ => rfl)) (pa_cons pe_str (pa_cons (pe_ix (ix_tupK (K := K) rfl) (pv 3) pe_int (fun _ _ => rfl)) pa_nil)))))) pss_nil)
  (pss_one (ps_dput hu (pv 2) (pv 5) (pe_op op_add (pe_dget2 hu (pv 2) (pv 5) pe_int ⟨rfl, rfl, rfl, rfl⟩) (pv 4)) rfl))))) pss_nil)
  (pss_cons (ps_if (PW.pt (pw_and (pt_cmpR (op_in_seqK (K := K) rfl) (pe_ix (ix_tupK (K := K) rfl) (pv 3) pe_int (fun _ _ => rfl)) (pe_lst (pa_cons pe_str (pa_cons pe_str pa_nil))) rfl) (pw_and1 (pt_cmpR op_eq (pe_cc C_law_draw hr (by decide) (by rfl) (pa_cons (pv 0) (pa_cons pe_int pa_nil))) pe_int (nomark _))))) (pss_one (ps_dput hu (pv 2) (pv 3) (pe_op op_mod (pe_callTy call_int1 (by rfl) T.int B_int (pa_cons (pv 4) pa_nil)) pe_int) rfl)) pss_nil)
  (pss_one (ps_if (PW.pt (pw_and (pt_cmpR op_eq (pe_ix (ix_tupK (K := K) rfl) (pv 3) pe_int (fun _ _ => rfl)) pe_str (nomark _)) (pw_and1 (pt_cmpR op_eq (pe_cc C_law_draw hr (by decide) (by rfl) (pa_cons (pv 0) (pa_cons pe_int pa_nil))) pe_int (nomark _))))) (pss_one (ps_dput hu (pv 2) (pv 3) (pe_tup (pa_cons pe_str (pa_cons (pe_op op_mod (pe_callTy call_int1 (by rfl) T.int B_int (pa_cons (pv 4) pa_nil)) pe_int) pa_nil))) rfl)) pss_nil)))))))
  (pss_one (ps_ret (pe_callTy call_tuple_of (by rfl) T.tuple B_tuple (pa_cons (pe_lc (own := [("_law_key", 3)]) (g := gName 3)  rfl sc_law_start.nd (pi_list (pe_callB (cr_sortedDT rfl) (by rfl) T.sorted B_sorted (pa_cons (pv 2) pa_nil))) (blkOk_by (own := [("_law_key", 3)]) (N := ["_law_pool_here", "_law_menu_here", "_law_sums", "_law_key", "_law_amount", "_law_whole"]) (sc := defScope s_law_start) (by decide +kernel)) (fun _ _ _ _ _ => (pg_name (i := 3) sc_law_start.nd rfl (Or.inl rfl))) (fun _ _ _ _ _ => pts_one (pt_cmpR (op_neDK (K := K) rfl hr.units) (pe_dget hu (pv 2) (pv 3) (fun _ _ => rfl)) (pe_cc C_law_first hr (by decide) (by rfl) (pa_cons (pv 3) pa_nil)) (nomark _))) (fun _ _ _ _ _ => (pe_tup (pa_cons (pv 3) (pa_cons (pe_dget hu (pv 2) (pv 3) (fun _ _ => rfl)) pa_nil))))) pa_nil))))))), ?_⟩
    intro dd nd
    generalize e1 : upd _ dd _ = H1
    obtain ⟨S1, h1⟩ := new_of e1 nd
    clear e1
    have npd : p ≠ dd := hp.nen nd
    have nmd : lm ≠ dd := ne_of_none hm nd
    refine ⟨_, rfl, lm, rfl, ⟨ms, .inl (.inl (S1.at hm))⟩, ?_⟩
    refine for_list (K := K) (a := lm) (xs := ms) (fun i σ H2 => ∃ (u3 u4 u5 : Option V) (vals : Vs), σ = [some (.ref p), some (.ref lm), some (.ref dd), u3, u4, u5] ∧ Bt [p, dd] H H2 ∧ PoolAt H2 p ∧ DictAt H2 dd vals ∧ SumOk h ks vals (2 * i))
      ⟨none, none, none, [], rfl, S1.nil, hp.bt S1 (fun z => nomatch z), ⟨[], h1, .nil⟩, ⟨(fun _ m => nomatch m), (fun _ m => nomatch m), Nat.le_refl _⟩⟩ (fun i σ H2 _ hp => ?_) ?_ ?_
    · obtain ⟨_, _, _, _, _, b2, _⟩ := hp
      exact .inl (.inl (b2.keep _ _ (by simp [npm.symm, nmd]) hm))
    · rintro i x σ H2 hx ⟨u3, u4, u5, vals, rfl, b2, hp2, hd2, so⟩
      have hil : i < ms.length := (List.getElem?_eq_some_iff.mp hx).1
      obtain ⟨kd, ekd, tk⟩ := tm.get' hx
      rw [List.getElem?_map] at ekd
      cases ek : ks[i]? with
      | none => rw [ek] at ekd; cases ekd
      | some k =>
      rw [ek] at ekd
      cases ekd
      obtain ⟨kb, rfl, hkb0, _⟩ := key_td tk
      have kmem := List.mem_of_getElem? ek
      have hko := mn.ok k kmem
      refine ⟨_, rfl, p, 12, rfl, hp2, by decide, fun d1 H3 d10 d11 b3 hp3 => ?_⟩
      refine ⟨_, rfl, p, 1000000, rfl, hp3, by decide, fun d2 H4 d20 b4 hp4 => ?_⟩
      refine ⟨by show 2 ≤ sizeLine; decide, fun l5 n5 => ?_⟩
      generalize e5 : upd _ l5 _ = H5
      obtain ⟨S5, h5⟩ := new_of e5 n5
      clear e5
      have hp5 := hp4.bt S5 (fun z => nomatch z)
      refine ⟨_, rfl, p, 5, rfl, hp5, by decide, fun d3 H6 d30 d31 b6 hp6 => ?_⟩
      refine ⟨rfl, ?_⟩
      refine .inr ⟨_, rfl, ?_⟩
      refine ⟨l5, _, _, _, rfl, rfl, .inl (.inl (b6.at1 (hp4.nen n5).symm h5)), pick2 _, ?_⟩
      obtain ⟨am, eam⟩ : ∃ am : Int, (if decide (V.int d3 = V.int 0) = true then V.int d2 else V.int d1) = .int am := by
        split
        · exact ⟨_, rfl⟩
        · exact ⟨_, rfl⟩
      rw [eam]
      have b26 : Bt [p] H2 H6 := ((b3.trans b4).trans S5.nil).trans b6
      have b06 : Bt [p, dd] H H6 := b2.trans (b26.mono fun _ z => by simp at z; simp [z])
      have hd6 := hd2.bt b26 (no1 npd.symm)
      have so6 : SumOk h ks vals (2 * i) := so
      have bs : i < 20 := by omega
      clear b3 b4 S5 b6 hp2 hp3 hp4 hp5 h5 hd2 b2 b26
      obtain ⟨n, r, hkn⟩ := hko
      have hko : KeyOk h k := ⟨n, r, hkn⟩
      have hamt := hkn.amt
      obtain ⟨rfl, hat, hfit⟩ := hkn
      have hq : ∀ {H'}, Bt [p, dd] H H' → SqT K H' kb ((Sum.inl h :: Sum.inr n.s :: r : List Key).map kV) := fun b => .inl (.inl (b.tup _ _ hkb0))
      cases n with
      | price =>
        refine ⟨_, rfl, kb, _, _, _, rfl, rfl, hq b06, atI_nat (j := 1) rfl, ?_⟩
        refine ⟨rfl, _, rfl, iteDF (by decide +kernel) ?_⟩
        refine ⟨_, rfl, kb, _, _, _, rfl, rfl, hq b06, atI_nat (j := 1) rfl, ?_⟩
        refine ⟨by show 3 ≤ sizeLine; decide, fun l11 n11 => ?_⟩
        generalize e11 : upd _ l11 _ = G11
        obtain ⟨S11, g11⟩ := new_of e11 n11
        clear e11
        have hin11 : inV (V.str Nm.price.s) [.str ("free" : Str), .str ("out" : Str), .str ("purse" : Str)] = false := by decide +kernel
        refine ⟨l11, _, rfl, .inl (.inl (.inl g11)), rfl, rfl, _, rfl, ite1 (fun e => nomatch (hin11.symm.trans e)) (fun _ => ?_)⟩
        refine ⟨_, rfl, kb, _, _, _, rfl, rfl, hq (b06.trans S11.nil), atI_nat (j := 1) rfl, ?_⟩
        refine ⟨by show 2 ≤ sizeLine; decide, fun l12 n12 => ?_⟩
        generalize e12 : upd _ l12 _ = G12
        obtain ⟨S12, g12⟩ := new_of e12 n12
        clear e12
        have hin12 : inV (V.str Nm.price.s) [.str ("price" : Str), .str ("rate" : Str)] = true := by decide +kernel
        refine ⟨l12, _, rfl, .inl (.inl (.inl g12)), rfl, rfl, _, rfl, ite1 (fun _ => ?_) (fun e => nomatch (hin12.symm.trans e))⟩
        refine ⟨_, rfl, p, 2, rfl, ((hp6.bt S11 (fun z => nomatch z)).bt S12 (fun z => nomatch z)), by decide, fun x13 G13 y13 z13 B13 hp13 => ?_⟩
        have C13 : Bt [p, dd] H G13 := ((b06.trans S11.nil).trans S12.nil).trans (B13.mono fun _ z => by simp at z; simp [z])
        have D13 := ((hd6.bt S11 (fun z => nomatch z)).bt S12 (fun z => nomatch z)).bt B13 (no1 npd.symm)
        refine ⟨rfl, _, rfl, iteD2 (fun zz => ?_) (fun zz => ?_)⟩
        · refine ⟨_, rfl, .inl ⟨_, rfl, ?_⟩⟩
          refine ⟨_, _, rfl, rfl, (by show (0 : Int) < 1000; decide), ?_⟩
          refine ⟨_, rfl, _, rfl, ?_⟩
          obtain ⟨G14, put14, B14, D14⟩ := D13.put (C13.tup _ _ hkb0) (.int _) (by have := so6.le; omega)
          have C14 : Bt [p, dd] H G14 := C13.trans (B14.mono fun _ z => by simp at z; simp [z])
          have hp14 := hp13.bt B14 (no1 npd)
          have so14 := so6.put (k := (Sum.inl h :: Sum.inr Nm.price.s :: r)) (d := .int (am % 1000)) ⟨hko, (fun _ => ⟨_, rfl⟩), dep0i _⟩ kmem
          refine ⟨dd, G14, rfl, put14, ?_⟩
          refine ⟨_, rfl, kb, _, _, _, rfl, rfl, hq C14, atI_nat (j := 1) rfl, ?_⟩
          refine ⟨rfl, _, rfl, iteDF (by decide +kernel) ?_⟩
          exact ⟨_, _, _, _, rfl, C14, hp14, D14, so14.mono (by omega)⟩
        · skip
          refine ⟨_, rfl, kb, _, _, _, rfl, rfl, hq C13, atI_nat (j := 1) rfl, ?_⟩
          refine ⟨rfl, _, rfl, iteDF (by decide +kernel) ?_⟩
          exact ⟨_, _, _, _, rfl, C13, hp13, D13, so6.mono (by omega)⟩
      | rate =>
        refine ⟨_, rfl, kb, _, _, _, rfl, rfl, hq b06, atI_nat (j := 1) rfl, ?_⟩
        refine ⟨rfl, _, rfl, iteDF (by decide +kernel) ?_⟩
        refine ⟨_, rfl, kb, _, _, _, rfl, rfl, hq b06, atI_nat (j := 1) rfl, ?_⟩
        refine ⟨by show 3 ≤ sizeLine; decide, fun l15 n15 => ?_⟩
        generalize e15 : upd _ l15 _ = G15
        obtain ⟨S15, g15⟩ := new_of e15 n15
        clear e15
        have hin15 : inV (V.str Nm.rate.s) [.str ("free" : Str), .str ("out" : Str), .str ("purse" : Str)] = false := by decide +kernel
        refine ⟨l15, _, rfl, .inl (.inl (.inl g15)), rfl, rfl, _, rfl, ite1 (fun e => nomatch (hin15.symm.trans e)) (fun _ => ?_)⟩
        refine ⟨_, rfl, kb, _, _, _, rfl, rfl, hq (b06.trans S15.nil), atI_nat (j := 1) rfl, ?_⟩
        refine ⟨by show 2 ≤ sizeLine; decide, fun l16 n16 => ?_⟩
        generalize e16 : upd _ l16 _ = G16
        obtain ⟨S16, g16⟩ := new_of e16 n16
        clear e16
        have hin16 : inV (V.str Nm.rate.s) [.str ("price" : Str), .str ("rate" : Str)] = true := by decide +kernel
        refine ⟨l16, _, rfl, .inl (.inl (.inl g16)), rfl, rfl, _, rfl, ite1 (fun _ => ?_) (fun e => nomatch (hin16.symm.trans e))⟩
        refine ⟨_, rfl, p, 2, rfl, ((hp6.bt S15 (fun z => nomatch z)).bt S16 (fun z => nomatch z)), by decide, fun x17 G17 y17 z17 B17 hp17 => ?_⟩
        have C17 : Bt [p, dd] H G17 := ((b06.trans S15.nil).trans S16.nil).trans (B17.mono fun _ z => by simp at z; simp [z])
        have D17 := ((hd6.bt S15 (fun z => nomatch z)).bt S16 (fun z => nomatch z)).bt B17 (no1 npd.symm)
        refine ⟨rfl, _, rfl, iteD2 (fun zz => ?_) (fun zz => ?_)⟩
        · refine ⟨_, rfl, .inl ⟨_, rfl, ?_⟩⟩
          refine ⟨_, _, rfl, rfl, (by show (0 : Int) < 1000; decide), ?_⟩
          refine ⟨_, rfl, _, rfl, ?_⟩
          obtain ⟨G18, put18, B18, D18⟩ := D17.put (C17.tup _ _ hkb0) (.int _) (by have := so6.le; omega)
          have C18 : Bt [p, dd] H G18 := C17.trans (B18.mono fun _ z => by simp at z; simp [z])
          have hp18 := hp17.bt B18 (no1 npd)
          have so18 := so6.put (k := (Sum.inl h :: Sum.inr Nm.rate.s :: r)) (d := .int (am % 1000)) ⟨hko, (fun _ => ⟨_, rfl⟩), dep0i _⟩ kmem
          refine ⟨dd, G18, rfl, put18, ?_⟩
          refine ⟨_, rfl, kb, _, _, _, rfl, rfl, hq C18, atI_nat (j := 1) rfl, ?_⟩
          refine ⟨rfl, _, rfl, iteDF (by decide +kernel) ?_⟩
          exact ⟨_, _, _, _, rfl, C18, hp18, D18, so18.mono (by omega)⟩
        · skip
          refine ⟨_, rfl, kb, _, _, _, rfl, rfl, hq C17, atI_nat (j := 1) rfl, ?_⟩
          refine ⟨rfl, _, rfl, iteDF (by decide +kernel) ?_⟩
          exact ⟨_, _, _, _, rfl, C17, hp17, D17, so6.mono (by omega)⟩
      | coupon =>
        refine ⟨_, rfl, kb, _, _, _, rfl, rfl, hq b06, atI_nat (j := 1) rfl, ?_⟩
        refine ⟨rfl, _, rfl, iteDF (by decide +kernel) ?_⟩
        refine ⟨_, rfl, kb, _, _, _, rfl, rfl, hq b06, atI_nat (j := 1) rfl, ?_⟩
        refine ⟨by show 3 ≤ sizeLine; decide, fun l19 n19 => ?_⟩
        generalize e19 : upd _ l19 _ = G19
        obtain ⟨S19, g19⟩ := new_of e19 n19
        clear e19
        have hin19 : inV (V.str Nm.coupon.s) [.str ("free" : Str), .str ("out" : Str), .str ("purse" : Str)] = false := by decide +kernel
        refine ⟨l19, _, rfl, .inl (.inl (.inl g19)), rfl, rfl, _, rfl, ite1 (fun e => nomatch (hin19.symm.trans e)) (fun _ => ?_)⟩
        refine ⟨_, rfl, kb, _, _, _, rfl, rfl, hq (b06.trans S19.nil), atI_nat (j := 1) rfl, ?_⟩
        refine ⟨by show 2 ≤ sizeLine; decide, fun l20 n20 => ?_⟩
        generalize e20 : upd _ l20 _ = G20
        obtain ⟨S20, g20⟩ := new_of e20 n20
        clear e20
        have hin20 : inV (V.str Nm.coupon.s) [.str ("price" : Str), .str ("rate" : Str)] = false := by decide +kernel
        refine ⟨l20, _, rfl, .inl (.inl (.inl g20)), rfl, rfl, _, rfl, ite1 (fun e => nomatch (hin20.symm.trans e)) (fun _ => ?_)⟩
        refine ⟨_, rfl, kb, _, _, _, rfl, rfl, hq ((b06.trans S19.nil).trans S20.nil), atI_nat (j := 1) rfl, ?_⟩
        refine ⟨rfl, _, rfl, iteDT rfl ?_⟩
        refine ⟨_, rfl, p, 2, rfl, ((hp6.bt S19 (fun z => nomatch z)).bt S20 (fun z => nomatch z)), by decide, fun x21 G21 y21 z21 B21 hp21 => ?_⟩
        have C21 : Bt [p, dd] H G21 := ((b06.trans S19.nil).trans S20.nil).trans (B21.mono fun _ z => by simp at z; simp [z])
        have D21 := ((hd6.bt S19 (fun z => nomatch z)).bt S20 (fun z => nomatch z)).bt B21 (no1 npd.symm)
        refine ⟨rfl, _, rfl, iteD2 (fun zz => ?_) (fun zz => ?_)⟩
        · refine ⟨_, rfl, .inl ⟨_, rfl, ?_⟩⟩
          refine ⟨_, _, rfl, rfl, (by show (0 : Int) < 100000; decide), ?_⟩
          refine ⟨by show 2 ≤ sizeLine; decide, fun l22 n22 => ?_⟩
          generalize e22 : upd _ l22 _ = G22
          obtain ⟨S22, g22⟩ := new_of e22 n22
          clear e22
          refine ⟨_, rfl, _, rfl, ?_⟩
          obtain ⟨G23, put23, B23, D23⟩ := (D21.bt S22 (fun z => nomatch z)).put ((C21.trans S22.nil).tup _ _ hkb0) (.tup g22 (.cons (.str _ (by decide +kernel)) (.cons (.int _) .nil))) (by have := so6.le; omega)
          have C23 : Bt [p, dd] H G23 := (C21.trans S22.nil).trans (B23.mono fun _ z => by simp at z; simp [z])
          have hp23 := (hp21.bt S22 (fun z => nomatch z)).bt B23 (no1 npd)
          have so23 := so6.put (k := (Sum.inl h :: Sum.inr Nm.coupon.s :: r)) (d := .tuple [.str ("unused" : Str), .int (am % 100000)]) ⟨hko, (fun z => by rw [show amt _ = _ from hamt] at z; cases z), by simp [PyData.depth, PyData.depthAll]⟩ kmem
          refine ⟨dd, G23, rfl, put23, ?_⟩
          exact ⟨_, _, _, _, rfl, C23, hp23, D23, so23.mono (by omega)⟩
        · skip
          exact ⟨_, _, _, _, rfl, C21, hp21, D21, so6.mono (by omega)⟩
      | order =>
        refine ⟨_, rfl, kb, _, _, _, rfl, rfl, hq b06, atI_nat (j := 1) rfl, ?_⟩
        refine ⟨rfl, _, rfl, iteDF (by decide +kernel) ?_⟩
        refine ⟨_, rfl, kb, _, _, _, rfl, rfl, hq b06, atI_nat (j := 1) rfl, ?_⟩
        refine ⟨by show 3 ≤ sizeLine; decide, fun l24 n24 => ?_⟩
        generalize e24 : upd _ l24 _ = G24
        obtain ⟨S24, g24⟩ := new_of e24 n24
        clear e24
        have hin24 : inV (V.str Nm.order.s) [.str ("free" : Str), .str ("out" : Str), .str ("purse" : Str)] = false := by decide +kernel
        refine ⟨l24, _, rfl, .inl (.inl (.inl g24)), rfl, rfl, _, rfl, ite1 (fun e => nomatch (hin24.symm.trans e)) (fun _ => ?_)⟩
        refine ⟨_, rfl, kb, _, _, _, rfl, rfl, hq (b06.trans S24.nil), atI_nat (j := 1) rfl, ?_⟩
        refine ⟨by show 2 ≤ sizeLine; decide, fun l25 n25 => ?_⟩
        generalize e25 : upd _ l25 _ = G25
        obtain ⟨S25, g25⟩ := new_of e25 n25
        clear e25
        have hin25 : inV (V.str Nm.order.s) [.str ("price" : Str), .str ("rate" : Str)] = false := by decide +kernel
        refine ⟨l25, _, rfl, .inl (.inl (.inl g25)), rfl, rfl, _, rfl, ite1 (fun e => nomatch (hin25.symm.trans e)) (fun _ => ?_)⟩
        refine ⟨_, rfl, kb, _, _, _, rfl, rfl, hq ((b06.trans S24.nil).trans S25.nil), atI_nat (j := 1) rfl, ?_⟩
        refine ⟨rfl, _, rfl, iteDF (by decide +kernel) ?_⟩
        exact ⟨_, _, _, _, rfl, ((b06.trans S24.nil).trans S25.nil), ((hp6.bt S24 (fun z => nomatch z)).bt S25 (fun z => nomatch z)), ((hd6.bt S24 (fun z => nomatch z)).bt S25 (fun z => nomatch z)), so6.mono (by omega)⟩
      | road =>
        refine ⟨_, rfl, kb, _, _, _, rfl, rfl, hq b06, atI_nat (j := 1) rfl, ?_⟩
        refine ⟨rfl, _, rfl, iteDF (by decide +kernel) ?_⟩
        refine ⟨_, rfl, kb, _, _, _, rfl, rfl, hq b06, atI_nat (j := 1) rfl, ?_⟩
        refine ⟨by show 3 ≤ sizeLine; decide, fun l26 n26 => ?_⟩
        generalize e26 : upd _ l26 _ = G26
        obtain ⟨S26, g26⟩ := new_of e26 n26
        clear e26
        have hin26 : inV (V.str Nm.road.s) [.str ("free" : Str), .str ("out" : Str), .str ("purse" : Str)] = false := by decide +kernel
        refine ⟨l26, _, rfl, .inl (.inl (.inl g26)), rfl, rfl, _, rfl, ite1 (fun e => nomatch (hin26.symm.trans e)) (fun _ => ?_)⟩
        refine ⟨_, rfl, kb, _, _, _, rfl, rfl, hq (b06.trans S26.nil), atI_nat (j := 1) rfl, ?_⟩
        refine ⟨by show 2 ≤ sizeLine; decide, fun l27 n27 => ?_⟩
        generalize e27 : upd _ l27 _ = G27
        obtain ⟨S27, g27⟩ := new_of e27 n27
        clear e27
        have hin27 : inV (V.str Nm.road.s) [.str ("price" : Str), .str ("rate" : Str)] = false := by decide +kernel
        refine ⟨l27, _, rfl, .inl (.inl (.inl g27)), rfl, rfl, _, rfl, ite1 (fun e => nomatch (hin27.symm.trans e)) (fun _ => ?_)⟩
        refine ⟨_, rfl, kb, _, _, _, rfl, rfl, hq ((b06.trans S26.nil).trans S27.nil), atI_nat (j := 1) rfl, ?_⟩
        refine ⟨rfl, _, rfl, iteDF (by decide +kernel) ?_⟩
        exact ⟨_, _, _, _, rfl, ((b06.trans S26.nil).trans S27.nil), ((hp6.bt S26 (fun z => nomatch z)).bt S27 (fun z => nomatch z)), ((hd6.bt S26 (fun z => nomatch z)).bt S27 (fun z => nomatch z)), so6.mono (by omega)⟩
      | away =>
        refine ⟨_, rfl, kb, _, _, _, rfl, rfl, hq b06, atI_nat (j := 1) rfl, ?_⟩
        refine ⟨rfl, _, rfl, iteDF (by decide +kernel) ?_⟩
        refine ⟨_, rfl, kb, _, _, _, rfl, rfl, hq b06, atI_nat (j := 1) rfl, ?_⟩
        refine ⟨by show 3 ≤ sizeLine; decide, fun l28 n28 => ?_⟩
        generalize e28 : upd _ l28 _ = G28
        obtain ⟨S28, g28⟩ := new_of e28 n28
        clear e28
        have hin28 : inV (V.str Nm.away.s) [.str ("free" : Str), .str ("out" : Str), .str ("purse" : Str)] = false := by decide +kernel
        refine ⟨l28, _, rfl, .inl (.inl (.inl g28)), rfl, rfl, _, rfl, ite1 (fun e => nomatch (hin28.symm.trans e)) (fun _ => ?_)⟩
        refine ⟨_, rfl, kb, _, _, _, rfl, rfl, hq (b06.trans S28.nil), atI_nat (j := 1) rfl, ?_⟩
        refine ⟨by show 2 ≤ sizeLine; decide, fun l29 n29 => ?_⟩
        generalize e29 : upd _ l29 _ = G29
        obtain ⟨S29, g29⟩ := new_of e29 n29
        clear e29
        have hin29 : inV (V.str Nm.away.s) [.str ("price" : Str), .str ("rate" : Str)] = false := by decide +kernel
        refine ⟨l29, _, rfl, .inl (.inl (.inl g29)), rfl, rfl, _, rfl, ite1 (fun e => nomatch (hin29.symm.trans e)) (fun _ => ?_)⟩
        refine ⟨_, rfl, kb, _, _, _, rfl, rfl, hq ((b06.trans S28.nil).trans S29.nil), atI_nat (j := 1) rfl, ?_⟩
        refine ⟨rfl, _, rfl, iteDF (by decide +kernel) ?_⟩
        exact ⟨_, _, _, _, rfl, ((b06.trans S28.nil).trans S29.nil), ((hp6.bt S28 (fun z => nomatch z)).bt S29 (fun z => nomatch z)), ((hd6.bt S28 (fun z => nomatch z)).bt S29 (fun z => nomatch z)), so6.mono (by omega)⟩
      | came =>
        refine ⟨_, rfl, kb, _, _, _, rfl, rfl, hq b06, atI_nat (j := 1) rfl, ?_⟩
        refine ⟨rfl, _, rfl, iteDF (by decide +kernel) ?_⟩
        refine ⟨_, rfl, kb, _, _, _, rfl, rfl, hq b06, atI_nat (j := 1) rfl, ?_⟩
        refine ⟨by show 3 ≤ sizeLine; decide, fun l30 n30 => ?_⟩
        generalize e30 : upd _ l30 _ = G30
        obtain ⟨S30, g30⟩ := new_of e30 n30
        clear e30
        have hin30 : inV (V.str Nm.came.s) [.str ("free" : Str), .str ("out" : Str), .str ("purse" : Str)] = false := by decide +kernel
        refine ⟨l30, _, rfl, .inl (.inl (.inl g30)), rfl, rfl, _, rfl, ite1 (fun e => nomatch (hin30.symm.trans e)) (fun _ => ?_)⟩
        refine ⟨_, rfl, kb, _, _, _, rfl, rfl, hq (b06.trans S30.nil), atI_nat (j := 1) rfl, ?_⟩
        refine ⟨by show 2 ≤ sizeLine; decide, fun l31 n31 => ?_⟩
        generalize e31 : upd _ l31 _ = G31
        obtain ⟨S31, g31⟩ := new_of e31 n31
        clear e31
        have hin31 : inV (V.str Nm.came.s) [.str ("price" : Str), .str ("rate" : Str)] = false := by decide +kernel
        refine ⟨l31, _, rfl, .inl (.inl (.inl g31)), rfl, rfl, _, rfl, ite1 (fun e => nomatch (hin31.symm.trans e)) (fun _ => ?_)⟩
        refine ⟨_, rfl, kb, _, _, _, rfl, rfl, hq ((b06.trans S30.nil).trans S31.nil), atI_nat (j := 1) rfl, ?_⟩
        refine ⟨rfl, _, rfl, iteDF (by decide +kernel) ?_⟩
        exact ⟨_, _, _, _, rfl, ((b06.trans S30.nil).trans S31.nil), ((hp6.bt S30 (fun z => nomatch z)).bt S31 (fun z => nomatch z)), ((hd6.bt S30 (fun z => nomatch z)).bt S31 (fun z => nomatch z)), so6.mono (by omega)⟩
      | free =>
        refine ⟨_, rfl, kb, _, _, _, rfl, rfl, hq b06, atI_nat (j := 1) rfl, ?_⟩
        refine ⟨rfl, _, rfl, iteDF (by decide +kernel) ?_⟩
        refine ⟨_, rfl, kb, _, _, _, rfl, rfl, hq b06, atI_nat (j := 1) rfl, ?_⟩
        refine ⟨by show 3 ≤ sizeLine; decide, fun l32 n32 => ?_⟩
        generalize e32 : upd _ l32 _ = G32
        obtain ⟨S32, g32⟩ := new_of e32 n32
        clear e32
        have hin32 : inV (V.str Nm.free.s) [.str ("free" : Str), .str ("out" : Str), .str ("purse" : Str)] = true := by decide +kernel
        refine ⟨l32, _, rfl, .inl (.inl (.inl g32)), rfl, rfl, _, rfl, ite1 (fun _ => ?_) (fun e => nomatch (hin32.symm.trans e))⟩
        refine ⟨_, rfl, p, 4, rfl, (hp6.bt S32 (fun z => nomatch z)), by decide, fun x33 G33 y33 z33 B33 hp33 => ?_⟩
        have C33 : Bt [p, dd] H G33 := (b06.trans S32.nil).trans (B33.mono fun _ z => by simp at z; simp [z])
        have D33 := (hd6.bt S32 (fun z => nomatch z)).bt B33 (no1 npd.symm)
        refine ⟨_, _, rfl, rfl, _, rfl, iteD2 (fun zz => ?_) (fun zz => ?_)⟩
        · refine ⟨_, rfl, _, rfl, _, rfl, ?_⟩
          obtain ⟨G34, put34, B34, D34⟩ := D33.put (C33.tup _ _ hkb0) (.int _) (by have := so6.le; omega)
          have C34 : Bt [p, dd] H G34 := C33.trans (B34.mono fun _ z => by simp at z; simp [z])
          have hp34 := hp33.bt B34 (no1 npd)
          have so34 := so6.put (k := (Sum.inl h :: Sum.inr Nm.free.s :: r)) (d := .int (am)) ⟨hko, (fun _ => ⟨_, rfl⟩), dep0i _⟩ kmem
          refine ⟨dd, G34, rfl, put34, ?_⟩
          refine ⟨by show 2 ≤ sizeLine; decide, fun l35 n35 => ?_⟩
          generalize e35 : upd _ l35 _ = G35
          obtain ⟨S35, g35⟩ := new_of e35 n35
          clear e35
          refine ⟨_, rfl, kb, _, _, _, rfl, rfl, hq (C34.trans S35.nil), atI_nat (j := 1) rfl, ?_⟩
          refine ⟨rfl, _, rfl, iteNN (by decide +kernel) ?_⟩
          obtain ⟨xw, rfl⟩ : ∃ xw : Key, r = [xw] := by
            cases hfit with
            | cons hw hnil =>
              cases hnil
              exact ⟨_, rfl⟩
          refine ⟨_, rfl, kb, _, _, _, rfl, rfl, hq (C34.trans S35.nil), atI_nat (j := 0) rfl, ?_⟩
          refine ⟨_, rfl, kb, _, _, _, rfl, rfl, hq (C34.trans S35.nil), atI_nat (j := 2) rfl, ?_⟩
          refine ⟨by show 3 ≤ sizeLine; decide, fun l36 n36 => ?_⟩
          generalize e36 : upd _ l36 _ = G36
          obtain ⟨S36, g36⟩ := new_of e36 n36
          clear e36
          have wm := mn.came _ (.inl kmem)
          obtain ⟨on, mn2, wn, wrn, wkn⟩ := mn.ok _ wm
          have wko := mn.ok _ wm
          have wam : amt (ky h (.came, [xw])) = true := (show (!inV (V.str Nm.came.s) recV) = true by decide +kernel)
          obtain ⟨o, m, og, eo⟩ := get_int (k := (ky h (.came, [xw]))) ((D34.bt S35 (fun z => nomatch z)).bt S36 (fun z => nomatch z)) g36 so34.po wam
          refine ⟨_, rfl, dd, rfl, (by obtain ⟨kk, z1, _⟩ := ((D34.bt S35 (fun z => nomatch z)).bt S36 (fun z => nomatch z)); exact .inr ⟨kk, .inl z1⟩), ?_⟩
          refine ⟨_, rfl, o, og, ?_⟩
          rw [eo]
          refine ⟨_, rfl, _, _, rfl, rfl, ?_⟩
          refine ⟨_, rfl, _, rfl, ?_⟩
          obtain ⟨G37, put37, B37, D37⟩ := ((D34.bt S35 (fun z => nomatch z)).bt S36 (fun z => nomatch z)).put (k := (ky h (.came, [xw]))) g36 (.int _) (by have := so34.le; omega)
          have C37 : Bt [p, dd] H G37 := ((C34.trans S35.nil).trans S36.nil).trans (B37.mono fun _ z => by simp at z; simp [z])
          have hp37 := ((hp34.bt S35 (fun z => nomatch z)).bt S36 (fun z => nomatch z)).bt B37 (no1 npd)
          have so37 := so34.put (k := (ky h (.came, [xw]))) (d := .int (m + (am))) ⟨wko, (fun _ => ⟨_, rfl⟩), dep0i _⟩ wm
          refine ⟨dd, G37, rfl, put37, ?_⟩
          refine ⟨_, rfl, kb, _, _, _, rfl, rfl, hq C37, atI_nat (j := 1) rfl, ?_⟩
          refine ⟨by show 2 ≤ sizeLine; decide, fun l38 n38 => ?_⟩
          generalize e38 : upd _ l38 _ = G38
          obtain ⟨S38, g38⟩ := new_of e38 n38
          clear e38
          have hin38 : inV (V.str Nm.free.s) [.str ("price" : Str), .str ("rate" : Str)] = false := by decide +kernel
          refine ⟨l38, _, rfl, .inl (.inl (.inl g38)), rfl, rfl, _, rfl, ite1 (fun e => nomatch (hin38.symm.trans e)) (fun _ => ?_)⟩
          refine ⟨_, rfl, kb, _, _, _, rfl, rfl, hq (C37.trans S38.nil), atI_nat (j := 1) rfl, ?_⟩
          refine ⟨rfl, _, rfl, iteDF (by decide +kernel) ?_⟩
          exact ⟨_, _, _, _, rfl, (C37.trans S38.nil), (hp37.bt S38 (fun z => nomatch z)), (D37.bt S38 (fun z => nomatch z)), so37.mono (by omega)⟩
        · skip
          refine ⟨_, rfl, kb, _, _, _, rfl, rfl, hq C33, atI_nat (j := 1) rfl, ?_⟩
          refine ⟨by show 2 ≤ sizeLine; decide, fun l39 n39 => ?_⟩
          generalize e39 : upd _ l39 _ = G39
          obtain ⟨S39, g39⟩ := new_of e39 n39
          clear e39
          have hin39 : inV (V.str Nm.free.s) [.str ("price" : Str), .str ("rate" : Str)] = false := by decide +kernel
          refine ⟨l39, _, rfl, .inl (.inl (.inl g39)), rfl, rfl, _, rfl, ite1 (fun e => nomatch (hin39.symm.trans e)) (fun _ => ?_)⟩
          refine ⟨_, rfl, kb, _, _, _, rfl, rfl, hq (C33.trans S39.nil), atI_nat (j := 1) rfl, ?_⟩
          refine ⟨rfl, _, rfl, iteDF (by decide +kernel) ?_⟩
          exact ⟨_, _, _, _, rfl, (C33.trans S39.nil), (hp33.bt S39 (fun z => nomatch z)), (D33.bt S39 (fun z => nomatch z)), so6.mono (by omega)⟩
      | held =>
        refine ⟨_, rfl, kb, _, _, _, rfl, rfl, hq b06, atI_nat (j := 1) rfl, ?_⟩
        refine ⟨rfl, _, rfl, iteDF (by decide +kernel) ?_⟩
        refine ⟨_, rfl, kb, _, _, _, rfl, rfl, hq b06, atI_nat (j := 1) rfl, ?_⟩
        refine ⟨by show 3 ≤ sizeLine; decide, fun l40 n40 => ?_⟩
        generalize e40 : upd _ l40 _ = G40
        obtain ⟨S40, g40⟩ := new_of e40 n40
        clear e40
        have hin40 : inV (V.str Nm.held.s) [.str ("free" : Str), .str ("out" : Str), .str ("purse" : Str)] = false := by decide +kernel
        refine ⟨l40, _, rfl, .inl (.inl (.inl g40)), rfl, rfl, _, rfl, ite1 (fun e => nomatch (hin40.symm.trans e)) (fun _ => ?_)⟩
        refine ⟨_, rfl, kb, _, _, _, rfl, rfl, hq (b06.trans S40.nil), atI_nat (j := 1) rfl, ?_⟩
        refine ⟨by show 2 ≤ sizeLine; decide, fun l41 n41 => ?_⟩
        generalize e41 : upd _ l41 _ = G41
        obtain ⟨S41, g41⟩ := new_of e41 n41
        clear e41
        have hin41 : inV (V.str Nm.held.s) [.str ("price" : Str), .str ("rate" : Str)] = false := by decide +kernel
        refine ⟨l41, _, rfl, .inl (.inl (.inl g41)), rfl, rfl, _, rfl, ite1 (fun e => nomatch (hin41.symm.trans e)) (fun _ => ?_)⟩
        refine ⟨_, rfl, kb, _, _, _, rfl, rfl, hq ((b06.trans S40.nil).trans S41.nil), atI_nat (j := 1) rfl, ?_⟩
        refine ⟨rfl, _, rfl, iteDF (by decide +kernel) ?_⟩
        exact ⟨_, _, _, _, rfl, ((b06.trans S40.nil).trans S41.nil), ((hp6.bt S40 (fun z => nomatch z)).bt S41 (fun z => nomatch z)), ((hd6.bt S40 (fun z => nomatch z)).bt S41 (fun z => nomatch z)), so6.mono (by omega)⟩
      | out =>
        refine ⟨_, rfl, kb, _, _, _, rfl, rfl, hq b06, atI_nat (j := 1) rfl, ?_⟩
        refine ⟨rfl, _, rfl, iteDT rfl ?_⟩
        refine ⟨_, rfl, p, 2, rfl, hp6, by decide, fun x42 G42 y42 z42 B42 hp42 => ?_⟩
        have C42 : Bt [p, dd] H G42 := b06.trans (B42.mono fun _ z => by simp at z; simp [z])
        have D42 := hd6.bt B42 (no1 npd.symm)
        refine ⟨rfl, _, rfl, iteD2 (fun z0 => ?_) (fun z0 => ?_)⟩
        · refine ⟨_, rfl, _, _, rfl, rfl, ?_⟩
          refine ⟨_, rfl, kb, _, _, _, rfl, rfl, hq C42, atI_nat (j := 1) rfl, ?_⟩
          refine ⟨by show 3 ≤ sizeLine; decide, fun l43 n43 => ?_⟩
          generalize e43 : upd _ l43 _ = G43
          obtain ⟨S43, g43⟩ := new_of e43 n43
          clear e43
          have hin43 : inV (V.str Nm.out.s) [.str ("free" : Str), .str ("out" : Str), .str ("purse" : Str)] = true := by decide +kernel
          refine ⟨l43, _, rfl, .inl (.inl (.inl g43)), rfl, rfl, _, rfl, ite1 (fun _ => ?_) (fun e => nomatch (hin43.symm.trans e))⟩
          refine ⟨_, rfl, p, 4, rfl, (hp42.bt S43 (fun z => nomatch z)), by decide, fun x44 G44 y44 z44 B44 hp44 => ?_⟩
          have C44 : Bt [p, dd] H G44 := (C42.trans S43.nil).trans (B44.mono fun _ z => by simp at z; simp [z])
          have D44 := (D42.bt S43 (fun z => nomatch z)).bt B44 (no1 npd.symm)
          refine ⟨_, _, rfl, rfl, _, rfl, iteD2 (fun zz => ?_) (fun zz => ?_)⟩
          · refine ⟨_, rfl, _, rfl, _, rfl, ?_⟩
            obtain ⟨G45, put45, B45, D45⟩ := D44.put (C44.tup _ _ hkb0) (.int _) (by have := so6.le; omega)
            have C45 : Bt [p, dd] H G45 := C44.trans (B45.mono fun _ z => by simp at z; simp [z])
            have hp45 := hp44.bt B45 (no1 npd)
            have so45 := so6.put (k := (Sum.inl h :: Sum.inr Nm.out.s :: r)) (d := .int (0 - am)) ⟨hko, (fun _ => ⟨_, rfl⟩), dep0i _⟩ kmem
            refine ⟨dd, G45, rfl, put45, ?_⟩
            refine ⟨by show 2 ≤ sizeLine; decide, fun l46 n46 => ?_⟩
            generalize e46 : upd _ l46 _ = G46
            obtain ⟨S46, g46⟩ := new_of e46 n46
            clear e46
            refine ⟨_, rfl, kb, _, _, _, rfl, rfl, hq (C45.trans S46.nil), atI_nat (j := 1) rfl, ?_⟩
            refine ⟨rfl, _, rfl, iteNN (by decide +kernel) ?_⟩
            obtain ⟨xw, rfl⟩ : ∃ xw : Key, r = [xw] := by
              cases hfit with
              | cons hw hnil =>
                cases hnil
                exact ⟨_, rfl⟩
            refine ⟨_, rfl, kb, _, _, _, rfl, rfl, hq (C45.trans S46.nil), atI_nat (j := 0) rfl, ?_⟩
            refine ⟨_, rfl, kb, _, _, _, rfl, rfl, hq (C45.trans S46.nil), atI_nat (j := 2) rfl, ?_⟩
            refine ⟨by show 3 ≤ sizeLine; decide, fun l47 n47 => ?_⟩
            generalize e47 : upd _ l47 _ = G47
            obtain ⟨S47, g47⟩ := new_of e47 n47
            clear e47
            have wm := mn.came _ (.inr kmem)
            obtain ⟨on, mn2, wn, wrn, wkn⟩ := mn.ok _ wm
            have wko := mn.ok _ wm
            have wam : amt (ky h (.came, [xw])) = true := (show (!inV (V.str Nm.came.s) recV) = true by decide +kernel)
            obtain ⟨o, m, og, eo⟩ := get_int (k := (ky h (.came, [xw]))) ((D45.bt S46 (fun z => nomatch z)).bt S47 (fun z => nomatch z)) g47 so45.po wam
            refine ⟨_, rfl, dd, rfl, (by obtain ⟨kk, z1, _⟩ := ((D45.bt S46 (fun z => nomatch z)).bt S47 (fun z => nomatch z)); exact .inr ⟨kk, .inl z1⟩), ?_⟩
            refine ⟨_, rfl, o, og, ?_⟩
            rw [eo]
            refine ⟨_, rfl, _, _, rfl, rfl, ?_⟩
            refine ⟨_, rfl, _, rfl, ?_⟩
            obtain ⟨G48, put48, B48, D48⟩ := ((D45.bt S46 (fun z => nomatch z)).bt S47 (fun z => nomatch z)).put (k := (ky h (.came, [xw]))) g47 (.int _) (by have := so45.le; omega)
            have C48 : Bt [p, dd] H G48 := ((C45.trans S46.nil).trans S47.nil).trans (B48.mono fun _ z => by simp at z; simp [z])
            have hp48 := ((hp45.bt S46 (fun z => nomatch z)).bt S47 (fun z => nomatch z)).bt B48 (no1 npd)
            have so48 := so45.put (k := (ky h (.came, [xw]))) (d := .int (m + (0 - am))) ⟨wko, (fun _ => ⟨_, rfl⟩), dep0i _⟩ wm
            refine ⟨dd, G48, rfl, put48, ?_⟩
            refine ⟨_, rfl, kb, _, _, _, rfl, rfl, hq C48, atI_nat (j := 1) rfl, ?_⟩
            refine ⟨by show 2 ≤ sizeLine; decide, fun l49 n49 => ?_⟩
            generalize e49 : upd _ l49 _ = G49
            obtain ⟨S49, g49⟩ := new_of e49 n49
            clear e49
            have hin49 : inV (V.str Nm.out.s) [.str ("price" : Str), .str ("rate" : Str)] = false := by decide +kernel
            refine ⟨l49, _, rfl, .inl (.inl (.inl g49)), rfl, rfl, _, rfl, ite1 (fun e => nomatch (hin49.symm.trans e)) (fun _ => ?_)⟩
            refine ⟨_, rfl, kb, _, _, _, rfl, rfl, hq (C48.trans S49.nil), atI_nat (j := 1) rfl, ?_⟩
            refine ⟨rfl, _, rfl, iteDF (by decide +kernel) ?_⟩
            exact ⟨_, _, _, _, rfl, (C48.trans S49.nil), (hp48.bt S49 (fun z => nomatch z)), (D48.bt S49 (fun z => nomatch z)), so48.mono (by omega)⟩
          · skip
            refine ⟨_, rfl, kb, _, _, _, rfl, rfl, hq C44, atI_nat (j := 1) rfl, ?_⟩
            refine ⟨by show 2 ≤ sizeLine; decide, fun l50 n50 => ?_⟩
            generalize e50 : upd _ l50 _ = G50
            obtain ⟨S50, g50⟩ := new_of e50 n50
            clear e50
            have hin50 : inV (V.str Nm.out.s) [.str ("price" : Str), .str ("rate" : Str)] = false := by decide +kernel
            refine ⟨l50, _, rfl, .inl (.inl (.inl g50)), rfl, rfl, _, rfl, ite1 (fun e => nomatch (hin50.symm.trans e)) (fun _ => ?_)⟩
            refine ⟨_, rfl, kb, _, _, _, rfl, rfl, hq (C44.trans S50.nil), atI_nat (j := 1) rfl, ?_⟩
            refine ⟨rfl, _, rfl, iteDF (by decide +kernel) ?_⟩
            exact ⟨_, _, _, _, rfl, (C44.trans S50.nil), (hp44.bt S50 (fun z => nomatch z)), (D44.bt S50 (fun z => nomatch z)), so6.mono (by omega)⟩
        · skip
          refine ⟨_, rfl, kb, _, _, _, rfl, rfl, hq C42, atI_nat (j := 1) rfl, ?_⟩
          refine ⟨by show 3 ≤ sizeLine; decide, fun l51 n51 => ?_⟩
          generalize e51 : upd _ l51 _ = G51
          obtain ⟨S51, g51⟩ := new_of e51 n51
          clear e51
          have hin51 : inV (V.str Nm.out.s) [.str ("free" : Str), .str ("out" : Str), .str ("purse" : Str)] = true := by decide +kernel
          refine ⟨l51, _, rfl, .inl (.inl (.inl g51)), rfl, rfl, _, rfl, ite1 (fun _ => ?_) (fun e => nomatch (hin51.symm.trans e))⟩
          refine ⟨_, rfl, p, 4, rfl, (hp42.bt S51 (fun z => nomatch z)), by decide, fun x52 G52 y52 z52 B52 hp52 => ?_⟩
          have C52 : Bt [p, dd] H G52 := (C42.trans S51.nil).trans (B52.mono fun _ z => by simp at z; simp [z])
          have D52 := (D42.bt S51 (fun z => nomatch z)).bt B52 (no1 npd.symm)
          refine ⟨_, _, rfl, rfl, _, rfl, iteD2 (fun zz => ?_) (fun zz => ?_)⟩
          · refine ⟨_, rfl, _, rfl, _, rfl, ?_⟩
            obtain ⟨G53, put53, B53, D53⟩ := D52.put (C52.tup _ _ hkb0) (.int _) (by have := so6.le; omega)
            have C53 : Bt [p, dd] H G53 := C52.trans (B53.mono fun _ z => by simp at z; simp [z])
            have hp53 := hp52.bt B53 (no1 npd)
            have so53 := so6.put (k := (Sum.inl h :: Sum.inr Nm.out.s :: r)) (d := .int (am)) ⟨hko, (fun _ => ⟨_, rfl⟩), dep0i _⟩ kmem
            refine ⟨dd, G53, rfl, put53, ?_⟩
            refine ⟨by show 2 ≤ sizeLine; decide, fun l54 n54 => ?_⟩
            generalize e54 : upd _ l54 _ = G54
            obtain ⟨S54, g54⟩ := new_of e54 n54
            clear e54
            refine ⟨_, rfl, kb, _, _, _, rfl, rfl, hq (C53.trans S54.nil), atI_nat (j := 1) rfl, ?_⟩
            refine ⟨rfl, _, rfl, iteNN (by decide +kernel) ?_⟩
            obtain ⟨xw, rfl⟩ : ∃ xw : Key, r = [xw] := by
              cases hfit with
              | cons hw hnil =>
                cases hnil
                exact ⟨_, rfl⟩
            refine ⟨_, rfl, kb, _, _, _, rfl, rfl, hq (C53.trans S54.nil), atI_nat (j := 0) rfl, ?_⟩
            refine ⟨_, rfl, kb, _, _, _, rfl, rfl, hq (C53.trans S54.nil), atI_nat (j := 2) rfl, ?_⟩
            refine ⟨by show 3 ≤ sizeLine; decide, fun l55 n55 => ?_⟩
            generalize e55 : upd _ l55 _ = G55
            obtain ⟨S55, g55⟩ := new_of e55 n55
            clear e55
            have wm := mn.came _ (.inr kmem)
            obtain ⟨on, mn2, wn, wrn, wkn⟩ := mn.ok _ wm
            have wko := mn.ok _ wm
            have wam : amt (ky h (.came, [xw])) = true := (show (!inV (V.str Nm.came.s) recV) = true by decide +kernel)
            obtain ⟨o, m, og, eo⟩ := get_int (k := (ky h (.came, [xw]))) ((D53.bt S54 (fun z => nomatch z)).bt S55 (fun z => nomatch z)) g55 so53.po wam
            refine ⟨_, rfl, dd, rfl, (by obtain ⟨kk, z1, _⟩ := ((D53.bt S54 (fun z => nomatch z)).bt S55 (fun z => nomatch z)); exact .inr ⟨kk, .inl z1⟩), ?_⟩
            refine ⟨_, rfl, o, og, ?_⟩
            rw [eo]
            refine ⟨_, rfl, _, _, rfl, rfl, ?_⟩
            refine ⟨_, rfl, _, rfl, ?_⟩
            obtain ⟨G56, put56, B56, D56⟩ := ((D53.bt S54 (fun z => nomatch z)).bt S55 (fun z => nomatch z)).put (k := (ky h (.came, [xw]))) g55 (.int _) (by have := so53.le; omega)
            have C56 : Bt [p, dd] H G56 := ((C53.trans S54.nil).trans S55.nil).trans (B56.mono fun _ z => by simp at z; simp [z])
            have hp56 := ((hp53.bt S54 (fun z => nomatch z)).bt S55 (fun z => nomatch z)).bt B56 (no1 npd)
            have so56 := so53.put (k := (ky h (.came, [xw]))) (d := .int (m + (am))) ⟨wko, (fun _ => ⟨_, rfl⟩), dep0i _⟩ wm
            refine ⟨dd, G56, rfl, put56, ?_⟩
            refine ⟨_, rfl, kb, _, _, _, rfl, rfl, hq C56, atI_nat (j := 1) rfl, ?_⟩
            refine ⟨by show 2 ≤ sizeLine; decide, fun l57 n57 => ?_⟩
            generalize e57 : upd _ l57 _ = G57
            obtain ⟨S57, g57⟩ := new_of e57 n57
            clear e57
            have hin57 : inV (V.str Nm.out.s) [.str ("price" : Str), .str ("rate" : Str)] = false := by decide +kernel
            refine ⟨l57, _, rfl, .inl (.inl (.inl g57)), rfl, rfl, _, rfl, ite1 (fun e => nomatch (hin57.symm.trans e)) (fun _ => ?_)⟩
            refine ⟨_, rfl, kb, _, _, _, rfl, rfl, hq (C56.trans S57.nil), atI_nat (j := 1) rfl, ?_⟩
            refine ⟨rfl, _, rfl, iteDF (by decide +kernel) ?_⟩
            exact ⟨_, _, _, _, rfl, (C56.trans S57.nil), (hp56.bt S57 (fun z => nomatch z)), (D56.bt S57 (fun z => nomatch z)), so56.mono (by omega)⟩
          · skip
            refine ⟨_, rfl, kb, _, _, _, rfl, rfl, hq C52, atI_nat (j := 1) rfl, ?_⟩
            refine ⟨by show 2 ≤ sizeLine; decide, fun l58 n58 => ?_⟩
            generalize e58 : upd _ l58 _ = G58
            obtain ⟨S58, g58⟩ := new_of e58 n58
            clear e58
            have hin58 : inV (V.str Nm.out.s) [.str ("price" : Str), .str ("rate" : Str)] = false := by decide +kernel
            refine ⟨l58, _, rfl, .inl (.inl (.inl g58)), rfl, rfl, _, rfl, ite1 (fun e => nomatch (hin58.symm.trans e)) (fun _ => ?_)⟩
            refine ⟨_, rfl, kb, _, _, _, rfl, rfl, hq (C52.trans S58.nil), atI_nat (j := 1) rfl, ?_⟩
            refine ⟨rfl, _, rfl, iteDF (by decide +kernel) ?_⟩
            exact ⟨_, _, _, _, rfl, (C52.trans S58.nil), (hp52.bt S58 (fun z => nomatch z)), (D52.bt S58 (fun z => nomatch z)), so6.mono (by omega)⟩
      | purse =>
        refine ⟨_, rfl, kb, _, _, _, rfl, rfl, hq b06, atI_nat (j := 1) rfl, ?_⟩
        refine ⟨rfl, _, rfl, iteDF (by decide +kernel) ?_⟩
        refine ⟨_, rfl, kb, _, _, _, rfl, rfl, hq b06, atI_nat (j := 1) rfl, ?_⟩
        refine ⟨by show 3 ≤ sizeLine; decide, fun l59 n59 => ?_⟩
        generalize e59 : upd _ l59 _ = G59
        obtain ⟨S59, g59⟩ := new_of e59 n59
        clear e59
        have hin59 : inV (V.str Nm.purse.s) [.str ("free" : Str), .str ("out" : Str), .str ("purse" : Str)] = true := by decide +kernel
        refine ⟨l59, _, rfl, .inl (.inl (.inl g59)), rfl, rfl, _, rfl, ite1 (fun _ => ?_) (fun e => nomatch (hin59.symm.trans e))⟩
        refine ⟨_, rfl, p, 4, rfl, (hp6.bt S59 (fun z => nomatch z)), by decide, fun x60 G60 y60 z60 B60 hp60 => ?_⟩
        have C60 : Bt [p, dd] H G60 := (b06.trans S59.nil).trans (B60.mono fun _ z => by simp at z; simp [z])
        have D60 := (hd6.bt S59 (fun z => nomatch z)).bt B60 (no1 npd.symm)
        refine ⟨_, _, rfl, rfl, _, rfl, iteD2 (fun zz => ?_) (fun zz => ?_)⟩
        · refine ⟨_, rfl, _, rfl, _, rfl, ?_⟩
          obtain ⟨G61, put61, B61, D61⟩ := D60.put (C60.tup _ _ hkb0) (.int _) (by have := so6.le; omega)
          have C61 : Bt [p, dd] H G61 := C60.trans (B61.mono fun _ z => by simp at z; simp [z])
          have hp61 := hp60.bt B61 (no1 npd)
          have so61 := so6.put (k := (Sum.inl h :: Sum.inr Nm.purse.s :: r)) (d := .int (am)) ⟨hko, (fun _ => ⟨_, rfl⟩), dep0i _⟩ kmem
          refine ⟨dd, G61, rfl, put61, ?_⟩
          refine ⟨by show 2 ≤ sizeLine; decide, fun l62 n62 => ?_⟩
          generalize e62 : upd _ l62 _ = G62
          obtain ⟨S62, g62⟩ := new_of e62 n62
          clear e62
          refine ⟨_, rfl, kb, _, _, _, rfl, rfl, hq (C61.trans S62.nil), atI_nat (j := 1) rfl, ?_⟩
          refine ⟨rfl, _, rfl, iteNS rfl ?_⟩
          obtain ⟨wm, h5⟩ := mn.paid r kmem
          subst h5
          obtain ⟨on, mn2, wn, wrn, wkn⟩ := mn.ok _ wm
          have wko := mn.ok _ wm
          have wam : amt (ky 5 (.paid, [])) = true := (show (!inV (V.str Nm.paid.s) recV) = true by decide +kernel)
          obtain ⟨o, m, og, eo⟩ := get_int (k := (ky 5 (.paid, []))) (D61.bt S62 (fun z => nomatch z)) g62 so61.po wam
          refine ⟨_, rfl, dd, rfl, (by obtain ⟨kk, z1, _⟩ := (D61.bt S62 (fun z => nomatch z)); exact .inr ⟨kk, .inl z1⟩), ?_⟩
          refine ⟨_, rfl, o, og, ?_⟩
          rw [eo]
          refine ⟨_, rfl, _, _, rfl, rfl, ?_⟩
          refine ⟨_, rfl, _, rfl, ?_⟩
          obtain ⟨G63, put63, B63, D63⟩ := (D61.bt S62 (fun z => nomatch z)).put (k := (ky 5 (.paid, []))) g62 (.int _) (by have := so61.le; omega)
          have C63 : Bt [p, dd] H G63 := (C61.trans S62.nil).trans (B63.mono fun _ z => by simp at z; simp [z])
          have hp63 := (hp61.bt S62 (fun z => nomatch z)).bt B63 (no1 npd)
          have so63 := so61.put (k := (ky 5 (.paid, []))) (d := .int (m + (am))) ⟨wko, (fun _ => ⟨_, rfl⟩), dep0i _⟩ wm
          refine ⟨dd, G63, rfl, put63, ?_⟩
          refine ⟨_, rfl, kb, _, _, _, rfl, rfl, hq C63, atI_nat (j := 1) rfl, ?_⟩
          refine ⟨by show 2 ≤ sizeLine; decide, fun l64 n64 => ?_⟩
          generalize e64 : upd _ l64 _ = G64
          obtain ⟨S64, g64⟩ := new_of e64 n64
          clear e64
          have hin64 : inV (V.str Nm.purse.s) [.str ("price" : Str), .str ("rate" : Str)] = false := by decide +kernel
          refine ⟨l64, _, rfl, .inl (.inl (.inl g64)), rfl, rfl, _, rfl, ite1 (fun e => nomatch (hin64.symm.trans e)) (fun _ => ?_)⟩
          refine ⟨_, rfl, kb, _, _, _, rfl, rfl, hq (C63.trans S64.nil), atI_nat (j := 1) rfl, ?_⟩
          refine ⟨rfl, _, rfl, iteDF (by decide +kernel) ?_⟩
          exact ⟨_, _, _, _, rfl, (C63.trans S64.nil), (hp63.bt S64 (fun z => nomatch z)), (D63.bt S64 (fun z => nomatch z)), so63.mono (by omega)⟩
        · skip
          refine ⟨_, rfl, kb, _, _, _, rfl, rfl, hq C60, atI_nat (j := 1) rfl, ?_⟩
          refine ⟨by show 2 ≤ sizeLine; decide, fun l65 n65 => ?_⟩
          generalize e65 : upd _ l65 _ = G65
          obtain ⟨S65, g65⟩ := new_of e65 n65
          clear e65
          have hin65 : inV (V.str Nm.purse.s) [.str ("price" : Str), .str ("rate" : Str)] = false := by decide +kernel
          refine ⟨l65, _, rfl, .inl (.inl (.inl g65)), rfl, rfl, _, rfl, ite1 (fun e => nomatch (hin65.symm.trans e)) (fun _ => ?_)⟩
          refine ⟨_, rfl, kb, _, _, _, rfl, rfl, hq (C60.trans S65.nil), atI_nat (j := 1) rfl, ?_⟩
          refine ⟨rfl, _, rfl, iteDF (by decide +kernel) ?_⟩
          exact ⟨_, _, _, _, rfl, (C60.trans S65.nil), (hp60.bt S65 (fun z => nomatch z)), (D60.bt S65 (fun z => nomatch z)), so6.mono (by omega)⟩
      | kept =>
        refine ⟨_, rfl, kb, _, _, _, rfl, rfl, hq b06, atI_nat (j := 1) rfl, ?_⟩
        refine ⟨rfl, _, rfl, iteDF (by decide +kernel) ?_⟩
        refine ⟨_, rfl, kb, _, _, _, rfl, rfl, hq b06, atI_nat (j := 1) rfl, ?_⟩
        refine ⟨by show 3 ≤ sizeLine; decide, fun l66 n66 => ?_⟩
        generalize e66 : upd _ l66 _ = G66
        obtain ⟨S66, g66⟩ := new_of e66 n66
        clear e66
        have hin66 : inV (V.str Nm.kept.s) [.str ("free" : Str), .str ("out" : Str), .str ("purse" : Str)] = false := by decide +kernel
        refine ⟨l66, _, rfl, .inl (.inl (.inl g66)), rfl, rfl, _, rfl, ite1 (fun e => nomatch (hin66.symm.trans e)) (fun _ => ?_)⟩
        refine ⟨_, rfl, kb, _, _, _, rfl, rfl, hq (b06.trans S66.nil), atI_nat (j := 1) rfl, ?_⟩
        refine ⟨by show 2 ≤ sizeLine; decide, fun l67 n67 => ?_⟩
        generalize e67 : upd _ l67 _ = G67
        obtain ⟨S67, g67⟩ := new_of e67 n67
        clear e67
        have hin67 : inV (V.str Nm.kept.s) [.str ("price" : Str), .str ("rate" : Str)] = false := by decide +kernel
        refine ⟨l67, _, rfl, .inl (.inl (.inl g67)), rfl, rfl, _, rfl, ite1 (fun e => nomatch (hin67.symm.trans e)) (fun _ => ?_)⟩
        refine ⟨_, rfl, kb, _, _, _, rfl, rfl, hq ((b06.trans S66.nil).trans S67.nil), atI_nat (j := 1) rfl, ?_⟩
        refine ⟨rfl, _, rfl, iteDF (by decide +kernel) ?_⟩
        exact ⟨_, _, _, _, rfl, ((b06.trans S66.nil).trans S67.nil), ((hp6.bt S66 (fun z => nomatch z)).bt S67 (fun z => nomatch z)), ((hd6.bt S66 (fun z => nomatch z)).bt S67 (fun z => nomatch z)), so6.mono (by omega)⟩
      | till =>
        refine ⟨_, rfl, kb, _, _, _, rfl, rfl, hq b06, atI_nat (j := 1) rfl, ?_⟩
        refine ⟨rfl, _, rfl, iteDF (by decide +kernel) ?_⟩
        refine ⟨_, rfl, kb, _, _, _, rfl, rfl, hq b06, atI_nat (j := 1) rfl, ?_⟩
        refine ⟨by show 3 ≤ sizeLine; decide, fun l68 n68 => ?_⟩
        generalize e68 : upd _ l68 _ = G68
        obtain ⟨S68, g68⟩ := new_of e68 n68
        clear e68
        have hin68 : inV (V.str Nm.till.s) [.str ("free" : Str), .str ("out" : Str), .str ("purse" : Str)] = false := by decide +kernel
        refine ⟨l68, _, rfl, .inl (.inl (.inl g68)), rfl, rfl, _, rfl, ite1 (fun e => nomatch (hin68.symm.trans e)) (fun _ => ?_)⟩
        refine ⟨_, rfl, kb, _, _, _, rfl, rfl, hq (b06.trans S68.nil), atI_nat (j := 1) rfl, ?_⟩
        refine ⟨by show 2 ≤ sizeLine; decide, fun l69 n69 => ?_⟩
        generalize e69 : upd _ l69 _ = G69
        obtain ⟨S69, g69⟩ := new_of e69 n69
        clear e69
        have hin69 : inV (V.str Nm.till.s) [.str ("price" : Str), .str ("rate" : Str)] = false := by decide +kernel
        refine ⟨l69, _, rfl, .inl (.inl (.inl g69)), rfl, rfl, _, rfl, ite1 (fun e => nomatch (hin69.symm.trans e)) (fun _ => ?_)⟩
        refine ⟨_, rfl, kb, _, _, _, rfl, rfl, hq ((b06.trans S68.nil).trans S69.nil), atI_nat (j := 1) rfl, ?_⟩
        refine ⟨rfl, _, rfl, iteDF (by decide +kernel) ?_⟩
        exact ⟨_, _, _, _, rfl, ((b06.trans S68.nil).trans S69.nil), ((hp6.bt S68 (fun z => nomatch z)).bt S69 (fun z => nomatch z)), ((hd6.bt S68 (fun z => nomatch z)).bt S69 (fun z => nomatch z)), so6.mono (by omega)⟩
      | paid =>
        refine ⟨_, rfl, kb, _, _, _, rfl, rfl, hq b06, atI_nat (j := 1) rfl, ?_⟩
        refine ⟨rfl, _, rfl, iteDF (by decide +kernel) ?_⟩
        refine ⟨_, rfl, kb, _, _, _, rfl, rfl, hq b06, atI_nat (j := 1) rfl, ?_⟩
        refine ⟨by show 3 ≤ sizeLine; decide, fun l70 n70 => ?_⟩
        generalize e70 : upd _ l70 _ = G70
        obtain ⟨S70, g70⟩ := new_of e70 n70
        clear e70
        have hin70 : inV (V.str Nm.paid.s) [.str ("free" : Str), .str ("out" : Str), .str ("purse" : Str)] = false := by decide +kernel
        refine ⟨l70, _, rfl, .inl (.inl (.inl g70)), rfl, rfl, _, rfl, ite1 (fun e => nomatch (hin70.symm.trans e)) (fun _ => ?_)⟩
        refine ⟨_, rfl, kb, _, _, _, rfl, rfl, hq (b06.trans S70.nil), atI_nat (j := 1) rfl, ?_⟩
        refine ⟨by show 2 ≤ sizeLine; decide, fun l71 n71 => ?_⟩
        generalize e71 : upd _ l71 _ = G71
        obtain ⟨S71, g71⟩ := new_of e71 n71
        clear e71
        have hin71 : inV (V.str Nm.paid.s) [.str ("price" : Str), .str ("rate" : Str)] = false := by decide +kernel
        refine ⟨l71, _, rfl, .inl (.inl (.inl g71)), rfl, rfl, _, rfl, ite1 (fun e => nomatch (hin71.symm.trans e)) (fun _ => ?_)⟩
        refine ⟨_, rfl, kb, _, _, _, rfl, rfl, hq ((b06.trans S70.nil).trans S71.nil), atI_nat (j := 1) rfl, ?_⟩
        refine ⟨rfl, _, rfl, iteDF (by decide +kernel) ?_⟩
        exact ⟨_, _, _, _, rfl, ((b06.trans S70.nil).trans S71.nil), ((hp6.bt S70 (fun z => nomatch z)).bt S71 (fun z => nomatch z)), ((hd6.bt S70 (fun z => nomatch z)).bt S71 (fun z => nomatch z)), so6.mono (by omega)⟩
    · rintro σ H2 ⟨u3, u4, u5, vals, rfl, b2, hp2, hd2, so⟩
      obtain ⟨kvs, hk1, hk2⟩ := hd2
      have hko : ∀ x ∈ kvs, KeyOk h x.1 := fun x hx => by
        have : x.1 ∈ vals.map (·.1) := by
          rw [← hk2.keys]
          exact List.mem_map.mpr ⟨x, hx, rfl⟩
        exact mn.ok _ (so.ki _ this)
      refine ⟨_, rfl, dd, kvs, rfl, hk1, fun x hx => (hko x hx).hd, fun x hx y hy => (hko x hx).cmp (hko y hy), fun ys p2 hs hperm hat n2 => ?_⟩
      generalize e3 : upd _ p2 _ = H3
      obtain ⟨S3, h3⟩ := new_of e3 n2
      clear e3
      have hd3 : DictAt H3 dd vals := DictAt.bt S3 (fun z => nomatch z) ⟨kvs, hk1, hk2⟩
      have hyl : ys.length = vals.length := by
        have := hperm.length_eq
        rw [List.length_map, List.length_map, hk2.len] at this
        exact this
      have sle := so.le
      have ykey : ∀ y ∈ ys, kOf H2 y ∈ vals.map (·.1) := fun y m => by
        rw [← hk2.keys]
        exact hperm.mem_iff.mp (List.mem_map.mpr ⟨y, m, rfl⟩)
      refine ⟨p2, rfl, ⟨ys, .inl (.inl h3)⟩, fun D nD => ?_⟩
      refine lcD (walk_list (K := K) (xs := ys)) nD (fun H b => b.sqL (.inl (.inl h3))) (by omega) (fun i => shownOf vals ((ys.map (kOf H2)).take i)) rfl ?_ ?_
      · intro i x H4 hx b4 N1 N2 k1 k2
        have hxm : x ∈ ys := List.mem_of_getElem? hx
        obtain ⟨t, rfl, ht⟩ := hat x hxm
        have hmem := ykey _ hxm
        have hg : (ys.map (kOf H2))[i]? = some (kOf H2 (.ref t)) := by rw [List.getElem?_map, hx]; rfl
        generalize kOf H2 (.ref t) = k at ht hmem hg
        have hok := mn.ok _ (so.ki _ hmem)
        have ht4 := (S3.trans b4).tup _ _ ht
        have hd4 := hd3.bt b4 (fun z => nomatch z)
        obtain ⟨o, g4, ho4⟩ := hd4.get ht4
        rcases ho4 with ⟨rfl, e⟩ | ⟨v, y, rfl, e, ty⟩
        · exact absurd hmem (gt_none.mp e)
        have egv : gv vals k = y := by
          unfold gv
          rw [e]
          rfl
        refine ⟨rfl, ?_⟩
        refine ⟨_, rfl, _, rfl, dd, v, rfl, g4, ?_⟩
        refine ⟨_, rfl, t, h, k, rfl, ht4, hok, fun H5 b5 => ?_⟩
        have ty5 := ty.bt b5
        have tf5 := td_fv H5 k
        refine ⟨y, fv k, ty5.dp, tf5.dp, ty5.shaped (by rw [← egv]; have := gv_dp (k := k) so.po; omega), tf5.shaped (by rw [fv_depth]; omega), _, rfl, ?_⟩
        have est := shown_take (vals := vals) hg
        have esh : shows vals k = !PyData.eqv y (fv k) := by
          unfold shows
          rw [egv]
        refine ite1 (fun ee => ?_) (fun ee => ?_)
        · obtain ⟨o5, g5, ho5⟩ := (hd4.bt b5 (fun z => nomatch z)).get (b5.tup _ _ ht4)
          rcases ho5 with ⟨rfl, e'⟩ | ⟨v5, y5, rfl, e', ty5'⟩
          · rw [e] at e'
            cases e'
          · rw [e] at e'
            cases e'
            refine ⟨_, rfl, _, rfl, _, rfl, dd, v5, rfl, g5, ?_⟩
            refine ⟨(by show 2 ≤ sizeLine; decide), fun p6 n6 => ?_⟩
            generalize e6 : upd _ p6 _ = H6
            obtain ⟨S6, h6⟩ := new_of e6 n6
            clear e6
            refine k1 _ H6 _ (b5.trans S6) (.tup h6 (.cons (td_key (S6.tup _ _ (b5.tup _ _ ht4)) hok.ok) (.cons (ty5'.bt S6) .nil))) ?_
            show shownOf vals _ = _
            rw [est, esh, ee, if_pos rfl, egv]
        · refine k2 H5 b5 ?_
          show shownOf vals _ = _
          rw [est, esh, ee, if_neg Bool.false_ne_true, List.append_nil]
      · intro H4 zs b4 hD tz
        refine ⟨D, zs, rfl, .inl ⟨.inl (.inl hD), fun p5 n5 => ?_⟩⟩
        generalize e5 : upd _ p5 _ = H5
        obtain ⟨S5, h5⟩ := new_of e5 n5
        clear e5
        have b25 := (S3.trans b4).trans S5
        rw [show shownOf vals ((ys.map (kOf H2)).take ys.length) = shownOf vals (ys.map (kOf H2)) from by rw [← List.length_map (f := kOf H2), List.take_length]] at tz
        have b0 : Bt (dd :: [p]) H H2 := b2.mono fun _ z => by simp at z; rcases z with z | z <;> simp [z]
        have epsm : shownOf vals (ys.map (kOf H2)) = (((ys.map (kOf H2)).filter (shows vals)).map fun k => (k, gv vals k)).map wrD := by
          rw [List.map_map]
          rfl
        rw [epsm] at tz
        have hin : ∀ x ∈ ((ys.map (kOf H2)).filter (shows vals)).map fun k => (k, gv vals k), x.1 ∈ ks ∧ x.2 = gv vals x.1 := fun x m => by
          obtain ⟨k, m1, rfl⟩ := List.mem_map.mp m
          obtain ⟨y, m2, rfl⟩ := List.mem_map.mp (List.mem_filter.mp m1).1
          exact ⟨so.ki _ (ykey y m2), rfl⟩
        refine q _ _ H5 ((b0.dropN nd).trans b25.nil) (hp2.bt b25 (fun z => nomatch z)) (.tup h5 (tz.bt S5)) (fun x m => ?_) (fun x m => (hin x m).1) ?_
        · obtain ⟨m1, m2⟩ := hin x m
          refine ⟨mn.ok _ m1, fun ha => ?_, ?_⟩
          · rw [m2]
            exact so.po.gv (mn.ok _ m1) ha
          · rw [m2]
            exact gv_dp so.po
        · rw [List.length_map]
          refine Nat.le_trans (List.length_filter_le _ _) ?_
          rw [List.length_map]
          omega
end
end K33

/-! K25: the law's comparisons -/
namespace K33
open PySem L2
theorem sorted_eq {a b : List (List Key)} (p : a.Perm b) (sa : a.Pairwise (fun x y => ksLt y x = false)) (sb : b.Pairwise (fun x y => ksLt y x = false)) : a = b :=
  List.Perm.eq_of_pairwise (le := fun x y => ksLt y x = false) (fun x y _ _ h1 h2 => ksLt_sto.tri x y h2 h1) sa sb p
theorem shown_eq {h : Int} {vals : Vs} {ks menu : List (List Key)} (mn : Menu h menu) (nd : (vals.map (·.1)).Nodup) (ki : ∀ k ∈ vals.map (·.1), k ∈ menu) (s : ks.Pairwise (fun x y => ksLt y x = false)) (p : ks.Perm (vals.map (·.1))) : shownOf vals ks = shownOf vals menu := by
  unfold shownOf
  congr 1
  refine sorted_eq ?_ (s.filter _) (mn.so.filter _)
  refine (List.perm_ext_iff_of_nodup ((p.symm.nodup nd).filter _) (mn.nd.filter _)).mpr fun k => ?_
  rw [List.mem_filter, List.mem_filter, p.mem_iff]
  constructor
  · rintro ⟨m, e⟩
    exact ⟨ki k m, e⟩
  · rintro ⟨m, e⟩
    refine ⟨?_, e⟩
    cases z : gt vals k with
    | some x => exact gt_isSome.mp (by rw [z]; rfl)
    | none =>
      exfalso
      unfold shows gv at e
      have t0 : Td (fun _ => none) (fvV k) (fv k) := td_fv _ k
      have := t0.eqv t0
      rw [decide_eq_true rfl] at this
      rw [z, show ((none : Option PyData).getD (fv k)) = fv k from rfl, this] at e
      cases e
section
variable {P : Program} {w : World} {K : PySem.W.Frag} {mg : Str → Option Value} {base : Heap}
/-! ### same -/
def spSame (m : Nat) : Sp := fun vs H Q _ => ∃ (v1 v2 : V) (d : PyData), vs = [v1, v2] ∧ Td H v1 d ∧ Td H v2 d ∧ d.depth ≤ m ∧ ∀ H', Bt [] H H' → Q (.bl true) H'
theorem call_lenS {X : Cx} : CallR X (.builtin "len") (fun xs H Q => ∃ p ys, xs = [.ref p] ∧ (SqL X.K H p ys ∨ SqT X.K H p ys) ∧ (ys.length ≤ sizeLine → Q (.int ys.length) H)) := by
  intro pins s σ H xs us Q I r h
  obtain ⟨p, ys, rfl, hq, q⟩ := h
  have hb : ys.length ≤ sizeLine := by
    rcases hq with hq | hq
    · obtain ⟨_, _, _, hz⟩ := I.list hq
      exact hz
    · obtain ⟨_, _, _, hz⟩ := I.tuple hq
      exact hz
  exact call_len_seq pins s σ H [.ref p] us Q I r ⟨p, ys, rfl, hq, q hb⟩
theorem ki_none_bool {K : PySem.W.Frag} : PySem.W.kitOne K (.type "NoneType") (.type "bool") = some false := kit_ty (by decide +kernel)
theorem depth_mem {n : Nat} : ∀ {ds : List PyData}, PyData.depthAll ds ≤ n → ∀ d ∈ ds, d.depth ≤ n
  | [], _, d, m => nomatch m
  | x :: ds, h, d, m => by
    simp only [PyData.depthAll] at h
    rcases List.mem_cons.mp m with e | m
    · rw [e]; omega
    · exact depth_mem (n := n) (by omega) d m
abbrev s_law_same : Stmt := top 55
theorem sc_law_same : FnScope ["_law_told", "_law_due", "_law_k"] ["_law_told", "_law_due"] (defScope s_law_same) := ⟨rfl, rfl, rfl, by decide +kernel, rfl, by decide +kernel, by decide +kernel⟩
theorem ok_same {f : Addr} {fd : FuncData} (F : Fun K "_law_same" "_law_same" s_law_same f fd) (T : Blt mg) (mgf : ∀ k sp, FnOk P w K mg base CX0 k f fd ["_law_told", "_law_due"] sp → Cal P w K mg base "_law_same" k sp) : ∀ m : Nat, FnOk P w K mg base CX0 (m + 1) f fd ["_law_told", "_law_due"] (spSame m) := by
  intro m
  induction m with
  | zero =>
    refine F.ok sc_law_same (fun vs H Q E h => ?_) (fun cdv A outer s H vs Q E hr h => ?_)
    · obtain ⟨_, _, _, rfl, _⟩ := h
      rfl
    · obtain ⟨v1, v2, d, rfl, t1, t2, hd, q⟩ := h
      refine ⟨_, ((pss_cons (ps_if (pt_val (pe_callB call_isi (by rfl) T.isinstance B_isinstance (pa_cons (pv 1) (pa_cons (pe_bltn (v := .ty "tuple") (by rfl) T.tuple B_tuple rfl) pa_nil)))) pss_never pss_nil)
  (pss_cons (ps_if (pt_cmpR op_isN (pv 1) pe_non (nomark _)) (pss_one (ps_ret (pe_cmpR op_isN (pv 0) pe_non (nomark _)))) pss_nil)
  (pss_cons (ps_if (pt_val (pe_callB call_isi (by rfl) T.isinstance B_isinstance (pa_cons (pv 1) (pa_cons (pe_bltn (v := .ty "bool") (by rfl) T.bool B_bool rfl) pa_nil)))) (pss_one (ps_ret (pe_and (pe_callB call_isi (by rfl) T.isinstance B_isinstance (pa_cons (pv 0) (pa_cons (pe_bltn (v := .ty "bool") (by rfl) T.bool B_bool rfl) pa_nil))) (pe_one (pe_cmpR op_eq (pv 0) (pv 1) (nomark _)))))) pss_nil)
  (pss_cons (ps_if (pt_val (pe_callB call_isi (by rfl) T.isinstance B_isinstance (pa_cons (pv 1) (pa_cons (pe_bltn (v := .ty "str") (by rfl) T.str B_str rfl) pa_nil)))) (pss_one (ps_ret (pe_and (pe_callB call_isi (by rfl) T.isinstance B_isinstance (pa_cons (pv 0) (pa_cons (pe_bltn (v := .ty "str") (by rfl) T.str B_str rfl) pa_nil))) (pe_one (pe_cmpR op_eq (pv 0) (pv 1) (nomark _)))))) pss_nil)
  (pss_one (ps_ret (pe_and (pe_callB call_isi (by rfl) T.isinstance B_isinstance (pa_cons (pv 0) (pa_cons (pe_bltn (v := .ty "int") (by rfl) T.int B_int rfl) pa_nil))) (pe_and (pe_not (pe_callB call_isi (by rfl) T.isinstance B_isinstance (pa_cons (pv 0) (pa_cons (pe_bltn (v := .ty "bool") (by rfl) T.bool B_bool rfl) pa_nil)))) (pe_one (pe_cmpR op_eq (pv 0) (pv 1) (nomark _)))))))))))), ?_⟩
      cases t2 with
      | tup _ _ => simp [PyData.depth] at hd
      | non =>
        have e := Td.non_inv t1
        subst e
        refine ⟨_, rfl, _, _, _, _, false, rfl, .ty _, .base .non, ki_none_tuple, ?_⟩
        refine ⟨_, rfl, iteF ?_⟩
        refine ⟨_, rfl, rfl, _, rfl, iteDT rfl ?_⟩
        refine ⟨_, rfl, rfl, ?_⟩
        exact q H Bt.refl
      | int i =>
        have e := Td.int_inv t1
        subst e
        refine ⟨_, rfl, _, _, _, _, false, rfl, .ty _, .base (.int _), ki_int_tuple, ?_⟩
        refine ⟨_, rfl, iteF ?_⟩
        refine ⟨_, rfl, rfl, _, rfl, iteDF (fun z => nomatch z) ?_⟩
        refine ⟨_, rfl, _, _, _, _, false, rfl, .ty _, .base (.int _), ki_int_bool, ?_⟩
        refine ⟨_, rfl, iteF ?_⟩
        refine ⟨_, rfl, _, _, _, _, false, rfl, .ty _, .base (.int _), ki_int_str, ?_⟩
        refine ⟨_, rfl, iteF ?_⟩
        refine ⟨_, rfl, _, _, _, _, true, rfl, .ty _, .base (.int _), ki_int_int, ?_⟩
        refine ⟨_, rfl, iteT ?_⟩
        refine ⟨_, rfl, _, _, _, _, false, rfl, .ty _, .base (.int _), ki_int_bool, ?_⟩
        refine ⟨_, rfl, ?_⟩
        refine ⟨_, rfl, iteT ?_⟩
        refine ⟨_, rfl, _, rfl, rfl, ?_⟩
        show Q (.bl (decide (V.int i = V.int i))) H
        rw [decide_eq_true rfl]
        exact q H Bt.refl
      | str x hx =>
        have e := Td.str_inv t1
        subst e
        refine ⟨_, rfl, _, _, _, _, false, rfl, .ty _, .base (.str _), ki_str_tuple, ?_⟩
        refine ⟨_, rfl, iteF ?_⟩
        refine ⟨_, rfl, rfl, _, rfl, iteDF (fun z => nomatch z) ?_⟩
        refine ⟨_, rfl, _, _, _, _, false, rfl, .ty _, .base (.str _), ki_str_bool, ?_⟩
        refine ⟨_, rfl, iteF ?_⟩
        refine ⟨_, rfl, _, _, _, _, true, rfl, .ty _, .base (.str _), ki_str_str, ?_⟩
        refine ⟨_, rfl, iteT ?_⟩
        refine ⟨_, rfl, _, _, _, _, true, rfl, .ty _, .base (.str _), ki_str_str, ?_⟩
        refine ⟨_, rfl, iteT ?_⟩
        refine ⟨_, rfl, _, rfl, rfl, ?_⟩
        show Q (.bl (decide (V.str x = V.str x))) H
        rw [decide_eq_true rfl]
        exact q H Bt.refl
  | succ m ih =>
    have C_law_same := mgf _ _ ih
    refine F.ok sc_law_same (fun vs H Q E h => ?_) (fun cdv A outer s H vs Q E hr h => ?_)
    · obtain ⟨_, _, _, rfl, _⟩ := h
      rfl
    · obtain ⟨v1, v2, d, rfl, t1, t2, hd, q⟩ := h
      refine ⟨_, ((pss_cons (ps_if (pt_val (pe_callB call_isi (by rfl) T.isinstance B_isinstance (pa_cons (pv 1) (pa_cons (pe_bltn (v := .ty "tuple") (by rfl) T.tuple B_tuple rfl) pa_nil)))) (pss_cons (ps_if (PW.pt (pw_or (pt_not (pt_val (pe_callB call_isi (by rfl) T.isinstance B_isinstance (pa_cons (pv 0) (pa_cons (pe_bltn (v := .ty "tuple") (by rfl) T.tuple B_tuple rfl) pa_nil))))) (pw_or1 (pt_cmpR op_ne (pe_callB call_lenS (by rfl) T.len B_len (pa_cons (pv 0) pa_nil)) (pe_callB call_lenS (by rfl) T.len B_len (pa_cons (pv 1) pa_nil)) (nomark _))))) (pss_one (ps_ret pe_bl)) pss_nil)
  (pss_cons (ps_for PassesOwn.never rfl (pi_range1 (by rfl) T.range (pa_cons (pe_callB call_lenS (by rfl) T.len B_len (pa_cons (pv 1) pa_nil)) pa_nil)) (pg_name (i := 2) sc_law_same.nd rfl (Or.inl rfl))
  (pss_one (ps_if (pt_not (pt_val (pe_cc C_law_same hr (Nat.le_refl _) (by rfl) (pa_cons (pe_ix (ix_tupK (K := K) rfl) (pv 0) (pv 2) (fun _ _ => rfl)) (pa_cons (pe_ix (ix_tupK (K := K) rfl) (pv 1) (pv 2) (fun _ _ => rfl)) pa_nil))))) (pss_one (ps_ret pe_bl)) pss_nil)))
  (pss_one (ps_ret pe_bl)))) pss_nil)
  (pss_cons (ps_if (pt_cmpR op_isN (pv 1) pe_non (nomark _)) (pss_one (ps_ret (pe_cmpR op_isN (pv 0) pe_non (nomark _)))) pss_nil)
  (pss_cons (ps_if (pt_val (pe_callB call_isi (by rfl) T.isinstance B_isinstance (pa_cons (pv 1) (pa_cons (pe_bltn (v := .ty "bool") (by rfl) T.bool B_bool rfl) pa_nil)))) (pss_one (ps_ret (pe_and (pe_callB call_isi (by rfl) T.isinstance B_isinstance (pa_cons (pv 0) (pa_cons (pe_bltn (v := .ty "bool") (by rfl) T.bool B_bool rfl) pa_nil))) (pe_one (pe_cmpR op_eq (pv 0) (pv 1) (nomark _)))))) pss_nil)
  (pss_cons (ps_if (pt_val (pe_callB call_isi (by rfl) T.isinstance B_isinstance (pa_cons (pv 1) (pa_cons (pe_bltn (v := .ty "str") (by rfl) T.str B_str rfl) pa_nil)))) (pss_one (ps_ret (pe_and (pe_callB call_isi (by rfl) T.isinstance B_isinstance (pa_cons (pv 0) (pa_cons (pe_bltn (v := .ty "str") (by rfl) T.str B_str rfl) pa_nil))) (pe_one (pe_cmpR op_eq (pv 0) (pv 1) (nomark _)))))) pss_nil)
  (pss_one (ps_ret (pe_and (pe_callB call_isi (by rfl) T.isinstance B_isinstance (pa_cons (pv 0) (pa_cons (pe_bltn (v := .ty "int") (by rfl) T.int B_int rfl) pa_nil))) (pe_and (pe_not (pe_callB call_isi (by rfl) T.isinstance B_isinstance (pa_cons (pv 0) (pa_cons (pe_bltn (v := .ty "bool") (by rfl) T.bool B_bool rfl) pa_nil)))) (pe_one (pe_cmpR op_eq (pv 0) (pv 1) (nomark _)))))))))))), ?_⟩
      cases t2 with
      | @tup a xs ds ha tx =>
        obtain ⟨b, ys, rfl, hb, ty⟩ := Td.tup_inv t1
        have xl := tx.len
        have yl := ty.len
        have hdm : PyData.depthAll ds ≤ m := by
          simp only [PyData.depth] at hd
          omega
        refine ⟨_, rfl, _, _, _, _, true, rfl, .ty _, .base (.tup ha), ki_tuple_tuple, ?_⟩
        refine ⟨_, rfl, iteT ?_⟩
        refine ⟨_, rfl, _, _, _, _, true, rfl, .ty _, .base (.tup hb), ki_tuple_tuple, ?_⟩
        refine ⟨_, rfl, iteF ?_⟩
        refine ⟨_, rfl, b, ys, rfl, .inr (.inl (.inl hb)), fun hz1 => ?_⟩
        refine ⟨_, rfl, a, xs, rfl, .inr (.inl (.inl ha)), fun hz => ?_⟩
        refine ⟨rfl, _, rfl, iteNS (by rw [xl, yl]) ?_⟩
        refine ⟨_, rfl, a, xs, rfl, .inr (.inl (.inl ha)), fun hz => ?_⟩
        have hsl : (sizeLine : Int) < 2 ^ 62 := by decide
        refine ⟨_, rfl, by omega, by omega, ?_⟩
        refine for_range (n := ((xs.length : Nat) : Int).toNat) (fun i σ H2 => ∃ u : Option V, σ = [some (.ref b), some (.ref a), u] ∧ Bt [] H H2) ⟨none, rfl, Bt.refl⟩ ?_ ?_
        · rintro i σ H2 hi ⟨u, rfl, b2⟩
          have hi' : i < ds.length := by omega
          obtain ⟨d, ed⟩ : ∃ d, ds[i]? = some d := ⟨_, List.getElem?_eq_getElem hi'⟩
          obtain ⟨x, ex, tdx⟩ := tx.get ed
          obtain ⟨y, ey, tdy⟩ := ty.get ed
          have ej : ((0 : Int) + (i : Nat)) = (i : Int) := Int.zero_add _
          have dm := List.mem_of_getElem? ed
          refine ⟨_, rfl, _, rfl, b, _, _, _, rfl, rfl, .inl (.inl (b2.at hb)), (by rw [ej]; exact atI_nat ey), ?_⟩
          refine ⟨_, rfl, _, rfl, a, _, _, _, rfl, rfl, .inl (.inl (b2.at ha)), (by rw [ej]; exact atI_nat ex), ?_⟩
          refine ⟨_, _, d, rfl, tdy.bt b2, tdx.bt b2, depth_mem hdm d dm, fun H3 b3 => ?_⟩
          refine ⟨_, rfl, iteF ?_⟩
          exact ⟨_, rfl, b2.trans b3⟩
        · rintro σ H2 ⟨u, rfl, b2⟩
          exact q H2 b2
      | non =>
        have e := Td.non_inv t1
        subst e
        refine ⟨_, rfl, _, _, _, _, false, rfl, .ty _, .base .non, ki_none_tuple, ?_⟩
        refine ⟨_, rfl, iteF ?_⟩
        refine ⟨_, rfl, rfl, _, rfl, iteDT rfl ?_⟩
        refine ⟨_, rfl, rfl, ?_⟩
        exact q H Bt.refl
      | int i =>
        have e := Td.int_inv t1
        subst e
        refine ⟨_, rfl, _, _, _, _, false, rfl, .ty _, .base (.int _), ki_int_tuple, ?_⟩
        refine ⟨_, rfl, iteF ?_⟩
        refine ⟨_, rfl, rfl, _, rfl, iteDF (fun z => nomatch z) ?_⟩
        refine ⟨_, rfl, _, _, _, _, false, rfl, .ty _, .base (.int _), ki_int_bool, ?_⟩
        refine ⟨_, rfl, iteF ?_⟩
        refine ⟨_, rfl, _, _, _, _, false, rfl, .ty _, .base (.int _), ki_int_str, ?_⟩
        refine ⟨_, rfl, iteF ?_⟩
        refine ⟨_, rfl, _, _, _, _, true, rfl, .ty _, .base (.int _), ki_int_int, ?_⟩
        refine ⟨_, rfl, iteT ?_⟩
        refine ⟨_, rfl, _, _, _, _, false, rfl, .ty _, .base (.int _), ki_int_bool, ?_⟩
        refine ⟨_, rfl, ?_⟩
        refine ⟨_, rfl, iteT ?_⟩
        refine ⟨_, rfl, _, rfl, rfl, ?_⟩
        show Q (.bl (decide (V.int i = V.int i))) H
        rw [decide_eq_true rfl]
        exact q H Bt.refl
      | str x hx =>
        have e := Td.str_inv t1
        subst e
        refine ⟨_, rfl, _, _, _, _, false, rfl, .ty _, .base (.str _), ki_str_tuple, ?_⟩
        refine ⟨_, rfl, iteF ?_⟩
        refine ⟨_, rfl, rfl, _, rfl, iteDF (fun z => nomatch z) ?_⟩
        refine ⟨_, rfl, _, _, _, _, false, rfl, .ty _, .base (.str _), ki_str_bool, ?_⟩
        refine ⟨_, rfl, iteF ?_⟩
        refine ⟨_, rfl, _, _, _, _, true, rfl, .ty _, .base (.str _), ki_str_str, ?_⟩
        refine ⟨_, rfl, iteT ?_⟩
        refine ⟨_, rfl, _, _, _, _, true, rfl, .ty _, .base (.str _), ki_str_str, ?_⟩
        refine ⟨_, rfl, iteT ?_⟩
        refine ⟨_, rfl, _, rfl, rfl, ?_⟩
        show Q (.bl (decide (V.str x = V.str x))) H
        rw [decide_eq_true rfl]
        exact q H Bt.refl
/-! ### alike -/
variable {C : Addr}
def spAlike (C : Addr) (R : List Addr) : Sp := fun vs H Q _ => ∃ (c dx dv la dg le ev lw ls kb : Addr) (h : Int) (vals : Vs) (asks : List Ask) (st : Std) (tr : Tr) (k : List Key), vs = [.ref c, .ref ev, .ref lw, .ref ls, .ref kb] ∧ CtrAt C H c dx dv la dg le h vals asks st tr ∧ DictAt H ev vals ∧
  LsAt H lw (asks.map askD) ∧ StL R H ls st ∧ PrsOk h vals ∧ StdOk h st ∧ asks.length ≤ 1000 ∧ st.length ≤ 1000 ∧ H kb = some (.tup (k.map kV)) ∧ KeyOk h k ∧ ∀ H', Bt [] H H' → Q (.bl true) H'
abbrev s_law_alike : Stmt := top 56
theorem sc_law_alike : FnScope ["_law_counter", "_law_values_here", "_law_waiting", "_law_standing", "_law_key", "_law_ask", "_law_grant"] ["_law_counter", "_law_values_here", "_law_waiting", "_law_standing", "_law_key"] (defScope s_law_alike) := ⟨rfl, rfl, rfl, by decide +kernel, rfl, by decide +kernel, by decide +kernel⟩
theorem ok_alike {f : Addr} {fd : FuncData} (F : Fun K "_law_alike" "_law_alike" s_law_alike f fd) (T : Blt mg) (TC : CFx K C) (R : List Addr) (C_law_same : Cal P w K mg base "_law_same" 13 (spSame 12)) (C_law_first : Cal P w K mg base "_law_first" 1 spFirst) (M_value : Mtd P w K mg base C "value" 8 (spValue C))
    (M_waiting : Mtd P w K mg base C "waiting" 1 (spWaiting C)) (M_granted : Mtd P w K mg base C "granted" 1 (spGranted C)) : FnOk P w K mg base CX0 14 f fd ["_law_counter", "_law_values_here", "_law_waiting", "_law_standing", "_law_key"] (spAlike C R) := by
  refine F.ok sc_law_alike (fun vs H Q E h => ?_) (fun cdv A outer s H vs Q E hr h => ?_)
  · obtain ⟨_, _, _, _, _, _, _, _, _, _, _, _, _, _, _, _, rfl, _⟩ := h
    rfl
  · obtain ⟨c, dx, dv, la, dg, le, ev, lw, ls, kb, h, vals, asks, st, tr, k, rfl, ct, hev, ⟨wvs, hlw, twv⟩, ⟨svs, hls, psv⟩, po, so, al, sl, hkb, hk, q⟩ := h
    have hu := hu_of hr
    have wl : wvs.length = asks.length := by rw [twv.len, List.length_map]
    have svl : svs.length = st.length := Paired.length psv
    have ctb : ∀ {H'}, Bt [] H H' → CtrAt C H' c dx dv la dg le h vals asks st tr := fun b => ⟨b.at ct.fob, ct.fdv.bt b (fun z => nomatch z), ct.fla.bt b (fun z => nomatch z), ct.fdg.bt b (fun z => nomatch z), ct.fle.bt b (fun z => nomatch z), ct.ne1, ct.ne2⟩
    have dpA : (PyData.tuple (asks.map fun a => kD a.1)).depth ≤ 12 := Nat.le_trans (depth_tuple (n := 1) fun d m => by
      obtain ⟨a, _, e⟩ := List.mem_map.mp m
      rw [← e, kD_depth]; omega) (by omega)
    refine ⟨_, ((pss_cons (ps_if (pt_not (pt_val (pe_cc C_law_same hr (by decide) (by rfl) (pa_cons (pe_mc M_value TC.cl hr (by decide) (pv 0) (pa_cons (pv 4) pa_nil)) (pa_cons (pe_dget2 hu (pv 1) (pv 4) (pe_cc C_law_first hr (by decide) (by rfl) (pa_cons (pv 4) pa_nil)) ⟨rfl, rfl, rfl, rfl⟩) pa_nil))))) (pss_one (ps_ret pe_bl)) pss_nil)
  (pss_cons (ps_if (pt_not (pt_val (pe_cc C_law_same hr (by decide) (by rfl) (pa_cons (pe_mc0 M_waiting TC.cl hr (by decide) (pv 0)) (pa_cons (pe_callTy call_tuple_of (by rfl) T.tuple B_tuple (pa_cons (pe_lc (own := [("_law_ask", 5)]) (g := gName 5)  rfl sc_law_alike.nd (pi_list (pv 2)) (blkOk_by (own := [("_law_ask", 5)]) (N := ["_law_counter", "_law_values_here", "_law_waiting", "_law_standing", "_law_key", "_law_ask", "_law_grant"]) (sc := defScope s_law_alike) (by decide +kernel)) (fun _ _ _ _ _ => (pg_name (i := 5) sc_law_alike.nd rfl (Or.inl rfl))) (fun _ _ _ _ _ => pts_nil) (fun _ _ _ _ _ => (pe_ix (ix_tupK (K := K) rfl) (pv 5) pe_int (fun _ _ => rfl)))) pa_nil)) pa_nil))))) (pss_one (ps_ret pe_bl)) pss_nil)
  (pss_one (ps_ret (pe_cc C_law_same hr (by decide) (by rfl) (pa_cons (pe_mc0 M_granted TC.cl hr (by decide) (pv 0)) (pa_cons (pe_callTy call_tuple_of (by rfl) T.tuple B_tuple (pa_cons (pe_callB cr_sortedKs (by rfl) T.sorted B_sorted (pa_cons (pe_lc (own := [("_law_grant", 6)]) (g := gName 6)  rfl sc_law_alike.nd (pi_list (pv 3)) (blkOk_by (own := [("_law_grant", 6)]) (N := ["_law_counter", "_law_values_here", "_law_waiting", "_law_standing", "_law_key", "_law_ask", "_law_grant"]) (sc := defScope s_law_alike) (by decide +kernel)) (fun _ _ _ _ _ => (pg_name (i := 6) sc_law_alike.nd rfl (Or.inl rfl))) (fun _ _ _ _ _ => pts_nil) (fun _ _ _ _ _ => (pe_ix (ix_tupK (K := K) rfl) (pv 6) pe_int (fun _ _ => rfl)))) pa_nil)) pa_nil)) pa_nil)))))))), ?_⟩
    refine ⟨_, rfl, c, dx, _, rfl, ct.fob, flds_no (by decide +kernel) (by decide +kernel) (by decide +kernel) (by decide +kernel) (by decide +kernel), ?_⟩
    refine ⟨_, rfl, c, dx, dv, la, dg, le, kb, h, vals, asks, st, tr, k, rfl, ct, hkb, hk, fun v H1 b1 tv => ?_⟩
    have hev1 := hev.bt b1 (fun z => nomatch z)
    refine ⟨_, rfl, ev, rfl, (by obtain ⟨kk, z1, _⟩ := hev1; exact .inr ⟨kk, .inl z1⟩), ?_⟩
    refine ⟨_, rfl, _, rfl, kb, h, k, rfl, b1.tup _ _ hkb, hk, fun H2 b2 => ?_⟩
    obtain ⟨o, og, oe⟩ := (hev1.bt b2 (fun z => nomatch z)).get (b2.tup _ _ (b1.tup _ _ hkb))
    refine ⟨o, og, ?_⟩
    have tval : Td H2 (o.getD (fvV k)) (gv vals k) := by
      unfold gv
      rcases oe with ⟨rfl, e⟩ | ⟨v, x, rfl, e, t⟩
      · rw [e]; exact td_fv H2 k
      · rw [e]; exact t
    refine ⟨_, _, gv vals k, rfl, tv.bt b2, tval, by have := gv_dp (k := k) po; omega, fun H3 b3 => ?_⟩
    refine ⟨_, rfl, iteF ?_⟩
    have b03 := (b1.trans b2).trans b3
    clear b1 b2 b3 tv hev1 og oe tval
    -- waiting
    refine ⟨_, rfl, c, dx, _, rfl, (ctb b03).fob, flds_no (by decide +kernel) (by decide +kernel) (by decide +kernel) (by decide +kernel) (by decide +kernel), ?_⟩
    refine ⟨c, dx, dv, la, dg, le, h, vals, asks, st, tr, rfl, ctb b03, by omega, fun v H4 b4 tv => ?_⟩
    have b04 := b03.trans b4
    refine ⟨_, rfl, lw, rfl, ⟨wvs, .inl (.inl (b04.at hlw))⟩, fun D nD => ?_⟩
    refine lcD (walk_list (K := K) (xs := wvs)) nD (fun H b => b.sqL (.inl (.inl (b04.at hlw)))) (by omega) (fun i => (asks.take i).map fun a => kD a.1) rfl ?_ ?_
    · intro j y H5 hy b5 N1 N2 k1 k2
      obtain ⟨dd, e5, td5⟩ := ((twv.bt b04).bt b5).get' hy
      rw [List.getElem?_map] at e5
      cases ej : asks[j]? with
      | none => rw [ej] at e5; cases e5
      | some a =>
      rw [ej] at e5
      cases e5
      obtain ⟨b, ys, rfl, hb, tys⟩ := Td.tup_inv td5
      obtain ⟨w1, r1, rfl, tw1, tys⟩ := tys.cons_inv
      refine ⟨rfl, ?_⟩
      refine ⟨_, rfl, b, _, _, _, rfl, rfl, .inl (.inl hb), atI_nat (j := 0) rfl, ?_⟩
      exact k1 _ H5 _ Bt.refl tw1 (take_map _ ej)
    intro H5 zs b5 hD tz
    refine ⟨D, zs, rfl, .inl ⟨.inl (.inl hD), fun p6 n6 => ?_⟩⟩
    generalize e6 : upd _ p6 _ = H6
    obtain ⟨S6, h6⟩ := new_of e6 n6
    clear e6
    rw [wl, List.take_length] at tz
    have b46 := b5.trans S6
    refine ⟨_, _, _, rfl, tv.bt b46, .tup h6 (tz.bt S6), dpA, fun H7 b7 => ?_⟩
    refine ⟨_, rfl, iteF ?_⟩
    have b07 := (b04.trans b46).trans b7
    clear b5 S6 b46 b7 tv tz hD b4 b04 b03
    -- granted
    refine ⟨_, rfl, c, dx, _, rfl, (ctb b07).fob, flds_no (by decide +kernel) (by decide +kernel) (by decide +kernel) (by decide +kernel) (by decide +kernel), ?_⟩
    refine ⟨c, dx, dv, la, dg, le, h, vals, asks, st, tr, rfl, ctb b07, so, fun v H8 ks b8 hs1 hp1 tv => ?_⟩
    have b08 := b07.trans b8
    refine ⟨_, rfl, ls, rfl, ⟨svs, .inl (.inl (b08.at hls))⟩, fun D nD => ?_⟩
    refine lcD (walk_list (K := K) (xs := svs)) nD (fun H b => b.sqL (.inl (.inl (b08.at hls)))) (by omega) (fun i => (st.take i).map fun s => kD s.1) rfl ?_ ?_
    · intro j y H9 hy b9 N1 N2 k1 k2
      obtain ⟨s1, es, t, ii, rq, kl, an, ey, ht, hkl, _, ti, tr, ta⟩ := paired_get psv hy
      subst ey
      refine ⟨rfl, ?_⟩
      refine ⟨_, rfl, t, _, _, _, rfl, rfl, .inl (.inl (b9.tup _ _ (b08.tup _ _ ht))), atI_nat (j := 0) rfl, ?_⟩
      exact k1 _ H9 _ Bt.refl ((ti.bt b08).bt b9) (take_map _ es)
    intro H9 zs b9 hD tz
    rw [svl, List.take_length] at tz
    have tz' : TdA H9 zs ((st.map (·.1)).map kD) := by rw [List.map_map]; exact tz
    have idk : ∀ k ∈ st.map (·.1), IdOk k := fun k m => by
      obtain ⟨p, m1, e⟩ := List.mem_map.mp m
      rw [← e]
      exact so.ids p m1
    refine ⟨D, _, kOf H9, rfl, .inl (.inl hD), sort_ids tz' idk, fun ys l6 hs hperm n6 => ?_⟩
    generalize e10 : upd _ l6 _ = H10
    obtain ⟨S10, h10⟩ := new_of e10 n6
    clear e10
    obtain ⟨r1, r2, r3⟩ := sort_out tz' (fun k m => (idk k m).kok) hs hperm
    refine ⟨l6, ys, rfl, .inl ⟨.inl (.inl h10), fun p11 n11 => ?_⟩⟩
    generalize e11 : upd _ p11 _ = H11
    obtain ⟨S11, h11⟩ := new_of e11 n11
    clear e11
    have b811 := (b9.trans S10).trans S11
    have eks : ys.map (kOf H9) = ks := sorted_eq (r2.trans hp1.symm) r3 hs1
    rw [eks] at r1
    refine ⟨_, _, _, rfl, tv.bt b811, .tup h11 ((r1.bt S10).bt S11), Nat.le_trans (depth_tuple (n := 1) fun d m => ?_) (by omega), fun H12 b12 => ?_⟩
    · obtain ⟨a, _, e⟩ := List.mem_map.mp m
      rw [← e, kD_depth]; omega
    exact q H12 ((b08.trans b811).trans b12)
/-! ### all alike -/
def spAllAlike (C : Addr) : Sp := fun vs H Q _ => ∃ (c dx dv la dg le ev lm lt : Addr) (h : Int) (vals : Vs) (asks : List Ask) (st : Std) (tr : Tr) (ks : List (List Key)), vs = [.ref c, .ref ev, .ref lm, .ref lt] ∧ CtrAt C H c dx dv la dg le h vals asks st tr ∧ DictAt H ev vals ∧
  LsAt H lm (ks.map kD) ∧ LsAt H lt (tr.map trD) ∧ PrsOk h vals ∧ Menu h ks ∧ (vals.map (·.1)).Nodup ∧ (∀ k ∈ vals.map (·.1), k ∈ ks) ∧ vals.length ≤ 100000 ∧ ∀ H', Bt [] H H' → Q (.bl true) H'
abbrev s_law_all_alike : Stmt := top 57
theorem sc_law_all_alike : FnScope ["_law_counter", "_law_values_here", "_law_menu_here", "_law_trace"] ["_law_counter", "_law_values_here", "_law_menu_here", "_law_trace"] (defScope s_law_all_alike) := ⟨rfl, rfl, rfl, by decide +kernel, rfl, by decide +kernel, by decide +kernel⟩
theorem ok_all_alike {f : Addr} {fd : FuncData} (F : Fun K "_law_all_alike" "_law_all_alike" s_law_all_alike f fd) (T : Blt mg) (TC : CFx K C) (C_law_same : Cal P w K mg base "_law_same" 13 (spSame 12)) (C_law_shown : Cal P w K mg base "_law_shown" 2 spShown) (M_all_values : Mtd P w K mg base C "all_values" 8 (spAllValues C))
    (M_trace : Mtd P w K mg base C "trace" 1 (spTrace C)) : FnOk P w K mg base CX0 14 f fd ["_law_counter", "_law_values_here", "_law_menu_here", "_law_trace"] (spAllAlike C) := by
  refine F.ok sc_law_all_alike (fun vs H Q E h => ?_) (fun cdv A outer s H vs Q E hr h => ?_)
  · obtain ⟨_, _, _, _, _, _, _, _, _, _, _, _, _, _, _, rfl, _⟩ := h
    rfl
  · obtain ⟨c, dx, dv, la, dg, le, ev, lm, lt, h, vals, asks, st, tr, ks, rfl, ct, hev, hlm, ⟨tvs, hlt, ttv⟩, po, mn, nd, ki, vl, q⟩ := h
    have ctb : ∀ {H'}, Bt [] H H' → CtrAt C H' c dx dv la dg le h vals asks st tr := fun b => ⟨b.at ct.fob, ct.fdv.bt b (fun z => nomatch z), ct.fla.bt b (fun z => nomatch z), ct.fdg.bt b (fun z => nomatch z), ct.fle.bt b (fun z => nomatch z), ct.ne1, ct.ne2⟩
    refine ⟨_, ((pss_cons (ps_if (pt_not (pt_val (pe_cc C_law_same hr (by decide) (by rfl) (pa_cons (pe_mc0 M_all_values TC.cl hr (by decide) (pv 0)) (pa_cons (pe_cc C_law_shown hr (by decide) (by rfl) (pa_cons (pv 1) (pa_cons (pv 2) pa_nil))) pa_nil))))) (pss_one (ps_ret pe_bl)) pss_nil)
  (pss_one (ps_ret (pe_cc C_law_same hr (by decide) (by rfl) (pa_cons (pe_mc0 M_trace TC.cl hr (by decide) (pv 0)) (pa_cons (pe_callTy call_tuple_of (by rfl) T.tuple B_tuple (pa_cons (pv 3) pa_nil)) pa_nil))))))), ?_⟩
    refine ⟨_, rfl, c, dx, _, rfl, ct.fob, flds_no (by decide +kernel) (by decide +kernel) (by decide +kernel) (by decide +kernel) (by decide +kernel), ?_⟩
    refine ⟨c, dx, dv, la, dg, le, h, vals, asks, st, tr, rfl, ct, po, by omega, fun v H1 ks1 b1 hs hp tv => ?_⟩
    rw [shown_eq mn nd ki hs hp] at tv
    refine ⟨_, rfl, _, rfl, ev, lm, h, vals, ks, rfl, hev.bt b1 (fun z => nomatch z), hlm.bt b1 (fun z => nomatch z), mn.ok, po, by have := mn.len; omega, fun v2 H2 b2 tv2 => ?_⟩
    refine ⟨_, _, _, rfl, tv.bt b2, tv2, Nat.le_trans (depth_tuple (n := 9) fun d m => ?_) (by omega), fun H3 b3 => ?_⟩
    · unfold shownOf at m
      obtain ⟨k, _, e⟩ := List.mem_map.mp m
      rw [← e]
      refine depth_tuple (n := 8) fun d m => ?_
      rcases List.mem_cons.mp m with e | m
      · rw [e, kD_depth]; omega
      · rw [List.mem_singleton.mp m]; exact gv_dp po
    refine ⟨_, rfl, iteF ?_⟩
    have b03 := (b1.trans b2).trans b3
    refine ⟨_, rfl, c, dx, _, rfl, (ctb b03).fob, flds_no (by decide +kernel) (by decide +kernel) (by decide +kernel) (by decide +kernel) (by decide +kernel), ?_⟩
    refine ⟨c, dx, dv, la, dg, le, h, vals, asks, st, tr, rfl, ctb b03, fun v4 H4 b4 tv4 => ?_⟩
    have b04 := b03.trans b4
    refine ⟨_, rfl, lt, tvs, rfl, .inl ⟨.inl (.inl (b04.at hlt)), fun p5 n5 => ?_⟩⟩
    generalize e5 : upd _ p5 _ = H5
    obtain ⟨S5, h5⟩ := new_of e5 n5
    clear e5
    refine ⟨_, _, _, rfl, tv4.bt S5, .tup h5 ((ttv.bt b04).bt S5), Nat.le_trans (depth_tuple (n := 3) fun d m => ?_) (by omega), fun H6 b6 => ?_⟩
    · obtain ⟨a, _, e⟩ := List.mem_map.mp m
      rw [← e]
      exact trD_dp a
    exact q H6 ((b04.trans S5).trans b6)
end
end K33

/-! K26: the law's state, one event -/
namespace K33
open PySem L2
theorem grantsFor_rq {vals : Vs} {st : Std} : ∀ {rs : List Rq} {gs : List Gr}, grantsFor vals st rs = some gs → gs.map (·.rq) = rs
  | [], gs, e => by
    unfold grantsFor at e
    cases e
    rfl
  | r :: rs, gs, e => by
    unfold grantsFor at e
    cases hb : beside vals st r with
    | none => rw [hb] at e; cases e
    | some g =>
      rw [hb] at e
      obtain ⟨gs', e1, rfl⟩ := Option.map_eq_some_iff.mp e
      rw [List.map_cons, beside_rq hb, grantsFor_rq e1]
abbrev ids (l : List Ask) : List (List Key) := l.map (·.1)
abbrev sids (l : Std) : List (List Key) := l.map (·.1)
theorem pass1_perm {vals : Vs} {p : Ps} {a : Ask} : (sids (pass1 vals p a).st ++ ids (pass1 vals p a).left).Perm (a.1 :: (sids p.st ++ ids p.left)) := by
  unfold pass1
  split
  · show (sids p.st ++ ids (p.left ++ [a])).Perm _
    unfold ids
    rw [List.map_append, ← List.append_assoc]
    exact List.perm_append_comm
  · show (sids (p.st ++ [(a.1, _)]) ++ ids p.left).Perm _
    unfold sids
    rw [List.map_append, List.append_assoc]
    exact List.perm_middle
theorem fold_perm {vals : Vs} : ∀ {l : List Ask} {p : Ps}, (sids (l.foldl (pass1 vals) p).st ++ ids (l.foldl (pass1 vals) p).left).Perm (sids p.st ++ ids p.left ++ ids l)
  | [], p => by
    show (sids p.st ++ ids p.left).Perm (sids p.st ++ ids p.left ++ [])
    rw [List.append_nil]
  | a :: l, p => by
    refine (fold_perm (l := l) (p := pass1 vals p a)).trans ?_
    refine ((pass1_perm (vals := vals) (p := p) (a := a)).append_right _).trans ?_
    show (a.1 :: (sids p.st ++ ids p.left) ++ ids l).Perm (sids p.st ++ ids p.left ++ a.1 :: ids l)
    rw [List.cons_append]
    exact List.perm_middle.symm
theorem fold_tr {vals : Vs} {q : Bool × List Key} : ∀ {l : List Ask} {p : Ps}, q ∈ (l.foldl (pass1 vals) p).tr → q ∈ p.tr ∨ q.2 ∈ ids l
  | [], _, h => .inl h
  | a :: l, p, h => by
    rcases fold_tr (l := l) h with z | z
    · unfold pass1 at z
      split at z
      · exact .inl z
      · rcases List.mem_append.mp z with z | z
        · exact .inl z
        · rw [List.mem_singleton.mp z]
          exact .inr List.mem_cons_self
    · exact .inr (List.mem_cons_of_mem _ z)
def KsA (ks : List (List Key)) (l : List Ask) : Prop := ∀ a ∈ l, ∀ r ∈ a.2, r.key ∈ ks
def KsS (ks : List (List Key)) (l : Std) : Prop := ∀ p ∈ l, ∀ g ∈ p.2, g.rq.key ∈ ks
theorem fold_ks {vals : Vs} {ks : List (List Key)} : ∀ {l : List Ask} {p : Ps}, KsA ks l → KsA ks p.left → KsS ks p.st → KsA ks (l.foldl (pass1 vals) p).left ∧ KsS ks (l.foldl (pass1 vals) p).st
  | [], _, _, h1, h2 => ⟨h1, h2⟩
  | a :: l, p, h0, h1, h2 => by
    refine fold_ks (l := l) (fun x m => h0 x (List.mem_cons_of_mem _ m)) ?_ ?_
    · unfold pass1
      split
      · intro x m
        rcases List.mem_append.mp m with m | m
        · exact h1 x m
        · rw [List.mem_singleton.mp m]
          exact h0 a List.mem_cons_self
      · exact h1
    · unfold pass1
      split
      · exact h2
      · rename_i gs e
        split at e
        · cases e
        have er := grantsFor_rq e
        intro x m
        rcases List.mem_append.mp m with m | m
        · exact h2 x m
        · rw [List.mem_singleton.mp m]
          intro g gm
          refine h0 a List.mem_cons_self g.rq ?_
          rw [← er]
          exact List.mem_map.mpr ⟨g, gm, rfl⟩
structure Iv (h s : Int) (ks : List (List Key)) (i : Nat) (vals : Vs) (asks : List Ask) (st : Std) (tr : Tr) : Prop where
  po : PrsOk h vals
  ao : ∀ a ∈ asks, AskOk h a
  so : StdOk h st
  to : ∀ q ∈ tr, IdOk q.2
  nd : (sids st ++ ids asks).Nodup
  phi : tr.length + 2 * asks.length + st.length ≤ 2 * i
  idn : ∀ x, (x ∈ sids st ∨ x ∈ ids asks ∨ x ∈ tr.map (·.2)) → ∃ j : Nat, j < i ∧ x = idOf s j
  ka : KsA ks asks
  kst : KsS ks st
  vn : (vals.map (·.1)).Nodup
  vk : ∀ k ∈ vals.map (·.1), k ∈ ks
  vl : vals.length ≤ 1000 + 100 * i
section
variable {h s : Int} {ks : List (List Key)} {i : Nat} {vals : Vs} {asks : List Ask} {st : Std} {tr : Tr}
theorem Iv.st' (v : Iv h s ks i vals asks st tr) (hi : i ≤ 30) : StOk h vals asks st tr := ⟨v.po, v.ao, v.so, v.to, v.nd, by have := v.phi; omega, by have := v.phi; omega⟩
theorem Iv.onPass (v : Iv h s ks i vals asks st tr) : Iv h s ks i vals (pass vals asks st tr).left (pass vals asks st tr).st (pass vals asks st tr).tr := by
  have pk : PsOk h (pass vals asks st tr) := fold_ok v.po ⟨(fun _ m => nomatch m), v.so, v.to, ⟨(fun _ m => nomatch m), (fun _ m => nomatch m), (fun _ m => nomatch m)⟩⟩ v.ao
  have pp : (sids (pass vals asks st tr).st ++ ids (pass vals asks st tr).left).Perm (sids st ++ [] ++ ids asks) := fold_perm (l := asks) (p := ⟨[], st, tr, []⟩)
  rw [List.append_nil] at pp
  have pl := fold_len (vals := vals) (l := asks) (p := ⟨[], st, tr, []⟩)
  have pk2 := fold_ks (vals := vals) (l := asks) (p := ⟨[], st, tr, []⟩) v.ka (fun _ m => nomatch m) v.kst
  obtain ⟨a1, a2, a3⟩ := pl
  refine ⟨v.po, pk.left, pk.st, pk.tr, pp.symm.nodup v.nd, ?_, fun x m => ?_, pk2.1, pk2.2, v.vn, v.vk, v.vl⟩
  · have := v.phi
    unfold K33.pass
    generalize asks.foldl (pass1 vals) ⟨[], st, tr, []⟩ = q at *
    simp only [List.length_nil] at a1 a2 a3
    omega
  · have hx : x ∈ sids st ++ ids asks → ∃ j : Nat, j < i ∧ x = idOf s j := fun z => by
      rcases List.mem_append.mp z with z | z
      · exact v.idn x (.inl z)
      · exact v.idn x (.inr (.inl z))
    rcases m with m | m | m
    · exact hx (pp.mem_iff.mp (List.mem_append_left _ m))
    · exact hx (pp.mem_iff.mp (List.mem_append_right _ m))
    · obtain ⟨q, m1, rfl⟩ := List.mem_map.mp m
      rcases fold_tr m1 with z | z
      · exact v.idn _ (.inr (.inr (List.mem_map.mpr ⟨q, z, rfl⟩)))
      · exact v.idn _ (.inr (.inl z))
theorem Iv.fresh (v : Iv h s ks i vals asks st tr) (s0 : 0 ≤ s) (hi : i < 31) {x : List Key} (m : x ∈ sids st ∨ x ∈ ids asks ∨ x ∈ tr.map (·.2)) : x ≠ idOf s i := by
  intro e
  obtain ⟨j, hj, ej⟩ := v.idn x m
  rw [e] at ej
  have := id_inj s0 hi (by omega) ej
  omega
theorem Iv.ask (v : Iv h s ks i vals asks st tr) (s0 : 0 ≤ s) (hi : i < 30) {rs : List Rq} (ne : rs ≠ []) (len : rs.length ≤ 100) (rok : ∀ r ∈ rs, RqOk h r) (rk : ∀ r ∈ rs, r.key ∈ ks) : Iv h s ks (i + 1) vals (asks ++ [(idOf s i, rs)]) st tr ∧ (true, idOf s i) ∉ tr := by
  have fr : ∀ {x}, (x ∈ sids st ∨ x ∈ ids asks ∨ x ∈ tr.map (·.2)) → x ≠ idOf s i := fun m => v.fresh s0 (by omega) m
  refine ⟨⟨v.po, fun a m => ?_, v.so, v.to, ?_, ?_, fun x m => ?_, fun a m => ?_, v.kst, v.vn, v.vk, by have := v.vl; omega⟩, fun m => fr (.inr (.inr (List.mem_map.mpr ⟨_, m, rfl⟩))) rfl⟩
  · rcases List.mem_append.mp m with m | m
    · exact v.ao a m
    · rw [List.mem_singleton.mp m]
      exact ⟨idOf_ok s i, ne, len, rok⟩
  · unfold ids
    rw [List.map_append, ← List.append_assoc]
    refine nd_snoc v.nd fun m => ?_
    rcases List.mem_append.mp m with m | m
    · exact fr (.inl m) rfl
    · exact fr (.inr (.inl m)) rfl
  · rw [List.length_append, List.length_singleton]
    have := v.phi
    omega
  · have old : (x ∈ sids st ∨ x ∈ ids asks ∨ x ∈ tr.map (·.2)) → ∃ j : Nat, j < i + 1 ∧ x = idOf s j := fun m => by
      obtain ⟨j, h1, h2⟩ := v.idn x m
      exact ⟨j, by omega, h2⟩
    rcases m with m | m | m
    · exact old (.inl m)
    · unfold ids at m
      rw [List.map_append] at m
      rcases List.mem_append.mp m with m | m
      · exact old (.inr (.inl m))
      · exact ⟨i, by omega, List.mem_singleton.mp m⟩
    · exact old (.inr (.inr m))
  · rcases List.mem_append.mp m with m | m
    · exact v.ka a m
    · rw [List.mem_singleton.mp m]
      exact rk
theorem carry_nd : ∀ {ws : Wrs} {vals : Vs}, (vals.map (·.1)).Nodup → ((carry vals ws).map (·.1)).Nodup
  | [], _, n => n
  | p :: ws, vals, n => carry_nd (ws := ws) (pt_nodup n)
theorem carry_keys : ∀ {ws : Wrs} {vals : Vs} {k : List Key}, k ∈ (carry vals ws).map (·.1) → k ∈ vals.map (·.1) ∨ k ∈ ws.map (·.1)
  | [], _, _, m => .inl m
  | p :: ws, vals, k, m => by
    rcases carry_keys (ws := ws) m with z | z
    · rcases pt_mem z with e | z
      · exact .inr (by rw [e]; exact List.mem_cons_self)
      · exact .inl z
    · exact .inr (List.mem_cons_of_mem _ z)
theorem del_idx : ∀ {st : Std} {j : Nat} {p : List Key × List Gr}, (sids st).Nodup → st[j]? = some p → stDel st p.1 = st.eraseIdx j
  | [], j, p, _, e => by simp at e
  | q :: st, 0, p, n, e => by
    simp at e
    subst e
    rw [sids, List.map_cons, List.nodup_cons] at n
    unfold stDel
    rw [List.filter_cons_of_neg (by simp), List.eraseIdx_cons_zero, List.filter_eq_self]
    intro x m
    exact decide_eq_true fun z => n.1 (by rw [← z]; exact List.mem_map.mpr ⟨x, m, rfl⟩)
  | q :: st, j + 1, p, n, e => by
    simp at e
    have nn := n
    rw [sids, List.map_cons, List.nodup_cons] at n
    have ih := del_idx (st := st) n.2 e
    unfold stDel at ih ⊢
    have : q.1 ≠ p.1 := fun z => n.1 (by rw [z]; exact List.mem_map.mpr ⟨p, List.mem_of_getElem? e, rfl⟩)
    rw [List.filter_cons_of_pos (by simpa using this), List.eraseIdx_cons_succ, ih]
theorem Iv.fin (v : Iv h s ks i vals asks st tr) {j : Nat} {p : List Key × List Gr} (e : st[j]? = some p) {ws : Wrs} (wo : PrsOk h ws) (wc : ChgOk p.2 ws) (wl : ws.length ≤ 100) :
    Iv h s ks (i + 1) (carry vals ws) asks (stDel st p.1) (tr ++ [(false, p.1)]) := by
  have nds : (sids st).Nodup := (List.nodup_append.mp v.nd).1
  have hde := del_idx nds e
  have hj := (List.getElem?_eq_some_iff.mp e).1
  have pm := List.mem_of_getElem? e
  have sub : ∀ x ∈ stDel st p.1, x ∈ st := fun x m => (List.mem_filter.mp m).1
  refine ⟨carry_ok v.po wo, v.ao, ⟨fun x m => v.so.ids x (sub x m), fun x m => v.so.gr x (sub x m), fun x m => v.so.len x (sub x m)⟩, fun q m => ?_, ?_, ?_, fun x m => ?_, v.ka, fun x m => v.kst x (sub x m), carry_nd v.vn, fun k m => ?_, ?_⟩
  · rcases List.mem_append.mp m with m | m
    · exact v.to q m
    · rw [List.mem_singleton.mp m]
      exact v.so.ids p pm
  · refine List.Nodup.sublist ?_ v.nd
    exact List.Sublist.append (List.Sublist.map _ List.filter_sublist) (List.Sublist.refl _)
  · rw [hde, List.length_eraseIdx_of_lt hj, List.length_append, List.length_singleton]
    have := v.phi
    omega
  · have old : (x ∈ sids st ∨ x ∈ ids asks ∨ x ∈ tr.map (·.2)) → ∃ j : Nat, j < i + 1 ∧ x = idOf s j := fun m => by
      obtain ⟨j, h1, h2⟩ := v.idn x m
      exact ⟨j, by omega, h2⟩
    rcases m with m | m | m
    · obtain ⟨q, m1, rfl⟩ := List.mem_map.mp m
      exact old (.inl (List.mem_map.mpr ⟨q, sub q m1, rfl⟩))
    · exact old (.inr (.inl m))
    · rw [List.map_append] at m
      rcases List.mem_append.mp m with m | m
      · exact old (.inr (.inr m))
      · have ex : x = p.1 := List.mem_singleton.mp m
        exact old (.inl (List.mem_map.mpr ⟨p, pm, ex.symm⟩))
  · rcases carry_keys m with z | z
    · exact v.vk k z
    · obtain ⟨x, m1, rfl⟩ := List.mem_map.mp z
      obtain ⟨g, g1, _, g3⟩ := wc x m1
      rw [← g3]
      exact v.kst p pm g g1
  · have := carry_len ws vals
    have := v.vl
    omega
end
/-! ### the start's values -/
theorem start_nd {h : Int} : ∀ {ps : Wrs} {vals : Vs}, (vals.map (·.1)).Nodup → ((ps.foldl (start1 h) vals).map (·.1)).Nodup
  | [], _, n => n
  | p :: ps, vals, n => by
    refine start_nd (ps := ps) ?_
    unfold start1
    split
    · exact pt_nodup n
    · exact n
theorem start_keys {h : Int} : ∀ {ps : Wrs} {vals : Vs} {k : List Key}, k ∈ (ps.foldl (start1 h) vals).map (·.1) → k ∈ vals.map (·.1) ∨ ∃ p ∈ ps, hdI p.1 = h ∧ p.1 = k
  | [], _, _, m => .inl m
  | p :: ps, vals, k, m => by
    rcases start_keys (ps := ps) m with z | ⟨q, m1, m2⟩
    · unfold start1 at z
      split at z
      · rename_i e
        rcases pt_mem z with e2 | z
        · exact .inr ⟨p, List.mem_cons_self, e, e2.symm⟩
        · exact .inl z
      · exact .inl z
    · exact .inr ⟨q, List.mem_cons_of_mem _ m1, m2⟩
theorem start_ok {h : Int} : ∀ {ps : Wrs} {vals : Vs}, PrsOk h vals → (∀ p ∈ ps, hdI p.1 = h → PrOk h p) → PrsOk h (ps.foldl (start1 h) vals)
  | [], _, o, _ => o
  | p :: ps, vals, o, q => by
    refine start_ok (ps := ps) ?_ fun x m => q x (List.mem_cons_of_mem _ m)
    unfold start1
    split
    · rename_i e
      exact pt_all o (q p List.mem_cons_self e)
    · exact o
theorem start_flt {h : Int} : ∀ {ps : Wrs} {vals : Vs}, (ps.filter fun p => decide (hdI p.1 = h)).foldl (start1 h) vals = ps.foldl (start1 h) vals
  | [], _ => rfl
  | p :: ps, vals => by
    by_cases e : hdI p.1 = h
    · rw [List.filter_cons_of_pos (by simpa using e), List.foldl_cons, List.foldl_cons, start_flt]
    · rw [List.filter_cons_of_neg (by simpa using e), List.foldl_cons, start_flt]
      congr 1
      unfold start1
      rw [if_neg e]
/-! ### the law's heap -/
theorem nn_at {L : List Addr} (N : L.Nodup) {i j : Nat} {a b : Addr} (hi : L[i]? = some a) (hj : L[j]? = some b) (h : i ≠ j) : a ≠ b := by
  intro e
  subst e
  obtain ⟨h1, _⟩ := List.getElem?_eq_some_iff.mp hi
  exact h ((List.getElem?_inj h1 N).mp (hi.trans hj.symm))
theorem nin_at {L : List Addr} (N : L.Nodup) {i : Nat} {a : Addr} (hi : L[i]? = some a) : ∀ {js : List Nat} {bs : List Addr}, js.map (L[·]?) = bs.map some → i ∉ js → a ∉ bs
  | [], [], _, _ => fun m => nomatch m
  | [], _ :: _, e, _ => by simp at e
  | _ :: _, [], e, _ => by simp at e
  | j :: js, b :: bs, e, n => by
    rw [List.map_cons, List.map_cons] at e
    injection e with e1 e2
    intro m
    rcases List.mem_cons.mp m with z | m
    · exact nn_at N hi e1 (fun q => n (by rw [q]; exact List.mem_cons_self)) z
    · exact nin_at N hi e2 (fun q => n (List.mem_cons_of_mem _ q)) m
def rts (p ev lw ls lt c la dg le dv : Addr) : List Addr := [p, ev, lw, ls, lt, c, la, dg, le, dv]
structure LA (C : Addr) (h : Int) (ks : List (List Key)) (H : Hp) (p lm ev lw ls lt c la dg le dv dx : Addr) (vL : Vs) (aL : List Ask) (sL : Std) (tL : Tr) (vC : Vs) (aC : List Ask) (sC : Std) (tC : Tr) : Prop where
  N : [p, lm, ev, lw, ls, lt, c, la, dg, le, dv].Nodup
  hp : PoolAt H p
  hm : LsAt H lm (ks.map kD)
  he : DictAt H ev vL
  hw : LsAt H lw (aL.map askD)
  hs : StL (rts p ev lw ls lt c la dg le dv) H ls sL
  ht : LsAt H lt (tL.map trD)
  ct : CtrAt C H c dx dv la dg le h vC aC sC tC
section
variable {C : Addr} {h : Int} {ks : List (List Key)} {H H' : Hp} {p lm ev lw ls lt c la dg le dv dx : Addr} {vL : Vs} {aL : List Ask} {sL : Std} {tL : Tr} {vC : Vs} {aC : List Ask} {sC : Std} {tC : Tr}
theorem CtrAt.bt {H H' : Hp} {ls : List Addr} {asks : List Ask} {st : Std} {tr : Tr} {vals : Vs} (x : CtrAt C H c dx dv la dg le h vals asks st tr) (b : Bt ls H H') (h1 : c ∉ ls) (h2 : dv ∉ ls) (h3 : la ∉ ls) (h4 : dg ∉ ls) (h5 : le ∉ ls) : CtrAt C H' c dx dv la dg le h vals asks st tr :=
  ⟨b.keep _ _ h1 x.fob, x.fdv.bt b h2, x.fla.bt b h3, x.fdg.bt b h4, x.fle.bt b h5, x.ne1, x.ne2⟩
theorem LA.pool (x : LA C h ks H p lm ev lw ls lt c la dg le dv dx vL aL sL tL vC aC sC tC) (b : Bt [p] H H') (hp : PoolAt H' p) : LA C h ks H' p lm ev lw ls lt c la dg le dv dx vL aL sL tL vC aC sC tC := by
  have n : ∀ {i a}, [p, lm, ev, lw, ls, lt, c, la, dg, le, dv][i]? = some a → i ≠ 0 → a ∉ [p] := fun hi h => no1 (nn_at x.N hi (j := 0) rfl h)
  exact ⟨x.N, hp, x.hm.bt b (n (i := 1) rfl (by decide)), x.he.bt b (n (i := 2) rfl (by decide)), x.hw.bt b (n (i := 3) rfl (by decide)), x.hs.bt b (fun _ m => by rw [List.mem_singleton.mp m]; simp [rts]) (n (i := 4) rfl (by decide)), x.ht.bt b (n (i := 5) rfl (by decide)),
    x.ct.bt b (n (i := 6) rfl (by decide)) (n (i := 10) rfl (by decide)) (n (i := 7) rfl (by decide)) (n (i := 8) rfl (by decide)) (n (i := 9) rfl (by decide))⟩
theorem LA.bt0 (x : LA C h ks H p lm ev lw ls lt c la dg le dv dx vL aL sL tL vC aC sC tC) (b : Bt [] H H') : LA C h ks H' p lm ev lw ls lt c la dg le dv dx vL aL sL tL vC aC sC tC :=
  x.pool b.nil (x.hp.bt b (fun z => nomatch z))
theorem LA.alloc (x : LA C h ks H p lm ev lw ls lt c la dg le dv dx vL aL sL tL vC aC sC tC) : ∀ a ∈ [p, lm, ev, lw, ls, lt, c, la, dg, le, dv], H a ≠ none := by
  intro a m
  have ns : ∀ {a : Addr} {o : HO}, H a = some o → H a ≠ none := fun e z => by rw [e] at z; cases z
  simp only [List.mem_cons, List.not_mem_nil, or_false] at m
  rcases m with e | e | e | e | e | e | e | e | e | e | e <;> subst e
  · obtain ⟨_, z, _⟩ := x.hp; exact ns z
  · obtain ⟨_, z, _⟩ := x.hm; exact ns z
  · obtain ⟨_, z, _⟩ := x.he; exact ns z
  · obtain ⟨_, z, _⟩ := x.hw; exact ns z
  · obtain ⟨_, z, _⟩ := x.hs; exact ns z
  · obtain ⟨_, z, _⟩ := x.ht; exact ns z
  · exact ns x.ct.fob
  · obtain ⟨_, z, _⟩ := x.ct.fla; exact ns z
  · obtain ⟨_, z, _⟩ := x.ct.fdg; exact ns z
  · obtain ⟨_, z, _⟩ := x.ct.fle; exact ns z
  · obtain ⟨_, z, _⟩ := x.ct.fdv; exact ns z
end
end K33


/-! K27: the law's heap through an event -/
namespace K33
open PySem L2
section
variable {C : Addr} {h : Int} {ks : List (List Key)} {H H' : Hp} {p lm ev lw ls lt c la dg le dv dx la' : Addr} {vL vL' : Vs} {aL aL' : List Ask} {sL sL' : Std} {tL tL' : Tr} {vC vC' : Vs} {aC aC' : List Ask} {sC sC' : Std} {tC tC' : Tr}
abbrev LAx (C : Addr) (h : Int) (ks : List (List Key)) (H : Hp) (p lm ev lw ls lt c la dg le dv dx : Addr) := LA C h ks H p lm ev lw ls lt c la dg le dv dx
theorem LA.wait (x : LA C h ks H p lm ev lw ls lt c la dg le dv dx vL aL sL tL vC aC sC tC) (b : Bt [lw] H H') (hw : LsAt H' lw (aL'.map askD)) : LA C h ks H' p lm ev lw ls lt c la dg le dv dx vL aL' sL tL vC aC sC tC := by
  have n : ∀ {i a}, [p, lm, ev, lw, ls, lt, c, la, dg, le, dv][i]? = some a → i ≠ 3 → a ∉ [lw] := fun hi h => no1 (nn_at x.N hi (j := 3) rfl h)
  exact ⟨x.N, x.hp.bt b (n (i := 0) rfl (by decide)), x.hm.bt b (n (i := 1) rfl (by decide)), x.he.bt b (n (i := 2) rfl (by decide)), hw, x.hs.bt b (fun _ m => by rw [List.mem_singleton.mp m]; simp [rts]) (n (i := 4) rfl (by decide)), x.ht.bt b (n (i := 5) rfl (by decide)),
    x.ct.bt b (n (i := 6) rfl (by decide)) (n (i := 10) rfl (by decide)) (n (i := 7) rfl (by decide)) (n (i := 8) rfl (by decide)) (n (i := 9) rfl (by decide))⟩
theorem LA.stand (x : LA C h ks H p lm ev lw ls lt c la dg le dv dx vL aL sL tL vC aC sC tC) (b : Bt [ls] H H') (hs : StL (rts p ev lw ls lt c la dg le dv) H' ls sL') : LA C h ks H' p lm ev lw ls lt c la dg le dv dx vL aL sL' tL vC aC sC tC := by
  have n : ∀ {i a}, [p, lm, ev, lw, ls, lt, c, la, dg, le, dv][i]? = some a → i ≠ 4 → a ∉ [ls] := fun hi h => no1 (nn_at x.N hi (j := 4) rfl h)
  exact ⟨x.N, x.hp.bt b (n (i := 0) rfl (by decide)), x.hm.bt b (n (i := 1) rfl (by decide)), x.he.bt b (n (i := 2) rfl (by decide)), x.hw.bt b (n (i := 3) rfl (by decide)), hs, x.ht.bt b (n (i := 5) rfl (by decide)),
    x.ct.bt b (n (i := 6) rfl (by decide)) (n (i := 10) rfl (by decide)) (n (i := 7) rfl (by decide)) (n (i := 8) rfl (by decide)) (n (i := 9) rfl (by decide))⟩
theorem LA.vals (x : LA C h ks H p lm ev lw ls lt c la dg le dv dx vL aL sL tL vC aC sC tC) (b : Bt [ev] H H') (he : DictAt H' ev vL') : LA C h ks H' p lm ev lw ls lt c la dg le dv dx vL' aL sL tL vC aC sC tC := by
  have n : ∀ {i a}, [p, lm, ev, lw, ls, lt, c, la, dg, le, dv][i]? = some a → i ≠ 2 → a ∉ [ev] := fun hi h => no1 (nn_at x.N hi (j := 2) rfl h)
  exact ⟨x.N, x.hp.bt b (n (i := 0) rfl (by decide)), x.hm.bt b (n (i := 1) rfl (by decide)), he, x.hw.bt b (n (i := 3) rfl (by decide)), x.hs.bt b (fun _ m => by rw [List.mem_singleton.mp m]; simp [rts]) (n (i := 4) rfl (by decide)), x.ht.bt b (n (i := 5) rfl (by decide)),
    x.ct.bt b (n (i := 6) rfl (by decide)) (n (i := 10) rfl (by decide)) (n (i := 7) rfl (by decide)) (n (i := 8) rfl (by decide)) (n (i := 9) rfl (by decide))⟩
theorem LA.trc (x : LA C h ks H p lm ev lw ls lt c la dg le dv dx vL aL sL tL vC aC sC tC) (b : Bt [lt] H H') (ht : LsAt H' lt (tL'.map trD)) : LA C h ks H' p lm ev lw ls lt c la dg le dv dx vL aL sL tL' vC aC sC tC := by
  have n : ∀ {i a}, [p, lm, ev, lw, ls, lt, c, la, dg, le, dv][i]? = some a → i ≠ 5 → a ∉ [lt] := fun hi h => no1 (nn_at x.N hi (j := 5) rfl h)
  exact ⟨x.N, x.hp.bt b (n (i := 0) rfl (by decide)), x.hm.bt b (n (i := 1) rfl (by decide)), x.he.bt b (n (i := 2) rfl (by decide)), x.hw.bt b (n (i := 3) rfl (by decide)), x.hs.bt b (fun _ m => by rw [List.mem_singleton.mp m]; simp [rts]) (n (i := 4) rfl (by decide)), ht,
    x.ct.bt b (n (i := 6) rfl (by decide)) (n (i := 10) rfl (by decide)) (n (i := 7) rfl (by decide)) (n (i := 8) rfl (by decide)) (n (i := 9) rfl (by decide))⟩
theorem LA.passed (x : LA C h ks H p lm ev lw ls lt c la dg le dv dx vL aL sL tL vC aC sC tC) (b : Bt [lw, ls, lt] H H') (hw : LsAt H' lw (aL'.map askD)) (hs : StL (rts p ev lw ls lt c la dg le dv) H' ls sL') (ht : LsAt H' lt (tL'.map trD)) :
    LA C h ks H' p lm ev lw ls lt c la dg le dv dx vL aL' sL' tL' vC aC sC tC := by
  have n : ∀ {i a}, [p, lm, ev, lw, ls, lt, c, la, dg, le, dv][i]? = some a → i ∉ [3, 4, 5] → a ∉ [lw, ls, lt] := fun hi h => nin_at x.N hi (js := [3, 4, 5]) rfl h
  exact ⟨x.N, x.hp.bt b (n (i := 0) rfl (by decide)), x.hm.bt b (n (i := 1) rfl (by decide)), x.he.bt b (n (i := 2) rfl (by decide)), hw, hs, ht,
    x.ct.bt b (n (i := 6) rfl (by decide)) (n (i := 10) rfl (by decide)) (n (i := 7) rfl (by decide)) (n (i := 8) rfl (by decide)) (n (i := 9) rfl (by decide))⟩
theorem LA.ctr (x : LA C h ks H p lm ev lw ls lt c la dg le dv dx vL aL sL tL vC aC sC tC) (b : Bt [c, la, dg, le, dv] H H') (n' : H la' = none) (ct : CtrAt C H' c dx dv la' dg le h vC' aC' sC' tC') : LA C h ks H' p lm ev lw ls lt c la' dg le dv dx vL aL sL tL vC' aC' sC' tC' := by
  have n : ∀ {i a}, [p, lm, ev, lw, ls, lt, c, la, dg, le, dv][i]? = some a → i ∉ [6, 7, 8, 9, 10] → a ∉ [c, la, dg, le, dv] := fun hi h => nin_at x.N hi (js := [6, 7, 8, 9, 10]) rfl h
  have al : ∀ a ∈ [p, lm, ev, lw, ls, lt, c, la, dg, le, dv], a ≠ la' := fun a m e => x.alloc a m (by rw [e]; exact n')
  have N' : [p, lm, ev, lw, ls, lt, c, la', dg, le, dv].Nodup := by
    have N := x.N
    have q1 := al p (by simp)
    have q2 := al lm (by simp)
    have q3 := al ev (by simp)
    have q4 := al lw (by simp)
    have q5 := al ls (by simp)
    have q6 := al lt (by simp)
    have q7 := al c (by simp)
    have q8 := (al dg (by simp)).symm
    have q9 := (al le (by simp)).symm
    have q10 := (al dv (by simp)).symm
    clear al n
    simp only [List.nodup_cons, List.mem_cons, List.not_mem_nil, or_false, not_or, List.nodup_nil, and_true, not_false_eq_true] at N ⊢
    obtain ⟨⟨a1, a2, a3, a4, a5, a6, a7, a8, a9, a10⟩, ⟨b1, b2, b3, b4, b5, b6, b7, b8, b9⟩, ⟨c1, c2, c3, c4, c5, c6, c7, c8⟩, ⟨d1, d2, d3, d4, d5, d6, d7⟩, ⟨e1, e2, e3, e4, e5, e6⟩, ⟨f1, f2, f3, f4, f5⟩, ⟨g1, g2, g3, g4⟩, ⟨h1, h2, h3⟩, ⟨i1, i2⟩, j1⟩ := N
    exact ⟨⟨a1, a2, a3, a4, a5, a6, q1, a8, a9, a10⟩, ⟨b1, b2, b3, b4, b5, q2, b7, b8, b9⟩, ⟨c1, c2, c3, c4, q3, c6, c7, c8⟩, ⟨d1, d2, d3, q4, d5, d6, d7⟩, ⟨e1, e2, q5, e4, e5, e6⟩, ⟨f1, q6, f3, f4, f5⟩, ⟨q7, g2, g3, g4⟩, ⟨q8, q9, q10⟩, ⟨i1, i2⟩, j1⟩
  refine ⟨N', x.hp.bt b (n (i := 0) rfl (by decide)), x.hm.bt b (n (i := 1) rfl (by decide)), x.he.bt b (n (i := 2) rfl (by decide)), x.hw.bt b (n (i := 3) rfl (by decide)), ?_, x.ht.bt b (n (i := 5) rfl (by decide)), ct⟩
  have s1 : StL (la' :: rts p ev lw ls lt c la dg le dv) H ls sL := x.hs.re fun a m => by
    rcases List.mem_cons.mp m with e | m
    · exact .inr (by rw [e]; exact n')
    · exact .inl m
  refine (s1.bt b (fun a m => ?_) (n (i := 4) rfl (by decide))).re fun a m => .inl ?_
  · simp only [List.mem_cons, List.not_mem_nil, or_false] at m
    rcases m with e | e | e | e | e <;> subst e <;> simp [rts]
  · simp only [rts, List.mem_cons, List.not_mem_nil, or_false] at m ⊢
    rcases m with e | e | e | e | e | e | e | e | e | e <;> simp [e]
theorem LA.rtsAlloc (x : LA C h ks H p lm ev lw ls lt c la dg le dv dx vL aL sL tL vC aC sC tC) : ∀ a ∈ rts p ev lw ls lt c la dg le dv, H a ≠ none := fun a m => x.alloc a (by
  simp only [rts, List.mem_cons, List.not_mem_nil, or_false] at m ⊢
  rcases m with e | e | e | e | e | e | e | e | e | e <;> simp [e])
end
theorem paired_erase {α β : Type} {r : α → β → Prop} : ∀ {xs : List α} {ys : List β} {j : Nat}, Paired r xs ys → Paired r (xs.eraseIdx j) (ys.eraseIdx j)
  | _, _, _, .nil => by simpa using Paired.nil
  | _, _, 0, .cons _ t => by simpa using t
  | _, _, j + 1, .cons a t => by simpa using Paired.cons a (paired_erase (j := j) t)
theorem told_dp {h : Int} {l : Std} (o : StdOk h l) : (PyData.tuple (l.map toldD)).depth ≤ 12 := by
  refine Nat.le_trans (depth_tuple (n := 10) fun d m => ?_) (by omega)
  obtain ⟨q, m1, e⟩ := List.mem_map.mp m
  rw [← e]
  refine depth_tuple (n := 9) fun d m => ?_
  rcases List.mem_cons.mp m with e | m
  · rw [e, kD_depth]; omega
  · rw [List.mem_singleton.mp m]
    refine depth_tuple (n := 8) fun d m => ?_
    obtain ⟨g, m2, e⟩ := List.mem_map.mp m
    rw [← e]
    exact (o.gr q m1 g m2).dp
theorem pass_told {h : Int} {vals : Vs} {asks : List Ask} {st : Std} {tr : Tr} (v : StOk h vals asks st tr) : StdOk h (pass vals asks st tr).told :=
  (fold_ok (l := asks) (p := ⟨[], st, tr, []⟩) v.po ⟨(fun _ m => nomatch m), v.so, v.to, ⟨(fun _ m => nomatch m), (fun _ m => nomatch m), (fun _ m => nomatch m)⟩⟩ v.ao).told
def spEx (f : List Addr → Sp) : Sp := fun vs H Q E => ∃ R, f R vs H Q E
theorem fn_ex {P : Program} {w : World} {K : PySem.W.Frag} {mg : Str → Option Value} {base : Heap} {CX : CXT} {k : Nat} {f : Addr} {fd : FuncData} {ps : List Str} {sp : List Addr → Sp} (h : ∀ R, FnOk P w K mg base CX k f fd ps (sp R)) : FnOk P w K mg base CX k f fd ps (spEx sp) :=
  ⟨fun vs H Q E ⟨R, z⟩ => (h R).len vs H Q E z, fun A outer s H args us vs Q E hr e0 hb r ⟨R, z⟩ => (h R).run A outer s H args us vs Q E hr e0 hb r z⟩
theorem ix_nat {n j : Nat} (h : j < n) : seqIndex? (j : Int) n = some j := by
  have e : ixN n (j : Int) = some j := by
    unfold ixN
    rw [if_pos (by omega), if_pos (by omega)]
    rfl
  exact (ixN_seq e).1
end K33

/-! K28: the law -/
namespace K33
open PySem L2
section
variable {P : Program} {w : World} {K : PySem.W.Frag} {mg : Str → Option Value} {base : Heap} {C : Addr}
theorem kbn_init {f : Addr} {fd : FuncData} (F : Fun K "__init__" "Counter.__init__" s_Counter___init__ f fd) : KBn K fd ["self", "house", "start"] 2 ["start"] (fun us ws => us ++ ws) (fun vs zs => vs ++ zs) := by
  obtain ⟨oc, od, kV, doc, pm, an, cdv, ct, osl, rfl, lk, hcd⟩ := F.ex
  exact ⟨fun s us ws X l1 l2 => match us, ws, l1, l2 with | [a, b], [c], _, _ => .of_eq rfl, fun r1 r2 => r1.append r2⟩
def spLaw (K : PySem.W.Frag) : Sp := fun vs H Q _ => ∃ (a : Addr) (ns : List Int), vs = [.ref a] ∧ SqL K H a (ns.map V.int) ∧ ns.length ≤ 63 ∧ ∀ H', Q (.bl true) H'
abbrev s_law : Stmt := top 58
theorem sc_law : FnScope ["_law_script", "_law_pool_here", "_law_house", "_law_start_here", "_law_menu_here", "_law_k", "_law_values_here", "_law_counter", "_law_step", "_law_waiting", "_law_standing", "_law_trace", "_law_mine", "_law_due", "_law_key", "_law_requests_here", "_law_told", "_law_ended", "_law_writes_here", "_law_pair"] ["_law_script"] (defScope s_law) := ⟨rfl, rfl, rfl, by decide +kernel, rfl, by decide +kernel, by decide +kernel⟩
theorem ok_law {f : Addr} {fd : FuncData} (F : Fun K "law" "law" s_law f fd) (T : Blt mg) (TC : CFx K C) {fI : Addr} {fdI : FuncData} (MkC : Mk K C fI) (hCounter : mg "Counter" = some (.ref C)) (F_init : FnOk P w K mg base CX0 2 fI fdI ["self", "house", "start"] (spInit K C))
    (KBi : KBn K fdI ["self", "house", "start"] 2 ["start"] (fun us ws => us ++ ws) (fun vs zs => vs ++ zs)) (C_law_pool : Cal P w K mg base "_law_pool" 1 (spPool K)) (C_law_draw : Cal P w K mg base "_law_draw" 1 spDraw) (C_law_menu : Cal P w K mg base "_law_menu" 3 spMenu)
    (C_law_start : Cal P w K mg base "_law_start" 3 spStart) (C_law_values : Cal P w K mg base "_law_values" 1 (spValues K)) (C_law_requests : Cal P w K mg base "_law_requests" 3 spRequests) (C_law_id : Cal P w K mg base "_law_id" 1 spId) (C_law_writes : Cal P w K mg base "_law_writes" 3 (spEx spWrites))
    (C_law_carried : Cal P w K mg base "_law_carried" 1 spCarry) (C_law_pass : Cal P w K mg base "_law_pass" 3 (spEx spPass)) (C_law_same : Cal P w K mg base "_law_same" 13 (spSame 12)) (C_law_alike : Cal P w K mg base "_law_alike" 14 (spEx (spAlike C))) (C_law_all_alike : Cal P w K mg base "_law_all_alike" 14 (spAllAlike C))
    (M_ask : Mtd P w K mg base C "ask" 11 (spAsk C)) (M_end : Mtd P w K mg base C "end" 11 (spEnd C)) : FnOk P w K mg base CX0 15 f fd ["_law_script"] (spLaw K) := by
  refine F.ok sc_law (fun vs H Q E h => ?_) (fun cdv A outer s H vs Q E hr h => ?_)
  · obtain ⟨_, _, rfl, _⟩ := h
    rfl
  · obtain ⟨a, ns, rfl, hS, nl, q⟩ := h
    refine ⟨_, ((pss_cons (ps_set (i := 1) sc_law.nd rfl (Or.inl rfl) (pe_cc C_law_pool hr (by decide) (by rfl) (pa_cons (pv 0) (pa_cons pe_int pa_nil))))
  (pss_cons (ps_set (i := 2) sc_law.nd rfl (Or.inr rfl) (pe_op op_add pe_int (pe_cc C_law_draw hr (by decide) (by rfl) (pa_cons (pv 1) (pa_cons pe_int pa_nil)))))
  (pss_cons (ps_set (i := 3) sc_law.nd rfl (Or.inl rfl) (pe_lst pa_nil))
  (pss_cons (ps_set (i := 4) sc_law.nd rfl (Or.inl rfl) (pe_lst pa_nil))
  (pss_cons (ps_for PassesOwn.never rfl (pi_range2 (by rfl) T.range (pa_cons pe_int (pa_cons pe_int pa_nil))) (pg_name (i := 5) sc_law.nd rfl (Or.inl rfl))
  (pss_cons (ps_set (i := 12) sc_law.nd rfl (Or.inl rfl) (pe_cc C_law_menu hr (by decide) (by rfl) (pa_cons (pv 1) (pa_cons (pv 5) pa_nil))))
  (pss_cons (ps_set (i := 3) sc_law.nd rfl (Or.inl rfl) (pe_op op_cat (pv 3) (pe_callTy call_list_of (by rfl) T.list B_list (pa_cons (pe_cc C_law_start hr (by decide) (by rfl) (pa_cons (pv 1) (pa_cons (pv 12) pa_nil))) pa_nil))))
  (pss_one (ps_if (pt_cmpR op_eq (pv 5) (pv 2) (nomark _)) (pss_one (ps_set (i := 4) sc_law.nd rfl (Or.inl rfl) (pv 12))) pss_nil)))))
  (pss_cons (ps_set (i := 6) sc_law.nd rfl (Or.inl rfl) (pe_cc C_law_values hr (by decide) (by rfl) (pa_cons (pe_lc (own := [("_law_pair", 19)]) (g := gName 19)  rfl sc_law.nd (pi_list (pv 3)) (blkOk_by (own := [("_law_pair", 19)]) (N := ["_law_script", "_law_pool_here", "_law_house", "_law_start_here", "_law_menu_here", "_law_k", "_law_values_here", "_law_counter", "_law_step", "_law_waiting", "_law_standing", "_law_trace", "_law_mine", "_law_due", "_law_key", "_law_requests_here", "_law_told", "_law_ended", "_law_writes_here", "_law_pair"]) (sc := defScope s_law) (by decide +kernel)) (fun _ _ _ _ _ => (pg_name (i := 19) sc_law.nd rfl (Or.inl rfl))) (fun _ _ _ _ _ => pts_one (pt_cmpR op_eq (pe_ix (ix_tupK (K := K) rfl) (pe_ix (ix_tupK (K := K) rfl) (pv 19) pe_int (fun _ _ => rfl)) pe_int (fun _ _ => rfl)) (pv 2) (nomark _))) (fun _ _ _ _ _ => (pv 19))) pa_nil)))
  (pss_cons (ps_set (i := 7) sc_law.nd rfl (Or.inl rfl) (pe_makeK MkC F_init (hr.mono (by decide)) (by rfl) hCounter KBi pass0 (pa_cons (pv 2) pa_nil) (pk_cons (pe_ix (ix_listK (K := K) rfl) (pe_lst (pa_cons (pv 3) (pa_cons (pe_callTy call_tuple_of (by rfl) T.tuple B_tuple (pa_cons (pv 3) pa_nil)) pa_nil))) (pe_cc C_law_draw hr (by decide) (by rfl) (pa_cons (pv 1) (pa_cons pe_int pa_nil))) (fun _ _ => rfl)) pk_nil)))
  (pss_cons (ps_expr (pe_bm0 PySem.F.plainAttrs_list PySem.F.slot_list_clear PySem.F.type_list_clear mt_clear (pv 3)))
  (pss_cons (ps_set (i := 8) sc_law.nd rfl (Or.inl rfl) (pe_cc C_law_draw hr (by decide) (by rfl) (pa_cons (pv 1) (pa_cons pe_int pa_nil))))
  (pss_cons (ps_set (i := 9) sc_law.nd rfl (Or.inl rfl) (pe_lst pa_nil))
  (pss_cons (ps_set (i := 10) sc_law.nd rfl (Or.inl rfl) (pe_lst pa_nil))
  (pss_cons (ps_set (i := 11) sc_law.nd rfl (Or.inl rfl) (pe_lst pa_nil))
  (pss_cons (ps_for PassesOwn.never rfl (pi_range1 (by rfl) T.range (pa_cons (pe_cc C_law_draw hr (by decide) (by rfl) (pa_cons (pv 1) (pa_cons pe_int pa_nil))) pa_nil)) (pg_name (i := 5) sc_law.nd rfl (Or.inl rfl))
  (pss_cons (ps_if (PW.pt (pw_or (pt_cmpR op_lt (pe_cc C_law_draw hr (by decide) (by rfl) (pa_cons (pv 1) (pa_cons pe_int pa_nil))) pe_int (nomark _)) (pw_or1 (pt_cmpR op_eq (pe_callB call_len_seq (by rfl) T.len B_len (pa_cons (pv 10) pa_nil)) pe_int (nomark _))))) (pss_cons (ps_set (i := 15) sc_law.nd rfl (Or.inl rfl) (pe_cc C_law_requests hr (by decide) (by rfl) (pa_cons (pv 1) (pa_cons (pv 4) (pa_cons (pv 6) pa_nil)))))
  (pss_cons (ps_expr (pe_bm PySem.F.plainAttrs_list PySem.F.slot_list_append PySem.F.type_list_append mt_append (pv 9) (pa_cons (pe_tup (pa_cons (pe_cc C_law_id hr (by decide) (by rfl) (pa_cons (pv 8) (pa_cons (pv 5) pa_nil))) (pa_cons (pv 15) pa_nil))) pa_nil)))
  (pss_one (ps_set (i := 16) sc_law.nd rfl (Or.inl rfl) (pe_mc M_ask TC.cl hr (by decide) (pv 7) (pa_cons (pe_cc C_law_id hr (by decide) (by rfl) (pa_cons (pv 8) (pa_cons (pv 5) pa_nil))) (pa_cons (pv 15) pa_nil))))))) (pss_cons (ps_set (i := 17) sc_law.nd rfl (Or.inl rfl) (pe_bm PySem.F.plainAttrs_list PySem.F.slot_list_pop PySem.F.type_list_pop mt_popAt (pv 10) (pa_cons (pe_cc C_law_draw hr (by decide) (by rfl) (pa_cons (pv 1) (pa_cons (pe_callB call_len_seq (by rfl) T.len B_len (pa_cons (pv 10) pa_nil)) pa_nil))) pa_nil)))
  (pss_cons (ps_set (i := 18) sc_law.nd rfl (Or.inl rfl) (pe_cc C_law_writes hr (by decide) (by rfl) (pa_cons (pv 1) (pa_cons (pv 17) pa_nil))))
  (pss_cons (ps_expr (pe_cc C_law_carried hr (by decide) (by rfl) (pa_cons (pv 6) (pa_cons (pv 18) pa_nil))))
  (pss_cons (ps_expr (pe_bm PySem.F.plainAttrs_list PySem.F.slot_list_append PySem.F.type_list_append mt_append (pv 11) (pa_cons (pe_tup (pa_cons pe_str (pa_cons (pe_ix (ix_tupK (K := K) rfl) (pv 17) pe_int (fun _ _ => rfl)) pa_nil))) pa_nil)))
  (pss_one (ps_set (i := 16) sc_law.nd rfl (Or.inl rfl) (pe_mc M_end TC.cl hr (by decide) (pv 7) (pa_cons (pe_ix (ix_tupK (K := K) rfl) (pv 17) pe_int (fun _ _ => rfl)) (pa_cons (pv 18) pa_nil))))))))))
  (pss_cons (ps_set (i := 13) sc_law.nd rfl (Or.inl rfl) (pe_cc C_law_pass hr (by decide) (by rfl) (pa_cons (pv 6) (pa_cons (pv 9) (pa_cons (pv 10) (pa_cons (pv 11) pa_nil))))))
  (pss_cons (ps_set (i := 14) sc_law.nd rfl (Or.inl rfl) (pe_ix (ix_listK (K := K) rfl) (pv 4) (pe_cc C_law_draw hr (by decide) (by rfl) (pa_cons (pv 1) (pa_cons (pe_callB call_len_seq (by rfl) T.len B_len (pa_cons (pv 4) pa_nil)) pa_nil))) (fun _ _ => rfl)))
  (pss_cons (ps_if (PW.pt (pw_or (pt_not (pt_val (pe_cc C_law_same hr (by decide) (by rfl) (pa_cons (pv 16) (pa_cons (pv 13) pa_nil))))) (pw_or1 (pt_not (pt_val (pe_cc C_law_alike hr (by decide) (by rfl) (pa_cons (pv 7) (pa_cons (pv 6) (pa_cons (pv 9) (pa_cons (pv 10) (pa_cons (pv 14) pa_nil))))))))))) (pss_one (ps_ret pe_bl)) pss_nil)
  (pss_one (ps_if (PW.pt (pw_and (pt_cmpR op_eq (pe_cc C_law_draw hr (by decide) (by rfl) (pa_cons (pv 1) (pa_cons pe_int pa_nil))) pe_int (nomark _)) (pw_and1 (pt_not (pt_val (pe_cc C_law_all_alike hr (by decide) (by rfl) (pa_cons (pv 7) (pa_cons (pv 6) (pa_cons (pv 4) (pa_cons (pv 11) pa_nil)))))))))) (pss_one (ps_ret pe_bl)) pss_nil)))))))
  (pss_one (ps_ret (pe_cc C_law_all_alike hr (by decide) (by rfl) (pa_cons (pv 7) (pa_cons (pv 6) (pa_cons (pv 4) (pa_cons (pv 11) pa_nil))))))))))))))))))))), ?_⟩
    refine ⟨_, rfl, a, ns, rfl, hS, nl, fun p H1 np b1 hp1 => ?_⟩
    clear b1 np hS
    refine ⟨_, rfl, p, 5, rfl, hp1, by decide, fun d0 H2 d00 d01 b2 hp2 => ?_⟩
    refine ⟨_, _, rfl, rfl, ?_⟩
    have hh1 : 1 ≤ 1 + d0 := by omega
    have hh5 : 1 + d0 ≤ 5 := by omega
    refine ⟨by show 0 ≤ sizeLine; decide, fun l0 nl0 => ?_⟩
    generalize e3 : upd _ l0 _ = H3
    obtain ⟨S3, h3⟩ := new_of e3 nl0
    clear e3
    have np0 : p ≠ l0 := hp2.nen nl0
    have hp3 := hp2.bt S3 (fun z => nomatch z)
    refine ⟨by show 0 ≤ sizeLine; decide, fun lm0 nlm0 => ?_⟩
    generalize e4 : upd _ lm0 _ = H4
    obtain ⟨S4, h4⟩ := new_of e4 nlm0
    clear e4
    have hp4 := hp3.bt S4 (fun z => nomatch z)
    have h34 := S4.at h3
    clear hp1 b2 hp2 S3 h3 nl0 hp3 S4 h4 nlm0
    refine ⟨1, 6, rfl, ⟨by decide, by decide, by decide, by decide⟩, ?_⟩
    refine for_range (n := ((6 : Int) - 1).toNat) (fun i σ H5 => ∃ (ls0 lm : Addr) (xs : List V) (ps : Wrs) (u5 u12 : Option V), σ = [some (.ref a), some (.ref p), some (.int (1 + d0)), some (.ref ls0), some (.ref lm), u5, none, none, none, none, none, none, u12, none, none, none, none, none, none, none] ∧
        PoolAt H5 p ∧ p ≠ ls0 ∧ H5 ls0 = some (.lst xs) ∧ TdA H5 xs (ps.map wrD) ∧ ps.length ≤ 100 * i ∧ (∀ y ∈ ps, ∃ h' : Int, 1 ≤ h' ∧ h' ≤ (i : Int) ∧ PrOk h' y) ∧
        ((1 + d0) ≤ (i : Int) → p ≠ lm ∧ lm ≠ ls0 ∧ ∃ ks, Menu (1 + d0) ks ∧ LsAt H5 lm (ks.map kD) ∧ ∀ y ∈ ps, hdI y.1 = 1 + d0 → y.1 ∈ ks))
      ⟨l0, lm0, [], [], none, none, rfl, hp4, np0, h34, .nil, Nat.le_refl _, (fun _ m => nomatch m), fun z => by omega⟩ ?_ ?_
    · rintro i σ H5 hi ⟨ls0, lm, xs, ps, u5, u12, rfl, hp5, npl, hl0, txs, pl, pok, hmen⟩
      have hi5 : i < 5 := hi
      refine ⟨_, rfl, _, rfl, p, (1 : Int) + (i : Nat), rfl, hp5, by omega, by omega, fun lmi ksi H6 nli b6 hp6 mni hli => ?_⟩
      have npi : p ≠ lmi := hp5.nen nli
      have nli0 : lmi ≠ ls0 := (ne_of_none hl0 nli).symm
      have hl06 := b6.at1 npl.symm hl0
      refine ⟨_, rfl, _, rfl, _, rfl, p, lmi, (1 : Int) + (i : Nat), ksi, rfl, hp6, npi, mni, hli, fun v psi H7 b7 hp7 tv pok7 pin pl7 => ?_⟩
      obtain ⟨tv0, tys, rfl, htv, ttv⟩ := Td.tup_inv tv
      have hl07 := b7.at1 npl.symm hl06
      refine ⟨tv0, tys, rfl, .inr (.inl (.inl htv)), fun l8 nl8 => ?_⟩
      generalize e8 : upd _ l8 _ = H8
      obtain ⟨S8, h8⟩ := new_of e8 nl8
      clear e8
      have xl : xs.length = ps.length := by rw [txs.len, List.length_map]
      have tl : tys.length = psi.length := by rw [ttv.len, List.length_map]
      refine ⟨ls0, l8, xs, tys, rfl, rfl, S8.at hl07, h8, sz_le (by omega), fun l9 nl9 => ?_⟩
      generalize e9 : upd _ l9 _ = H9
      obtain ⟨S9, h9⟩ := new_of e9 nl9
      clear e9
      have b59 : Bt [p] H5 H9 := (b6.trans b7).trans (S8.trans S9).nil
      have hp8 := hp7.bt S8 (fun z => nomatch z)
      have hp9 := hp8.bt S9 (fun z => nomatch z)
      have np9 : p ≠ l9 := hp8.nen nl9
      have tx9 : TdA H9 (xs ++ tys) ((ps ++ psi).map wrD) := by
        rw [List.map_append]
        exact (txs.bt b59).app ((ttv.bt S8).bt S9)
      have pall : ∀ y ∈ ps ++ psi, ∃ h' : Int, 1 ≤ h' ∧ h' ≤ ((i + 1 : Nat) : Int) ∧ PrOk h' y := fun y m => by
        rcases List.mem_append.mp m with m | m
        · obtain ⟨h', a1, a2, a3⟩ := pok y m
          exact ⟨h', a1, by omega, a3⟩
        · exact ⟨1 + (i : Nat), by omega, by omega, pok7 y m⟩
      have plen : (ps ++ psi).length ≤ 100 * (i + 1) := by rw [List.length_append]; omega
      have hl9 := b59.at1 np9.symm (o := .lst xs) |> fun _ => h9
      refine ⟨_, rfl, _, rfl, rfl, _, rfl, iteD2 (fun z => ?_) (fun z => ?_)⟩
      · have ei : (1 : Int) + (i : Nat) = 1 + d0 := V.int.inj z
        refine ⟨_, rfl, ?_⟩
        refine ⟨l9, lmi, _, ps ++ psi, _, _, rfl, hp9, np9, h9, tx9, plen, pall, fun _ => ⟨npi, ?_, ksi, ?_, ?_, fun y m e => ?_⟩⟩
        · obtain ⟨_, z1, _⟩ := hli
          exact ne_of_none (S8.at (b7.at1 npi.symm z1)) nl9
        · rw [← ei]; exact mni
        · exact hli.bt (b7.trans (S8.trans S9).nil) (no1 npi.symm)
        · rcases List.mem_append.mp m with m | m
          · obtain ⟨h', a1, a2, a3⟩ := pok y m
            have := a3.key.hdI
            omega
          · exact pin y m
      · have ei : (1 : Int) + (i : Nat) ≠ 1 + d0 := fun e => z (by rw [e])
        refine ⟨l9, lm, _, ps ++ psi, _, _, rfl, hp9, np9, h9, tx9, plen, pall, fun le => ?_⟩
        have le' : 1 + d0 ≤ (i : Int) := by omega
        obtain ⟨n1, n2, ks, mn, hm, hin⟩ := hmen le'
        refine ⟨n1, ?_, ks, mn, hm.bt b59 (no1 n1.symm), fun y m e => ?_⟩
        · obtain ⟨_, z1, _⟩ := hm.bt ((b6.trans b7).trans S8.nil) (no1 n1.symm)
          exact ne_of_none z1 nl9
        · rcases List.mem_append.mp m with m | m
          · exact hin y m e
          · have := (pok7 y m).key.hdI
            omega
    · rintro σ H5 ⟨ls0, lm, xs, ps, u5, u12, rfl, hp5, npl, hl0, txs, pl, pok, hmen⟩
      have pl : ps.length ≤ 500 := pl
      have pok : ∀ y ∈ ps, ∃ h' : Int, PrOk h' y := fun y m => by
        obtain ⟨h', _, _, a3⟩ := pok y m
        exact ⟨h', a3⟩
      obtain ⟨npm, nml, ks, mn, hm, hin⟩ := hmen (by show 1 + d0 ≤ ((5 : Nat) : Int); omega)
      have xl : xs.length = ps.length := by rw [txs.len, List.length_map]
      generalize ehh : 1 + d0 = hh at *
      clear hmen d00 d01
      -- the house's own
      refine ⟨_, rfl, ls0, rfl, ⟨xs, .inl (.inl hl0)⟩, fun D nD => ?_⟩
      refine lcD (walk_list (K := K) (xs := xs)) nD (fun H b => b.sqL (.inl (.inl hl0))) (by omega) (fun i => ((ps.take i).filter fun y => decide (hdI y.1 = hh)).map wrD) rfl ?_ ?_
      · intro i x H6 hx b6 N1 N2 k1 k2
        obtain ⟨dd, e6, td6⟩ := (txs.bt b6).get' hx
        rw [List.getElem?_map] at e6
        cases ey : ps[i]? with
        | none => rw [ey] at e6; cases e6
        | some y =>
        rw [ey] at e6
        cases e6
        have td0 := td6
        obtain ⟨tb, ys, rfl, hb, tys⟩ := Td.tup_inv td6
        obtain ⟨w1, r1, rfl, tw1, tys⟩ := tys.cons_inv
        obtain ⟨kb, rfl, hkb, _⟩ := key_td tw1
        obtain ⟨h', pk'⟩ := pok y (List.mem_of_getElem? ey)
        have hhd : hdI y.1 = h' := pk'.key.hdI
        have egx : (y.1.map kV)[0]? = some (.int h') := by
          obtain ⟨n, r, e, _⟩ := pk'.key
          rw [e]
          rfl
        refine ⟨rfl, ?_⟩
        refine ⟨_, rfl, tb, _, _, _, rfl, rfl, .inl (.inl hb), atI_nat (j := 0) rfl, ?_⟩
        refine ⟨kb, _, _, _, rfl, rfl, .inl (.inl hkb), atI_nat (j := 0) egx, ?_⟩
        refine ⟨_, rfl, rfl, _, rfl, ?_⟩
        have et := ft_take (fun y : List Key × PyData => decide (hdI y.1 = hh)) wrD ey
        refine iteD2 (fun z => ?_) (fun z => ?_)
        · have e : hdI y.1 = hh := hhd.trans (V.int.inj z)
          refine ⟨_, rfl, k1 _ H6 _ Bt.refl td0 ?_⟩
          show ((ps.take (i + 1)).filter fun y => decide (hdI y.1 = hh)).map wrD = _
          rw [et, if_pos (decide_eq_true e)]
        · have e : ¬ hdI y.1 = hh := fun e => z (by rw [← hhd, e])
          refine k2 H6 Bt.refl ?_
          show ((ps.take (i + 1)).filter fun y => decide (hdI y.1 = hh)).map wrD = _
          rw [et, if_neg (by rw [decide_eq_false e]; exact Bool.false_ne_true), List.append_nil]
      intro H6 zs b6 hD tz
      rw [xl, List.take_length] at tz
      refine ⟨D, zs, hh, _, rfl, hD, tz, fun y m => ?_, Nat.le_trans (List.length_filter_le _ _) (by omega), fun ev H7 nev b7 hev => ?_⟩
      · obtain ⟨m1, m2⟩ := List.mem_filter.mp m
        obtain ⟨h', pk'⟩ := pok y m1
        have : h' = hh := pk'.key.hdI.symm.trans (of_decide_eq_true m2)
        rw [← this]
        exact pk'.key
      have esv : startV hh (ps.filter fun y => decide (hdI y.1 = hh)) = startV hh ps := start_flt
      rw [esv] at hev
      have b57 := b6.trans b7
      have hp7 := hp5.bt b57 (fun z => nomatch z)
      have hl7 := b57.at hl0
      have hm7 := hm.bt b57 (fun z => nomatch z)
      have tx7 := txs.bt b57
      have npe : p ≠ ev := (hp5.bt b6 (fun z => nomatch z)).nen nev
      have nme : lm ≠ ev := by
        obtain ⟨_, z, _⟩ := hm.bt b6 (fun z => nomatch z)
        exact ne_of_none z nev
      have nle : ls0 ≠ ev := ne_of_none (b6.at hl0) nev
      clear b57 hl0 hm txs hp5 tz hD b6 nD b7 nev
      -- the counter
      refine ⟨_, rfl, ?_⟩
      refine ⟨_, rfl, _, rfl, ls0, xs, rfl, .inl ⟨.inl (.inl hl7), fun ts nts => ?_⟩⟩
      generalize e8 : upd _ ts _ = H8
      obtain ⟨S8, h8⟩ := new_of e8 nts
      clear e8
      refine ⟨by show 2 ≤ sizeLine; decide, fun l9 nl9 => ?_⟩
      generalize e9 : upd _ l9 _ = H9
      obtain ⟨S9, h9⟩ := new_of e9 nl9
      clear e9
      have b79 := S8.trans S9
      have hp9 := hp7.bt b79 (fun z => nomatch z)
      have np9 : p ≠ l9 := (hp7.bt S8 (fun z => nomatch z)).nen nl9
      refine ⟨_, rfl, p, 2, rfl, hp9, by decide, fun d H10 d0' d1' b10 hp10 => ?_⟩
      obtain ⟨u, hu2, eu⟩ := two_of (a := .ref ls0) (b := .ref ts) (j := d) (by omega)
      refine ⟨l9, _, _, _, rfl, rfl, .inl (.inl (b10.at1 np9.symm h9)), hu2, ?_⟩
      have b710 : Bt [p] H7 H10 := b79.nil.trans b10
      have hl10 := b710.at1 npl.symm hl7
      have ht10 : H10 ts = some (.tup xs) := b10.tup _ _ (S9.tup _ _ h8)
      have hm10 := hm7.bt b710 (no1 npm.symm)
      have he10 := hev.bt b710 (no1 npe.symm)
      have tx10 := tx7.bt b710
      refine ⟨rfl, rfl, fun c dx nc ndx ncd => ?_⟩
      obtain ⟨S11, h11⟩ := new_of (rfl : upd H10 dx (.own c) = _) ndx
      have nc11 : upd H10 dx (.own c) c = none := by rw [upd_ne ncd.symm]; exact nc
      generalize upd H10 dx (.own c) = H11 at S11 h11 nc11
      generalize e12 : upd H11 c _ = H12
      obtain ⟨S12, h12⟩ := new_of e12 nc11
      clear e12
      have b1012 := S11.trans S12
      obtain ⟨sa, rfl, hsa⟩ : ∃ sa : Addr, u = .ref sa ∧ (H10 sa = some (.lst xs) ∨ H10 sa = some (.tup xs)) := by
        rcases eu with e | e
        · exact ⟨ls0, e, .inl hl10⟩
        · exact ⟨ts, e, .inr ht10⟩
      refine ⟨c, dx, sa, hh, xs, ps, rfl, h12, hh1, hh5, ?_, tx10.bt b1012, fun y m => ?_, by omega, fun H13 dv la dg le n1 n2 n3 n4 b13 ct => ⟨rfl, ?_⟩⟩
      · rcases hsa with e | e
        · exact .inl (b1012.at e)
        · exact .inr (b1012.at e)
      · obtain ⟨h', pk'⟩ := pok y m
        exact ⟨h', pk'.key⟩
      have b1013 : Bt [] H10 H13 := (b1012.nil.trans b13).dropN nc
      have hp12 := hp10.bt b1012 (fun z => nomatch z)
      have hp13 := hp10.bt b1013 (fun z => nomatch z)
      have hl12 := b1012.at hl10
      have hl13 := b1013.at hl10
      have hm12 := hm10.bt b1012 (fun z => nomatch z)
      have hm13 := hm10.bt b1013 (fun z => nomatch z)
      have he12 := he10.bt b1012 (fun z => nomatch z)
      have he13 := he10.bt b1013 (fun z => nomatch z)
      obtain ⟨mvs, hmk, _⟩ := _root_.id hm12
      obtain ⟨evs, hek, _⟩ := _root_.id he12
      have f1 : p ≠ la := hp12.nen n2
      have f2 : p ≠ le := hp12.nen n4
      have f3 : lm ≠ la := ne_of_none hmk n2
      have f4 : lm ≠ le := ne_of_none hmk n4
      have f5 : ev ≠ dg := ne_of_none hek n3
      have f6 : ev ≠ dv := ne_of_none hek n1
      have g1 : ls0 ≠ la := ne_of_none hl12 n2
      have g2 : ls0 ≠ le := ne_of_none hl12 n4
      have g3 : ls0 ≠ dg := ne_of_none hl12 n3
      have g4 : ls0 ≠ dv := ne_of_none hl12 n1
      have g5 : ls0 ≠ c := (ne_of ct.fob hl13 (by intro z; cases z)).symm
      -- start.clear
      refine ⟨_, rfl, .inl ⟨rfl, _, .inl (.inl hl13)⟩, ?_⟩
      refine ⟨ls0, _, rfl, rfl, hl13, ?_⟩
      generalize e14 : upd _ ls0 _ = H14
      obtain ⟨S14, h14⟩ := mut_of e14 hl13 trivial
      clear e14
      have ct14 := ct.bt S14 (no1 g5.symm) (no1 g4.symm) (no1 g1.symm) (no1 g3.symm) (no1 g2.symm)
      have hp14 := hp13.bt S14 (no1 npl)
      have hm14 := hm13.bt S14 (no1 nml)
      have he14 := he13.bt S14 (no1 nle.symm)
      refine ⟨_, rfl, p, 2520, rfl, hp14, by decide, fun stp H15 st0 st1 b15 hp15 => ?_⟩
      have cp : p ≠ c := hp14.ne ct14.fob (fun _ z => nomatch z)
      obtain ⟨_, kdv, _⟩ := _root_.id ct14.fdv
      obtain ⟨_, kdg, _⟩ := _root_.id ct14.fdg
      have f7 : p ≠ dv := hp14.ne kdv (fun _ z => nomatch z)
      have f8 : p ≠ dg := hp14.ne kdg (fun _ z => nomatch z)
      have ct15 := ct14.bt b15 (no1 cp.symm) (no1 f7.symm) (no1 f1.symm) (no1 f8.symm) (no1 f2.symm)
      have hm15 := hm14.bt b15 (no1 npm.symm)
      have he15 := he14.bt b15 (no1 npe.symm)
      refine ⟨by show 0 ≤ sizeLine; decide, fun lw nlw => ?_⟩
      generalize e16 : upd _ lw _ = H16
      obtain ⟨S16, h16⟩ := new_of e16 nlw
      clear e16
      refine ⟨by show 0 ≤ sizeLine; decide, fun ls nls => ?_⟩
      generalize e17 : upd _ ls _ = H17
      obtain ⟨S17, h17⟩ := new_of e17 nls
      clear e17
      refine ⟨by show 0 ≤ sizeLine; decide, fun lt nlt => ?_⟩
      generalize e18 : upd _ lt _ = H18
      obtain ⟨S18, h18⟩ := new_of e18 nlt
      clear e18
      have b1518 := (S16.trans S17).trans S18
      have nls' : H15 ls = none := fresh_back S16 (fun _ m => nomatch m) nls
      have nlt' : H15 lt = none := fresh_back (S16.trans S17) (fun _ m => nomatch m) nlt
      obtain ⟨pvs, kp, _⟩ := _root_.id hp15
      obtain ⟨_, km, _⟩ := _root_.id hm15
      obtain ⟨_, ke, _⟩ := _root_.id he15
      obtain ⟨_, kla, _⟩ := _root_.id ct15.fla
      obtain ⟨_, kle, _⟩ := _root_.id ct15.fle
      obtain ⟨_, kdv, _⟩ := _root_.id ct15.fdv
      obtain ⟨_, kdg, _⟩ := _root_.id ct15.fdg
      have kc := ct15.fob
      have klw := (S17.trans S18).at h16
      have kls := S18.at h17
      have N : [p, lm, ev, lw, ls, lt, c, la, dg, le, dv].Nodup := by
        have w1 := ne_of_none kp nlw
        have w2 := ne_of_none km nlw
        have w3 := ne_of_none ke nlw
        have w4 := (ne_of_none kc nlw).symm
        have w5 := (ne_of_none kla nlw).symm
        have w6 := (ne_of_none kdg nlw).symm
        have w7 := (ne_of_none kle nlw).symm
        have w8 := (ne_of_none kdv nlw).symm
        have s1 := ne_of_none kp nls'
        have s2 := ne_of_none km nls'
        have s3 := ne_of_none ke nls'
        have s4 := (ne_of_none kc nls').symm
        have s5 := (ne_of_none kla nls').symm
        have s6 := (ne_of_none kdg nls').symm
        have s7 := (ne_of_none kle nls').symm
        have s8 := (ne_of_none kdv nls').symm
        have s9 := ne_of_none h16 nls
        have t1 := ne_of_none kp nlt'
        have t2 := ne_of_none km nlt'
        have t3 := ne_of_none ke nlt'
        have t4 := (ne_of_none kc nlt').symm
        have t5 := (ne_of_none kla nlt').symm
        have t6 := (ne_of_none kdg nlt').symm
        have t7 := (ne_of_none kle nlt').symm
        have t8 := (ne_of_none kdv nlt').symm
        have t9 := ne_of_none (S17.at h16) nlt
        have t10 := ne_of_none h17 nlt
        have c2 : lm ≠ c := ne_of km kc (by intro z; cases z)
        have c3 : ev ≠ c := ne_of ke kc (by intro z; cases z)
        have c4 : c ≠ la := ne_of kc kla (by intro z; cases z)
        have c5 : c ≠ dg := ne_of kc kdg (by intro z; cases z)
        have c6 : c ≠ le := ne_of kc kle (by intro z; cases z)
        have c7 : c ≠ dv := ne_of kc kdv (by intro z; cases z)
        have d1 : lm ≠ dg := ne_of km kdg (by intro z; cases z)
        have d2 : lm ≠ dv := ne_of km kdv (by intro z; cases z)
        have d3 : ev ≠ la := ne_of ke kla (by intro z; cases z)
        have d4 : ev ≠ le := ne_of ke kle (by intro z; cases z)
        have d5 : la ≠ dg := ne_of kla kdg (by intro z; cases z)
        have d6 : la ≠ dv := ne_of kla kdv (by intro z; cases z)
        have d7 : dg ≠ le := ne_of kdg kle (by intro z; cases z)
        have d8 : le ≠ dv := ne_of kle kdv (by intro z; cases z)
        simp only [List.nodup_cons, List.mem_cons, List.not_mem_nil, or_false, not_or, List.nodup_nil, and_true, not_false_eq_true]
        exact ⟨⟨npm, npe, w1, s1, t1, cp, f1, f8, f2, f7⟩, ⟨nme, w2, s2, t2, c2, f3, d1, f4, d2⟩, ⟨w3, s3, t3, c3, d3, f5, d4, f6⟩, ⟨s9, t9, w4, w5, w6, w7, w8⟩, ⟨t10, s4, s5, s6, s7, s8⟩, ⟨t4, t5, t6, t7, t8⟩, ⟨c4, c5, c6, c7⟩, ⟨d5, ct.ne2, d6⟩, ⟨d7, ct.ne1.symm⟩, d8⟩
      have nb : ∀ z : Addr, z ∉ ([] : List Addr) := fun _ z => nomatch z
      have x0 : LA C hh ks H18 p lm ev lw ls lt c la dg le dv dx (startV hh ps) [] [] [] (startV hh ps) [] [] [] :=
        ⟨N, hp15.bt b1518 (nb _), hm15.bt b1518 (nb _), he15.bt b1518 (nb _), ⟨[], klw, .nil⟩, ⟨[], kls, .nil⟩, ⟨[], h18, .nil⟩, ct15.bt b1518 (nb _) (nb _) (nb _) (nb _) (nb _)⟩
      have pokh : ∀ y ∈ ps, hdI y.1 = hh → PrOk hh y := fun y m e => by
        obtain ⟨h', pk'⟩ := pok y m
        have : h' = hh := pk'.key.hdI.symm.trans e
        rw [← this]
        exact pk'
      have iv0 : Iv hh stp ks 0 (startV hh ps) [] [] [] := by
        refine ⟨start_ok (fun _ m => nomatch m) pokh, (fun _ m => nomatch m), ⟨(fun _ m => nomatch m), (fun _ m => nomatch m), (fun _ m => nomatch m)⟩, (fun _ m => nomatch m), List.nodup_nil, Nat.le_refl _, fun y m => ?_, (fun _ m => nomatch m), (fun _ m => nomatch m), start_nd List.nodup_nil, fun k m => ?_, ?_⟩
        · rcases m with m | m | m <;> cases m
        · rcases start_keys m with m | ⟨y, m1, m2, rfl⟩
          · cases m
          · exact hin y m1 m2
        · have := start_len (h := hh) ps []
          unfold startV
          rw [List.length_nil] at this
          omega
      refine ⟨_, rfl, p, 31, rfl, x0.hp, by decide, fun dn H19 dn0 dn1 b19 hp19 => ?_⟩
      have x1 := x0.pool b19 hp19
      clear x0 N klw kls kp km ke kla kle kdv kdg kc
      refine ⟨_, rfl, by omega, by omega, ?_⟩
      refine for_range (n := dn.toNat) (fun i σ H => ∃ (la : Addr) (u5 u12 u13 u14 u15 u16 u17 u18 : Option V) (vals : Vs) (asks : List Ask) (st : Std) (tr : Tr), σ = [some (.ref a), some (.ref p), some (.int hh), some (.ref ls0), some (.ref lm), u5, some (.ref ev), some (.ref c), some (.int stp), some (.ref lw), some (.ref ls), some (.ref lt), u12, u13, u14, u15, u16, u17, u18, none] ∧
          LA C hh ks H p lm ev lw ls lt c la dg le dv dx vals asks st tr vals asks st tr ∧ Iv hh stp ks i vals asks st tr)
        ⟨la, _, _, _, _, _, _, _, _, _, _, _, _, rfl, x1, iv0⟩ ?_ ?_
      · clear x1 iv0
        clear f1 f2 f3 f4 f5 f6 g1 g2 g3 g4 g5 n1 n2 n3 n4 ct ct14 ct15 cp f7 f8 hm12 hm13 hm14 hm15 he12 he13 he14 he15 hp12 hp13 hp14 hp15
        rintro i σ H20 hi ⟨la, u5, u12, u13, u14, u15, u16, u17, u18, vals, asks, st, tr, rfl, x, iv⟩
        have hi30 : i < 30 := by omega
        refine ⟨_, rfl, p, 5, rfl, x.hp, by decide, fun da M0 da0 da1 bm0 hpm0 => ?_⟩
        replace x := x.pool bm0 hpm0
        refine ⟨_, _, rfl, rfl, _, rfl, iteD2 (fun z => ?_) (fun z => ?_)⟩
        · skip
          -- an ask
          refine ⟨_, rfl, _, rfl, _, rfl, p, lm, ev, hh, ks, vals, rfl, x.hp, nn_at x.N (i := 0) (j := 1) rfl rfl (by decide), mn, x.hm, x.he, iv.po, fun rv rs M1 bm1 hpm1 rne rlen rok rk trs => ?_⟩
          replace x := x.pool bm1 hpm1
          obtain ⟨iv, hnt⟩ := iv.ask st0 hi30 rne rlen rok rk
          obtain ⟨wvs, hwv, twv⟩ := x.hw
          have wvl : wvs.length = asks.length := by rw [twv.len, List.length_map]
          have ph0 := iv.phi
          rw [List.length_append, List.length_singleton] at ph0
          refine ⟨_, rfl, .inl ⟨rfl, _, .inl (.inl hwv)⟩, ?_⟩
          refine ⟨_, rfl, _, rfl, stp, (0 : Int) + (i : Nat), rfl, st0, st1, by omega, by omega, fun ip M2 nip bm2 hip => ?_⟩
          rw [Int.zero_add] at hip
          refine ⟨_, rfl, by show 2 ≤ sizeLine; decide, fun tp ntp => ?_⟩
          generalize em3 : upd _ tp _ = M3
          obtain ⟨Sm3, hm3⟩ := new_of em3 ntp
          clear em3
          have bm13 := bm2.trans Sm3
          refine ⟨lw, wvs, _, rfl, rfl, bm13.at hwv, sz_lt (by omega), ?_⟩
          generalize em4 : upd _ lw _ = M4
          obtain ⟨Sm4, hm4⟩ := mut_of em4 (bm13.at hwv) trivial
          clear em4
          have bm14 : Bt [lw] M1 M4 := bm13.nil.trans Sm4
          have tid := td_key hip (idOf_ok stp i).kok
          have hwn : LsAt M4 lw ((asks ++ [(idOf stp i, rs)]).map askD) := by
            refine ⟨_, hm4, ?_⟩
            rw [List.map_append]
            refine (twv.bt bm14).app (.one ?_)
            exact (Td.tup hm3 (.cons (tid.bt Sm3) (.cons ((trs.bt bm2).bt Sm3) .nil))).bt Sm4
          replace x := x.wait bm14 hwn
          have trs4 := trs.bt bm14
          refine ⟨_, rfl, c, dx, _, rfl, x.ct.fob, flds_no (by decide +kernel) (by decide +kernel) (by decide +kernel) (by decide +kernel) (by decide +kernel), ?_⟩
          refine ⟨_, rfl, _, rfl, stp, (0 : Int) + (i : Nat), rfl, st0, st1, by omega, by omega, fun iq M5 niq bm5 hiq => ?_⟩
          rw [Int.zero_add] at hiq
          replace x := x.bt0 bm5
          have so8 := iv.st' (by omega)
          refine ⟨_, rfl, c, dx, dv, la, dg, le, hh, vals, asks, st, tr, (idOf stp i, rs), _, _, rfl, x.ct, so8, td_key hiq (idOf_ok stp i).kok, trs4.bt bm5, hnt, fun tv M6 la' nla bm6 ct6 tvv => ?_⟩
          replace x := x.ctr (bm6.mono fun _ z => by simp at z; rcases z with z | z | z | z <;> simp [z]) nla ct6
          have x := x
          -- the pass
          have so9 := iv.st' (by omega)
          refine ⟨_, rfl, _, rfl, _, rfl, _, rfl, rts p ev lw ls lt c la' dg le dv, ev, lw, ls, lt, hh, _, _, _, _, rfl, x.he, x.hw, x.hs, x.ht, so9, nn_at x.N (i := 3) (j := 4) rfl rfl (by decide), nn_at x.N (i := 3) (j := 5) rfl rfl (by decide), nn_at x.N (i := 4) (j := 5) rfl rfl (by decide), (by simp [rts]), (by simp [rts]), (by simp [rts]), x.rtsAlloc, fun due K1 bk1 hw1 hs1 ht1 tdue => ?_⟩
          replace x := x.passed bk1 hw1 hs1 ht1
          replace tvv := tvv.bt bk1
          have ivp := iv.onPass
          -- a key
          obtain ⟨ms, hmm, tmm⟩ := x.hm
          have mml : ms.length = ks.length := by rw [tmm.len, List.length_map]
          have kpos : 0 < ks.length := List.length_pos_iff.mpr mn.ne
          refine ⟨_, rfl, _, rfl, _, rfl, lm, ms, rfl, .inl (.inl (.inl hmm)), p, _, rfl, x.hp, by omega, fun dk K2 dk0 dk1 bk2 hpk2 => ?_⟩
          replace x := x.pool bk2 hpk2
          replace tvv := tvv.bt bk2
          replace tdue := tdue.bt bk2
          obtain ⟨kj, rfl⟩ : ∃ kj : Nat, dk = (kj : Int) := ⟨dk.toNat, by omega⟩
          obtain ⟨kk, ekk⟩ : ∃ kk, ks[kj]? = some kk := ⟨_, List.getElem?_eq_getElem (by omega)⟩
          obtain ⟨ms2, hmm2, tmm2⟩ := x.hm
          obtain ⟨kv, ekv, tkv⟩ := tmm2.get (i := kj) (d := kD kk) (by rw [List.getElem?_map, ekk]; rfl)
          obtain ⟨kb, rfl, hkb, _⟩ := key_td tkv
          have kok := mn.ok kk (List.mem_of_getElem? ekk)
          refine ⟨lm, _, _, _, rfl, rfl, .inl (.inl hmm2), atI_nat ekv, ?_⟩
          refine ⟨_, rfl, _, rfl, _, _, _, rfl, tvv, tdue, told_dp (pass_told so9), fun K3 bk3 => ?_⟩
          refine ⟨_, rfl, iteF ?_⟩
          replace x := x.bt0 bk3
          have ph := ivp.phi
          refine ⟨_, rfl, _, rfl, _, rfl, _, rfl, _, rfl, rts p ev lw ls lt c la' dg le dv, c, dx, dv, la', dg, le, ev, lw, ls, kb, hh, _, _, _, _, kk, rfl, x.ct, x.he, x.hw, x.hs, ivp.po, ivp.so, by omega, by omega, bk3.tup _ _ hkb, kok, fun K4 bk4 => ?_⟩
          refine ⟨_, rfl, iteF ?_⟩
          replace x := x.bt0 bk4
          refine ⟨_, rfl, p, 12, rfl, x.hp, by decide, fun dz K5 dz0 dz1 bk5 hpk5 => ?_⟩
          replace x := x.pool bk5 hpk5
          refine ⟨rfl, _, rfl, iteD2 (fun zz => ?_) (fun zz => ?_)⟩
          · refine ⟨_, rfl, _, rfl, _, rfl, _, rfl, c, dx, dv, la', dg, le, ev, lm, lt, hh, _, _, _, _, ks, rfl, x.ct, x.he, x.hm, x.ht, ivp.po, mn, ivp.vn, ivp.vk, by have := ivp.vl; omega, fun K6 bk6 => ?_⟩
            refine ⟨_, rfl, iteF ?_⟩
            exact ⟨la', _, _, _, _, _, _, _, _, _, _, _, _, rfl, x.bt0 bk6, ivp⟩
          · exact ⟨la', _, _, _, _, _, _, _, _, _, _, _, _, rfl, x, ivp⟩
        · obtain ⟨svs0, hsv0, psv0⟩ := x.hs
          have svl0 : svs0.length = st.length := Paired.length psv0
          refine ⟨_, rfl, ls, svs0, rfl, .inl (.inl (.inl hsv0)), ?_⟩
          refine ⟨rfl, _, rfl, iteD2 (fun z2 => ?_) (fun z2 => ?_)⟩
          · skip
            -- an ask
            refine ⟨_, rfl, _, rfl, _, rfl, p, lm, ev, hh, ks, vals, rfl, x.hp, nn_at x.N (i := 0) (j := 1) rfl rfl (by decide), mn, x.hm, x.he, iv.po, fun rv rs M1 bm1 hpm1 rne rlen rok rk trs => ?_⟩
            replace x := x.pool bm1 hpm1
            obtain ⟨iv, hnt⟩ := iv.ask st0 hi30 rne rlen rok rk
            obtain ⟨wvs, hwv, twv⟩ := x.hw
            have wvl : wvs.length = asks.length := by rw [twv.len, List.length_map]
            have ph0 := iv.phi
            rw [List.length_append, List.length_singleton] at ph0
            refine ⟨_, rfl, .inl ⟨rfl, _, .inl (.inl hwv)⟩, ?_⟩
            refine ⟨_, rfl, _, rfl, stp, (0 : Int) + (i : Nat), rfl, st0, st1, by omega, by omega, fun ip M2 nip bm2 hip => ?_⟩
            rw [Int.zero_add] at hip
            refine ⟨_, rfl, by show 2 ≤ sizeLine; decide, fun tp ntp => ?_⟩
            generalize em3 : upd _ tp _ = M3
            obtain ⟨Sm3, hm3⟩ := new_of em3 ntp
            clear em3
            have bm13 := bm2.trans Sm3
            refine ⟨lw, wvs, _, rfl, rfl, bm13.at hwv, sz_lt (by omega), ?_⟩
            generalize em4 : upd _ lw _ = M4
            obtain ⟨Sm4, hm4⟩ := mut_of em4 (bm13.at hwv) trivial
            clear em4
            have bm14 : Bt [lw] M1 M4 := bm13.nil.trans Sm4
            have tid := td_key hip (idOf_ok stp i).kok
            have hwn : LsAt M4 lw ((asks ++ [(idOf stp i, rs)]).map askD) := by
              refine ⟨_, hm4, ?_⟩
              rw [List.map_append]
              refine (twv.bt bm14).app (.one ?_)
              exact (Td.tup hm3 (.cons (tid.bt Sm3) (.cons ((trs.bt bm2).bt Sm3) .nil))).bt Sm4
            replace x := x.wait bm14 hwn
            have trs4 := trs.bt bm14
            refine ⟨_, rfl, c, dx, _, rfl, x.ct.fob, flds_no (by decide +kernel) (by decide +kernel) (by decide +kernel) (by decide +kernel) (by decide +kernel), ?_⟩
            refine ⟨_, rfl, _, rfl, stp, (0 : Int) + (i : Nat), rfl, st0, st1, by omega, by omega, fun iq M5 niq bm5 hiq => ?_⟩
            rw [Int.zero_add] at hiq
            replace x := x.bt0 bm5
            have so8 := iv.st' (by omega)
            refine ⟨_, rfl, c, dx, dv, la, dg, le, hh, vals, asks, st, tr, (idOf stp i, rs), _, _, rfl, x.ct, so8, td_key hiq (idOf_ok stp i).kok, trs4.bt bm5, hnt, fun tv M6 la' nla bm6 ct6 tvv => ?_⟩
            replace x := x.ctr (bm6.mono fun _ z => by simp at z; rcases z with z | z | z | z <;> simp [z]) nla ct6
            have x := x
            -- the pass
            have so9 := iv.st' (by omega)
            refine ⟨_, rfl, _, rfl, _, rfl, _, rfl, rts p ev lw ls lt c la' dg le dv, ev, lw, ls, lt, hh, _, _, _, _, rfl, x.he, x.hw, x.hs, x.ht, so9, nn_at x.N (i := 3) (j := 4) rfl rfl (by decide), nn_at x.N (i := 3) (j := 5) rfl rfl (by decide), nn_at x.N (i := 4) (j := 5) rfl rfl (by decide), (by simp [rts]), (by simp [rts]), (by simp [rts]), x.rtsAlloc, fun due K1 bk1 hw1 hs1 ht1 tdue => ?_⟩
            replace x := x.passed bk1 hw1 hs1 ht1
            replace tvv := tvv.bt bk1
            have ivp := iv.onPass
            -- a key
            obtain ⟨ms, hmm, tmm⟩ := x.hm
            have mml : ms.length = ks.length := by rw [tmm.len, List.length_map]
            have kpos : 0 < ks.length := List.length_pos_iff.mpr mn.ne
            refine ⟨_, rfl, _, rfl, _, rfl, lm, ms, rfl, .inl (.inl (.inl hmm)), p, _, rfl, x.hp, by omega, fun dk K2 dk0 dk1 bk2 hpk2 => ?_⟩
            replace x := x.pool bk2 hpk2
            replace tvv := tvv.bt bk2
            replace tdue := tdue.bt bk2
            obtain ⟨kj, rfl⟩ : ∃ kj : Nat, dk = (kj : Int) := ⟨dk.toNat, by omega⟩
            obtain ⟨kk, ekk⟩ : ∃ kk, ks[kj]? = some kk := ⟨_, List.getElem?_eq_getElem (by omega)⟩
            obtain ⟨ms2, hmm2, tmm2⟩ := x.hm
            obtain ⟨kv, ekv, tkv⟩ := tmm2.get (i := kj) (d := kD kk) (by rw [List.getElem?_map, ekk]; rfl)
            obtain ⟨kb, rfl, hkb, _⟩ := key_td tkv
            have kok := mn.ok kk (List.mem_of_getElem? ekk)
            refine ⟨lm, _, _, _, rfl, rfl, .inl (.inl hmm2), atI_nat ekv, ?_⟩
            refine ⟨_, rfl, _, rfl, _, _, _, rfl, tvv, tdue, told_dp (pass_told so9), fun K3 bk3 => ?_⟩
            refine ⟨_, rfl, iteF ?_⟩
            replace x := x.bt0 bk3
            have ph := ivp.phi
            refine ⟨_, rfl, _, rfl, _, rfl, _, rfl, _, rfl, rts p ev lw ls lt c la' dg le dv, c, dx, dv, la', dg, le, ev, lw, ls, kb, hh, _, _, _, _, kk, rfl, x.ct, x.he, x.hw, x.hs, ivp.po, ivp.so, by omega, by omega, bk3.tup _ _ hkb, kok, fun K4 bk4 => ?_⟩
            refine ⟨_, rfl, iteF ?_⟩
            replace x := x.bt0 bk4
            refine ⟨_, rfl, p, 12, rfl, x.hp, by decide, fun dz K5 dz0 dz1 bk5 hpk5 => ?_⟩
            replace x := x.pool bk5 hpk5
            refine ⟨rfl, _, rfl, iteD2 (fun zz => ?_) (fun zz => ?_)⟩
            · refine ⟨_, rfl, _, rfl, _, rfl, _, rfl, c, dx, dv, la', dg, le, ev, lm, lt, hh, _, _, _, _, ks, rfl, x.ct, x.he, x.hm, x.ht, ivp.po, mn, ivp.vn, ivp.vk, by have := ivp.vl; omega, fun K6 bk6 => ?_⟩
              refine ⟨_, rfl, iteF ?_⟩
              exact ⟨la', _, _, _, _, _, _, _, _, _, _, _, _, rfl, x.bt0 bk6, ivp⟩
            · exact ⟨la', _, _, _, _, _, _, _, _, _, _, _, _, rfl, x, ivp⟩
          · skip
            -- an end
            obtain ⟨svs, hsv, psv⟩ := x.hs
            have svl : svs.length = st.length := Paired.length psv
            have stpos : 0 < st.length := Nat.pos_of_ne_zero fun e => z2 (by rw [svl0, e]; rfl)
            refine ⟨_, rfl, .inl ⟨rfl, _, .inl (.inl hsv)⟩, ?_⟩
            refine ⟨_, rfl, _, rfl, ls, svs, rfl, .inl (.inl (.inl hsv)), p, _, rfl, x.hp, by omega, fun dj M1 dj0 dj1 bm1 hpm1 => ?_⟩
            replace x := x.pool bm1 hpm1
            rw [svl] at dj1
            clear hsv psv svl
            obtain ⟨svs2, hsv, psv⟩ := x.hs
            have svl : svs2.length = st.length := Paired.length psv
            obtain ⟨j, rfl⟩ : ∃ j : Nat, dj = (j : Int) := ⟨dj.toNat, by omega⟩
            have hj : j < svs2.length := by omega
            obtain ⟨y, hy⟩ : ∃ y, svs2[j]? = some y := ⟨_, List.getElem?_eq_getElem hj⟩
            obtain ⟨sg, esg, ysg⟩ := paired_get psv hy
            have big : (100000 : Int) < 2 ^ 63 := by decide
            have ph0 := iv.phi
            refine ⟨ls, svs2, _, j, y, rfl, rfl, hsv, by omega, by omega, ix_nat hj, hy, ?_⟩
            generalize em2 : upd _ ls _ = M2
            obtain ⟨Sm2, hm2⟩ := mut_of em2 hsv trivial
            clear em2
            have lsR : ∀ a ∈ [ls], a ∈ rts p ev lw ls lt c la dg le dv := fun a m => by rw [List.mem_singleton.mp m]; simp [rts]
            have y2 := ysg.bt Sm2 lsR
            replace x := x.stand Sm2 ⟨_, hm2, Paired.mapP (paired_erase psv) fun _ _ z => z.bt Sm2 lsR⟩
            have sgm := List.mem_of_getElem? esg
            refine ⟨_, rfl, _, rfl, rts p ev lw ls lt c la dg le dv, p, y, hh, sg, rfl, x.hp, y2, (by simp [rts]), iv.so.gr sg sgm, iv.so.len sg sgm, fun wv ws M3 bm3 hpm3 tw wo wc wl => ?_⟩
            have y3 := y2.bt bm3 (fun a m => by rw [List.mem_singleton.mp m]; simp [rts])
            replace x := x.pool bm3 hpm3
            obtain ⟨wb, wxs, rfl, hwb, twx⟩ := Td.tup_inv tw
            have vl0 := iv.vl
            refine ⟨_, rfl, _, rfl, ev, wb, hh, vals, ws, rfl, x.he, tw, iv.po, wo, by omega, fun M4 bm4 he4 => ?_⟩
            replace x := x.vals bm4 he4
            have y4 := y3.bt bm4 (fun a m => by rw [List.mem_singleton.mp m]; simp [rts])
            have tw4 := tw.bt bm4
            obtain ⟨t, ii, rqv, kl, an, eyv, ht4, _, _, ti4, _, _⟩ := y4
            subst eyv
            obtain ⟨tvs, htv, ttv⟩ := x.ht
            have tvl : tvs.length = tr.length := by rw [ttv.len, List.length_map]
            refine ⟨_, rfl, .inl ⟨rfl, _, .inl (.inl htv)⟩, ?_⟩
            refine ⟨_, rfl, t, _, _, _, rfl, rfl, .inl (.inl ht4), atI_nat (j := 0) rfl, ?_⟩
            refine ⟨by show 2 ≤ sizeLine; decide, fun tp ntp => ?_⟩
            generalize em5 : upd _ tp _ = M5
            obtain ⟨Sm5, hm5⟩ := new_of em5 ntp
            clear em5
            refine ⟨lt, tvs, _, rfl, rfl, Sm5.at htv, sz_lt (by omega), ?_⟩
            generalize em6 : upd _ lt _ = M6
            obtain ⟨Sm6, hm6⟩ := mut_of em6 (Sm5.at htv) trivial
            clear em6
            have bm46 : Bt [lt] M4 M6 := Sm5.nil.trans Sm6
            have htn : LsAt M6 lt ((tr ++ [(false, sg.1)]).map trD) := by
              refine ⟨_, hm6, ?_⟩
              rw [List.map_append]
              refine (ttv.bt bm46).app (.one ?_)
              exact (Td.tup hm5 (.cons (.str _ (trS_ok false)) (.cons (ti4.bt Sm5) .nil))).bt Sm6
            replace x := x.trc bm46 htn
            have ht6 := bm46.tup _ _ ht4
            have nds : (sids st).Nodup := (List.nodup_append.mp iv.nd).1
            have ivo := iv
            replace iv := iv.fin esg wo wc wl
            have hde := del_idx nds esg
            rw [← hde] at x
            have so8 := iv.st' (by omega)
            refine ⟨_, rfl, c, dx, _, rfl, x.ct.fob, flds_no (by decide +kernel) (by decide +kernel) (by decide +kernel) (by decide +kernel) (by decide +kernel), ?_⟩
            refine ⟨_, rfl, t, _, _, _, rfl, rfl, .inl (.inl ht6), atI_nat (j := 0) rfl, ?_⟩
            refine ⟨_, rfl, c, dx, dv, la, dg, le, hh, vals, asks, st, tr, sg.1, sg.2, ws, _, _, rfl, x.ct, ivo.po, wo, by omega, sgm, nds, ivo.so, by omega, so8, ti4.bt bm46, tw4.bt bm46, wc, fun tv M7 la' nla bm7 ct7 tvv => ?_⟩
            replace x := x.ctr (bm7.mono fun _ z => by simp at z; rcases z with z | z | z | z <;> simp [z]) nla ct7
            -- the pass
            have so9 := iv.st' (by omega)
            refine ⟨_, rfl, _, rfl, _, rfl, _, rfl, rts p ev lw ls lt c la' dg le dv, ev, lw, ls, lt, hh, _, _, _, _, rfl, x.he, x.hw, x.hs, x.ht, so9, nn_at x.N (i := 3) (j := 4) rfl rfl (by decide), nn_at x.N (i := 3) (j := 5) rfl rfl (by decide), nn_at x.N (i := 4) (j := 5) rfl rfl (by decide), (by simp [rts]), (by simp [rts]), (by simp [rts]), x.rtsAlloc, fun due K1 bk1 hw1 hs1 ht1 tdue => ?_⟩
            replace x := x.passed bk1 hw1 hs1 ht1
            replace tvv := tvv.bt bk1
            have ivp := iv.onPass
            -- a key
            obtain ⟨ms, hmm, tmm⟩ := x.hm
            have mml : ms.length = ks.length := by rw [tmm.len, List.length_map]
            have kpos : 0 < ks.length := List.length_pos_iff.mpr mn.ne
            refine ⟨_, rfl, _, rfl, _, rfl, lm, ms, rfl, .inl (.inl (.inl hmm)), p, _, rfl, x.hp, by omega, fun dk K2 dk0 dk1 bk2 hpk2 => ?_⟩
            replace x := x.pool bk2 hpk2
            replace tvv := tvv.bt bk2
            replace tdue := tdue.bt bk2
            obtain ⟨kj, rfl⟩ : ∃ kj : Nat, dk = (kj : Int) := ⟨dk.toNat, by omega⟩
            obtain ⟨kk, ekk⟩ : ∃ kk, ks[kj]? = some kk := ⟨_, List.getElem?_eq_getElem (by omega)⟩
            obtain ⟨ms2, hmm2, tmm2⟩ := x.hm
            obtain ⟨kv, ekv, tkv⟩ := tmm2.get (i := kj) (d := kD kk) (by rw [List.getElem?_map, ekk]; rfl)
            obtain ⟨kb, rfl, hkb, _⟩ := key_td tkv
            have kok := mn.ok kk (List.mem_of_getElem? ekk)
            refine ⟨lm, _, _, _, rfl, rfl, .inl (.inl hmm2), atI_nat ekv, ?_⟩
            refine ⟨_, rfl, _, rfl, _, _, _, rfl, tvv, tdue, told_dp (pass_told so9), fun K3 bk3 => ?_⟩
            refine ⟨_, rfl, iteF ?_⟩
            replace x := x.bt0 bk3
            have ph := ivp.phi
            refine ⟨_, rfl, _, rfl, _, rfl, _, rfl, _, rfl, rts p ev lw ls lt c la' dg le dv, c, dx, dv, la', dg, le, ev, lw, ls, kb, hh, _, _, _, _, kk, rfl, x.ct, x.he, x.hw, x.hs, ivp.po, ivp.so, by omega, by omega, bk3.tup _ _ hkb, kok, fun K4 bk4 => ?_⟩
            refine ⟨_, rfl, iteF ?_⟩
            replace x := x.bt0 bk4
            refine ⟨_, rfl, p, 12, rfl, x.hp, by decide, fun dz K5 dz0 dz1 bk5 hpk5 => ?_⟩
            replace x := x.pool bk5 hpk5
            refine ⟨rfl, _, rfl, iteD2 (fun zz => ?_) (fun zz => ?_)⟩
            · refine ⟨_, rfl, _, rfl, _, rfl, _, rfl, c, dx, dv, la', dg, le, ev, lm, lt, hh, _, _, _, _, ks, rfl, x.ct, x.he, x.hm, x.ht, ivp.po, mn, ivp.vn, ivp.vk, by have := ivp.vl; omega, fun K6 bk6 => ?_⟩
              refine ⟨_, rfl, iteF ?_⟩
              exact ⟨la', _, _, _, _, _, _, _, _, _, _, _, _, rfl, x.bt0 bk6, ivp⟩
            · exact ⟨la', _, _, _, _, _, _, _, _, _, _, _, _, rfl, x, ivp⟩
      · rintro σ H20 ⟨la, u5, u12, u13, u14, u15, u16, u17, u18, vals, asks, st, tr, rfl, x, iv⟩
        exact ⟨_, rfl, _, rfl, _, rfl, _, rfl, c, dx, dv, la, dg, le, ev, lm, lt, hh, _, _, _, _, ks, rfl, x.ct, x.he, x.hm, x.ht, iv.po, mn, iv.vn, iv.vk, by have := iv.vl; omega, fun K6 bk6 => q K6⟩
end
end K33

/-! K29: the facts of the top, the law's promise -/
namespace K33
open PySem L2 PyProof.Rows
section
variable {w : World} {K : PySem.W.Frag} {mg : Str → Option Value} {h : Heap} {x q : Str} {st : Stmt} {C A : Addr} {v : V} {u : Value}
def DefAt (K : PySem.W.Frag) (mg : Str → Option Value) (x : Str) (st : Stmt) : Prop := ∃ f fd, Fun K x x st f fd ∧ mg x = some (.ref f)
def MetAt (K : PySem.W.Frag) (C : Addr) (x q : Str) (st : Stmt) : Prop := ∃ f fd, Fun K x q st f fd ∧ Meth K C x f
theorem def_mk (X : K.In h) (G : h.Ns mainGlobals mg) {f : Addr} {od an : Option Addr} {sl : Array (Option Value)} {oc kV dc pm cd ct : Value} (a : PySem.W.nsIn K mainGlobals x = some (some (.ref f)))
    (l : K.lookup f = some ⟨oc, od, .func (PySem.W.fnOf x x (defArgs st) (defBody st) (defScope st) .none kV dc pm an cd ct), sl⟩) (c : PySem.W.codeIn K cd x = true) (k : PySem.W.keepIn K (.ref f) = true) : DefAt K mg x st :=
  ⟨f, _, fun_mk l c k, PySem.W.mg_of X G a⟩
theorem met_mk {f : Addr} {od an : Option Addr} {sl : Array (Option Value)} {oc kV dc pm cd ct : Value} (a : PySem.W.findIn K (.ref C) x = some (some (.ref f))) (i : PySem.W.isFn K (.ref f) = true)
    (l : K.lookup f = some ⟨oc, od, .func (PySem.W.fnOf x q (defArgs st) (defBody st) (defScope st) .none kV dc pm an cd ct), sl⟩) (c : PySem.W.codeIn K cd q = true) (k : PySem.W.keepIn K (.ref f) = true) : MetAt K C x q st :=
  ⟨f, _, fun_mk l c k, a, i, k⟩
theorem con_mk (X : K.In h) (G : h.Ns mainGlobals mg) (a : PySem.W.nsIn K mainGlobals x = some (some u)) (r : RelV v u) : ∃ u, mg x = some u ∧ RelV v u := ⟨u, PySem.W.mg_of X G a, r⟩
theorem kt_mk {dd : Option Addr} {its : Array Value} {n : Nat} {sl : Array (Option Value)} {xs : List V} (l : K.lookup A = some ⟨.type "tuple", dd, .seq its n, sl⟩) (z : its.size ≤ sizeLine) (r : Vals xs its.toList) : KT K A xs := ⟨_, its, n, l, rfl, rfl, z, r⟩
theorem tup_mk (X : K.In h) (G : h.Ns mainGlobals mg) {dd : Option Addr} {its : Array Value} {n : Nat} {sl : Array (Option Value)} {xs : List V} (a : PySem.W.nsIn K mainGlobals x = some (some (.ref A)))
    (l : K.lookup A = some ⟨.type "tuple", dd, .seq its n, sl⟩) (z : its.size ≤ sizeLine) (r : Vals xs its.toList) : ∃ a, mg x = some (.ref a) ∧ KT K a xs := ⟨A, PySem.W.mg_of X G a, kt_mk l z r⟩
theorem sub_mk {D : Addr} {dd : Option Addr} {its : Array Value} {n : Nat} {sl : Array (Option Value)} {xs : List V} {y : Str} (e : y = x) (a : PySem.W.nsIn K D x = some (some (.ref A)))
    (l : K.lookup A = some ⟨.type "tuple", dd, .seq its n, sl⟩) (z : its.size ≤ sizeLine) (r : Vals xs its.toList) : ∃ b, PySem.W.nsIn K D y = some (some (.ref b)) ∧ KT K b xs := ⟨A, by rw [e]; exact a, kt_mk l z r⟩
theorem non_mk {D : Addr} {y : Str} (e : y = x) (a : PySem.W.nsIn K D x = some none) : PySem.W.nsIn K D y = some none := by rw [e]; exact a
theorem vnil {m : Nm} {l : List Value} (h : m.parts = []) (e : l = []) : Vals (m.parts.map fun q => V.str q.s) l := by
  rw [h, e]
  exact .nil
def ClsAll (K : PySem.W.Frag) (mg : Str → Option Value) : Prop := ∃ C, mg "Counter" = some (.ref C) ∧ CFx K C ∧ PySem.W.makesIn K C = true ∧ PySem.W.keepIn K (.ref C) = true ∧ MetAt K C "__init__" "Counter.__init__" s_Counter___init__ ∧
  MetAt K C "standing_on" "Counter.standing_on" s_Counter_standing_on ∧
  MetAt K C "kind_for" "Counter.kind_for" s_Counter_kind_for ∧
  MetAt K C "answer" "Counter.answer" s_Counter_answer ∧
  MetAt K C "grants_for" "Counter.grants_for" s_Counter_grants_for ∧
  MetAt K C "look" "Counter.look" s_Counter_look ∧
  MetAt K C "was_asked" "Counter.was_asked" s_Counter_was_asked ∧
  MetAt K C "ask" "Counter.ask" s_Counter_ask ∧
  MetAt K C "end" "Counter.end" s_Counter_end ∧
  MetAt K C "value" "Counter.value" s_Counter_value ∧
  MetAt K C "all_values" "Counter.all_values" s_Counter_all_values ∧
  MetAt K C "waiting" "Counter.waiting" s_Counter_waiting ∧
  MetAt K C "granted" "Counter.granted" s_Counter_granted ∧
  MetAt K C "trace" "Counter.trace" s_Counter_trace
theorem cls_mk (X : K.In h) (G : h.Ns mainGlobals mg) (aC : PySem.W.nsIn K mainGlobals "Counter" = some (some (.ref C))) (pg : PySem.W.plainGet K C Str.empty = true) (hd : PySem.W.hasDictIn K C = true) (po : PySem.W.plainOver K C = true)
    (sa : PySem.W.findIn K (.ref C) "__setattr__" = some (some (.builtin "object.__setattr__"))) (mk : PySem.W.makesIn K C = true) (kc : PySem.W.keepIn K (.ref C) = true)
    (n1 : PySem.W.findIn K (.ref C) "house" = some none) (n2 : PySem.W.findIn K (.ref C) "values_now" = some none) (n3 : PySem.W.findIn K (.ref C) "asks" = some none) (n4 : PySem.W.findIn K (.ref C) "grants" = some none) (n5 : PySem.W.findIn K (.ref C) "entries" = some none)
    (m0 : MetAt K C "__init__" "Counter.__init__" s_Counter___init__)
    (m_standing_on : MetAt K C "standing_on" "Counter.standing_on" s_Counter_standing_on) (m_kind_for : MetAt K C "kind_for" "Counter.kind_for" s_Counter_kind_for) (m_answer : MetAt K C "answer" "Counter.answer" s_Counter_answer) (m_grants_for : MetAt K C "grants_for" "Counter.grants_for" s_Counter_grants_for) (m_look : MetAt K C "look" "Counter.look" s_Counter_look) (m_was_asked : MetAt K C "was_asked" "Counter.was_asked" s_Counter_was_asked) (m_ask : MetAt K C "ask" "Counter.ask" s_Counter_ask) (m_end : MetAt K C "end" "Counter.end" s_Counter_end) (m_value : MetAt K C "value" "Counter.value" s_Counter_value) (m_all_values : MetAt K C "all_values" "Counter.all_values" s_Counter_all_values) (m_waiting : MetAt K C "waiting" "Counter.waiting" s_Counter_waiting) (m_granted : MetAt K C "granted" "Counter.granted" s_Counter_granted) (m_trace : MetAt K C "trace" "Counter.trace" s_Counter_trace) : ClsAll K mg :=
  ⟨C, PySem.W.mg_of X G aC, ⟨⟨pg, hd, po, sa⟩, n1, n2, n3, n4, n5⟩, mk, kc, m0, m_standing_on, m_kind_for, m_answer, m_grants_for, m_look, m_was_asked, m_ask, m_end, m_value, m_all_values, m_waiting, m_granted, m_trace⟩
theorem fin {P : Program} {fa : Addr} (T : Blt mg) (G : Glb K w mg) (cl : ClsAll K mg) (hfa : mg "law" = some (.ref fa))
    (d_is_between : DefAt K mg "is_between" s_is_between) (d_is_word : DefAt K mg "is_word" s_is_word) (d_fits : DefAt K mg "fits" s_fits) (d_fit : DefAt K mg "fit" s_fit) (d_is_id : DefAt K mg "is_id" s_is_id) (d_has_name : DefAt K mg "has_name" s_has_name) (d_is_key : DefAt K mg "is_key" s_is_key) (d_is_key_of : DefAt K mg "is_key_of" s_is_key_of) (d_is_amount : DefAt K mg "is_amount" s_is_amount) (d_first_value : DefAt K mg "first_value" s_first_value) (d_value_in : DefAt K mg "value_in" s_value_in) (d_carry_out : DefAt K mg "carry_out" s_carry_out) (d_pairs_of : DefAt K mg "pairs_of" s_pairs_of) (d_law_pool : DefAt K mg "_law_pool" s_law_pool) (d_law_draw : DefAt K mg "_law_draw" s_law_draw) (d_law_word : DefAt K mg "_law_word" s_law_word) (d_law_id : DefAt K mg "_law_id" s_law_id) (d_law_large : DefAt K mg "_law_large" s_law_large) (d_law_record : DefAt K mg "_law_record" s_law_record) (d_law_other : DefAt K mg "_law_other" s_law_other) (d_law_menu : DefAt K mg "_law_menu" s_law_menu) (d_law_mode : DefAt K mg "_law_mode" s_law_mode) (d_law_requests : DefAt K mg "_law_requests" s_law_requests) (d_law_first : DefAt K mg "_law_first" s_law_first) (d_law_beside : DefAt K mg "_law_beside" s_law_beside) (d_law_shares : DefAt K mg "_law_shares" s_law_shares) (d_law_pass : DefAt K mg "_law_pass" s_law_pass) (d_law_writes : DefAt K mg "_law_writes" s_law_writes) (d_law_carried : DefAt K mg "_law_carried" s_law_carried) (d_law_start : DefAt K mg "_law_start" s_law_start) (d_law_values : DefAt K mg "_law_values" s_law_values) (d_law_shown : DefAt K mg "_law_shown" s_law_shown) (d_law_same : DefAt K mg "_law_same" s_law_same) (d_law_alike : DefAt K mg "_law_alike" s_law_alike) (d_law_all_alike : DefAt K mg "_law_all_alike" s_law_all_alike) (d_law : DefAt K mg "law" s_law) :
    ∃ fd : FuncData, (∀ (s : Shared) (u : Value), BindsTo s fd ⟨[u], []⟩ [("_law_script", u)]) ∧ ∀ base : Heap, K.In base → base.Ns mainGlobals mg → FnOk P w K mg base CX0 15 fa fd ["_law_script"] (spLaw K) := by
  obtain ⟨fl, fdl, FL, hl⟩ := d_law
  cases hfa.symm.trans hl
  obtain ⟨C, hC, TC, mkC, kpC, ⟨fi, fdi, FI, mI⟩, ⟨f_standing_on, fd_standing_on, F_standing_on, m_standing_on⟩, ⟨f_kind_for, fd_kind_for, F_kind_for, m_kind_for⟩, ⟨f_answer, fd_answer, F_answer, m_answer⟩, ⟨f_grants_for, fd_grants_for, F_grants_for, m_grants_for⟩, ⟨f_look, fd_look, F_look, m_look⟩, ⟨f_was_asked, fd_was_asked, F_was_asked, m_was_asked⟩, ⟨f_ask, fd_ask, F_ask, m_ask⟩, ⟨f_end, fd_end, F_end, m_end⟩, ⟨f_value, fd_value, F_value, m_value⟩, ⟨f_all_values, fd_all_values, F_all_values, m_all_values⟩, ⟨f_waiting, fd_waiting, F_waiting, m_waiting⟩, ⟨f_granted, fd_granted, F_granted, m_granted⟩, ⟨f_trace, fd_trace, F_trace, m_trace⟩⟩ := cl
  obtain ⟨f_is_between, fd_is_between, F_is_between, h_is_between⟩ := d_is_between
  obtain ⟨f_is_word, fd_is_word, F_is_word, h_is_word⟩ := d_is_word
  obtain ⟨f_fits, fd_fits, F_fits, h_fits⟩ := d_fits
  obtain ⟨f_fit, fd_fit, F_fit, h_fit⟩ := d_fit
  obtain ⟨f_is_id, fd_is_id, F_is_id, h_is_id⟩ := d_is_id
  obtain ⟨f_has_name, fd_has_name, F_has_name, h_has_name⟩ := d_has_name
  obtain ⟨f_is_key, fd_is_key, F_is_key, h_is_key⟩ := d_is_key
  obtain ⟨f_is_key_of, fd_is_key_of, F_is_key_of, h_is_key_of⟩ := d_is_key_of
  obtain ⟨f_is_amount, fd_is_amount, F_is_amount, h_is_amount⟩ := d_is_amount
  obtain ⟨f_first_value, fd_first_value, F_first_value, h_first_value⟩ := d_first_value
  obtain ⟨f_value_in, fd_value_in, F_value_in, h_value_in⟩ := d_value_in
  obtain ⟨f_carry_out, fd_carry_out, F_carry_out, h_carry_out⟩ := d_carry_out
  obtain ⟨f_pairs_of, fd_pairs_of, F_pairs_of, h_pairs_of⟩ := d_pairs_of
  obtain ⟨f_law_pool, fd_law_pool, F_law_pool, h_law_pool⟩ := d_law_pool
  obtain ⟨f_law_draw, fd_law_draw, F_law_draw, h_law_draw⟩ := d_law_draw
  obtain ⟨f_law_word, fd_law_word, F_law_word, h_law_word⟩ := d_law_word
  obtain ⟨f_law_id, fd_law_id, F_law_id, h_law_id⟩ := d_law_id
  obtain ⟨f_law_large, fd_law_large, F_law_large, h_law_large⟩ := d_law_large
  obtain ⟨f_law_record, fd_law_record, F_law_record, h_law_record⟩ := d_law_record
  obtain ⟨f_law_other, fd_law_other, F_law_other, h_law_other⟩ := d_law_other
  obtain ⟨f_law_menu, fd_law_menu, F_law_menu, h_law_menu⟩ := d_law_menu
  obtain ⟨f_law_mode, fd_law_mode, F_law_mode, h_law_mode⟩ := d_law_mode
  obtain ⟨f_law_requests, fd_law_requests, F_law_requests, h_law_requests⟩ := d_law_requests
  obtain ⟨f_law_first, fd_law_first, F_law_first, h_law_first⟩ := d_law_first
  obtain ⟨f_law_beside, fd_law_beside, F_law_beside, h_law_beside⟩ := d_law_beside
  obtain ⟨f_law_shares, fd_law_shares, F_law_shares, h_law_shares⟩ := d_law_shares
  obtain ⟨f_law_pass, fd_law_pass, F_law_pass, h_law_pass⟩ := d_law_pass
  obtain ⟨f_law_writes, fd_law_writes, F_law_writes, h_law_writes⟩ := d_law_writes
  obtain ⟨f_law_carried, fd_law_carried, F_law_carried, h_law_carried⟩ := d_law_carried
  obtain ⟨f_law_start, fd_law_start, F_law_start, h_law_start⟩ := d_law_start
  obtain ⟨f_law_values, fd_law_values, F_law_values, h_law_values⟩ := d_law_values
  obtain ⟨f_law_shown, fd_law_shown, F_law_shown, h_law_shown⟩ := d_law_shown
  obtain ⟨f_law_same, fd_law_same, F_law_same, h_law_same⟩ := d_law_same
  obtain ⟨f_law_alike, fd_law_alike, F_law_alike, h_law_alike⟩ := d_law_alike
  obtain ⟨f_law_all_alike, fd_law_all_alike, F_law_all_alike, h_law_all_alike⟩ := d_law_all_alike
  refine ⟨fdl, fun s u => ?_, fun base _ _ => ?_⟩
  · obtain ⟨oc, od, kV, doc, pm, an, cdv, ct, osl, e, _⟩ := FL.ex
    rw [e]
    exact .of_eq rfl
  have C_is_between : Cal P w K mg base "is_between" 1 spBetween := ⟨f_is_between, fd_is_between, ["value", "least", "most"], ok_is_between F_is_between T, h_is_between, F_is_between.kp, F_is_between.binds (ps := ["value", "least", "most"]) fun _ _ _ _ _ _ us hl => match us, hl with | [_, _, _], _ => rfl⟩
  have C_is_word : Cal P w K mg base "is_word" 1 spWord := ⟨f_is_word, fd_is_word, ["value"], ok_is_word F_is_word T G, h_is_word, F_is_word.kp, F_is_word.binds (ps := ["value"]) fun _ _ _ _ _ _ us hl => match us, hl with | [_], _ => rfl⟩
  have C_fits : Cal P w K mg base "fits" 2 spFits := ⟨f_fits, fd_fits, ["value", "kind"], ok_fits F_fits T G C_is_between C_is_word, h_fits, F_fits.kp, F_fits.binds (ps := ["value", "kind"]) fun _ _ _ _ _ _ us hl => match us, hl with | [_, _], _ => rfl⟩
  have C_fit : Cal P w K mg base "fit" 3 (spFit K) := ⟨f_fit, fd_fit, ["values", "kinds"], ok_fit F_fit T C_fits, h_fit, F_fit.kp, F_fit.binds (ps := ["values", "kinds"]) fun _ _ _ _ _ _ us hl => match us, hl with | [_, _], _ => rfl⟩
  have C_is_id : Cal P w K mg base "is_id" 4 spIsId := ⟨f_is_id, fd_is_id, ["value"], ok_is_id F_is_id T C_fit, h_is_id, F_is_id.kp, F_is_id.binds (ps := ["value"]) fun _ _ _ _ _ _ us hl => match us, hl with | [_], _ => rfl⟩
  have C_has_name : Cal P w K mg base "has_name" 1 spHasName := ⟨f_has_name, fd_has_name, ["house", "name"], ok_has_name F_has_name G, h_has_name, F_has_name.kp, F_has_name.binds (ps := ["house", "name"]) fun _ _ _ _ _ _ us hl => match us, hl with | [_, _], _ => rfl⟩
  have C_is_key : Cal P w K mg base "is_key" 4 spIsKey := ⟨f_is_key, fd_is_key, ["value"], ok_is_key F_is_key T G C_fit C_is_between C_has_name, h_is_key, F_is_key.kp, F_is_key.binds (ps := ["value"]) fun _ _ _ _ _ _ us hl => match us, hl with | [_], _ => rfl⟩
  have C_is_key_of : Cal P w K mg base "is_key_of" 5 spIsKeyOf := ⟨f_is_key_of, fd_is_key_of, ["house", "value"], ok_is_key_of F_is_key_of C_is_key, h_is_key_of, F_is_key_of.kp, F_is_key_of.binds (ps := ["house", "value"]) fun _ _ _ _ _ _ us hl => match us, hl with | [_, _], _ => rfl⟩
  have C_is_amount : Cal P w K mg base "is_amount" 5 spIsAmount := ⟨f_is_amount, fd_is_amount, ["key"], ok_is_amount F_is_amount G C_is_key, h_is_amount, F_is_amount.kp, F_is_amount.binds (ps := ["key"]) fun _ _ _ _ _ _ us hl => match us, hl with | [_], _ => rfl⟩
  have C_first_value : Cal P w K mg base "first_value" 6 spFirst := ⟨f_first_value, fd_first_value, ["key"], ok_first_value F_first_value C_is_amount, h_first_value, F_first_value.kp, F_first_value.binds (ps := ["key"]) fun _ _ _ _ _ _ us hl => match us, hl with | [_], _ => rfl⟩
  have C_value_in : Cal P w K mg base "value_in" 7 spValueIn := ⟨f_value_in, fd_value_in, ["values", "key"], ok_value_in F_value_in C_first_value, h_value_in, F_value_in.kp, F_value_in.binds (ps := ["values", "key"]) fun _ _ _ _ _ _ us hl => match us, hl with | [_, _], _ => rfl⟩
  have C_carry_out : Cal P w K mg base "carry_out" 8 spCarry := ⟨f_carry_out, fd_carry_out, ["values", "writes"], ok_carry_out F_carry_out C_is_amount C_value_in, h_carry_out, F_carry_out.kp, F_carry_out.binds (ps := ["values", "writes"]) fun _ _ _ _ _ _ us hl => match us, hl with | [_, _], _ => rfl⟩
  have C_pairs_of : Cal P w K mg base "pairs_of" 7 spPairs := ⟨f_pairs_of, fd_pairs_of, ["values"], ok_pairs_of F_pairs_of T C_first_value, h_pairs_of, F_pairs_of.kp, F_pairs_of.binds (ps := ["values"]) fun _ _ _ _ _ _ us hl => match us, hl with | [_], _ => rfl⟩
  have C_law_pool : Cal P w K mg base "_law_pool" 1 (spPool K) := ⟨f_law_pool, fd_law_pool, ["_law_script", "_law_many"], ok_pool F_law_pool T, h_law_pool, F_law_pool.kp, F_law_pool.binds (ps := ["_law_script", "_law_many"]) fun _ _ _ _ _ _ us hl => match us, hl with | [_, _], _ => rfl⟩
  have C_law_draw : Cal P w K mg base "_law_draw" 1 spDraw := ⟨f_law_draw, fd_law_draw, ["_law_pool_here", "_law_many"], ok_draw F_law_draw T, h_law_draw, F_law_draw.kp, F_law_draw.binds (ps := ["_law_pool_here", "_law_many"]) fun _ _ _ _ _ _ us hl => match us, hl with | [_, _], _ => rfl⟩
  have C_law_word : Cal P w K mg base "_law_word" 1 spWord2 := ⟨f_law_word, fd_law_word, ["_law_one", "_law_two", "_law_size"], ok_word F_law_word T, h_law_word, F_law_word.kp, F_law_word.binds (ps := ["_law_one", "_law_two", "_law_size"]) fun _ _ _ _ _ _ us hl => match us, hl with | [_, _, _], _ => rfl⟩
  have C_law_id : Cal P w K mg base "_law_id" 1 spId := ⟨f_law_id, fd_law_id, ["_law_step", "_law_k"], ok_id F_law_id T, h_law_id, F_law_id.kp, F_law_id.binds (ps := ["_law_step", "_law_k"]) fun _ _ _ _ _ _ us hl => match us, hl with | [_, _], _ => rfl⟩
  have C_law_large : Cal P w K mg base "_law_large" 2 spLarge := ⟨f_law_large, fd_law_large, ["_law_pool_here", "_law_most"], ok_large F_law_large T C_law_draw, h_law_large, F_law_large.kp, F_law_large.binds (ps := ["_law_pool_here", "_law_most"]) fun _ _ _ _ _ _ us hl => match us, hl with | [_, _], _ => rfl⟩
  have C_law_record : Cal P w K mg base "_law_record" 2 spRecord := ⟨f_law_record, fd_law_record, ["_law_pool_here", "_law_key"], ok_record F_law_record T C_law_draw C_law_word, h_law_record, F_law_record.kp, F_law_record.binds (ps := ["_law_pool_here", "_law_key"]) fun _ _ _ _ _ _ us hl => match us, hl with | [_, _], _ => rfl⟩
  have C_law_other : Cal P w K mg base "_law_other" 2 spOther := ⟨f_law_other, fd_law_other, ["_law_pool_here", "_law_word_here"], ok_other F_law_other T C_law_draw, h_law_other, F_law_other.kp, F_law_other.binds (ps := ["_law_pool_here", "_law_word_here"]) fun _ _ _ _ _ _ us hl => match us, hl with | [_, _], _ => rfl⟩
  have C_law_menu : Cal P w K mg base "_law_menu" 3 spMenu := ⟨f_law_menu, fd_law_menu, ["_law_pool_here", "_law_house"], ok_menu F_law_menu T C_law_draw C_law_word C_law_other, h_law_menu, F_law_menu.kp, F_law_menu.binds (ps := ["_law_pool_here", "_law_house"]) fun _ _ _ _ _ _ us hl => match us, hl with | [_, _], _ => rfl⟩
  have C_law_mode : Cal P w K mg base "_law_mode" 2 spMode := ⟨f_law_mode, fd_law_mode, ["_law_pool_here", "_law_key", "_law_value"], ok_mode F_law_mode T C_law_draw, h_law_mode, F_law_mode.kp, F_law_mode.binds (ps := ["_law_pool_here", "_law_key", "_law_value"]) fun _ _ _ _ _ _ us hl => match us, hl with | [_, _, _], _ => rfl⟩
  have C_law_requests : Cal P w K mg base "_law_requests" 3 spRequests := ⟨f_law_requests, fd_law_requests, ["_law_pool_here", "_law_menu_here", "_law_values_here"], ok_requests F_law_requests T C_law_draw C_law_mode, h_law_requests, F_law_requests.kp, F_law_requests.binds (ps := ["_law_pool_here", "_law_menu_here", "_law_values_here"]) fun _ _ _ _ _ _ us hl => match us, hl with | [_, _, _], _ => rfl⟩
  have C_law_first : Cal P w K mg base "_law_first" 1 spFirst := ⟨f_law_first, fd_law_first, ["_law_key"], ok_first F_law_first, h_law_first, F_law_first.kp, F_law_first.binds (ps := ["_law_key"]) fun _ _ _ _ _ _ us hl => match us, hl with | [_], _ => rfl⟩
  have C_law_beside : ∀ R : List Addr, Cal P w K mg base "_law_beside" 2 (spBeside R) := fun R => ⟨f_law_beside, fd_law_beside, ["_law_values_here", "_law_standing", "_law_request"], ok_beside F_law_beside T C_law_first R, h_law_beside, F_law_beside.kp, F_law_beside.binds (ps := ["_law_values_here", "_law_standing", "_law_request"]) fun _ _ _ _ _ _ us hl => match us, hl with | [_, _, _], _ => rfl⟩
  have C_law_shares : Cal P w K mg base "_law_shares" 1 spShares := ⟨f_law_shares, fd_law_shares, ["_law_one", "_law_two"], ok_shares F_law_shares T, h_law_shares, F_law_shares.kp, F_law_shares.binds (ps := ["_law_one", "_law_two"]) fun _ _ _ _ _ _ us hl => match us, hl with | [_, _], _ => rfl⟩
  have C_law_pass : Cal P w K mg base "_law_pass" 3 (spEx spPass) := ⟨f_law_pass, fd_law_pass, ["_law_values_here", "_law_waiting", "_law_standing", "_law_trace"], fn_ex fun R => ok_pass F_law_pass T R C_law_shares (C_law_beside R), h_law_pass, F_law_pass.kp, F_law_pass.binds (ps := ["_law_values_here", "_law_waiting", "_law_standing", "_law_trace"]) fun _ _ _ _ _ _ us hl => match us, hl with | [_, _, _, _], _ => rfl⟩
  have C_law_writes : Cal P w K mg base "_law_writes" 3 (spEx spWrites) := ⟨f_law_writes, fd_law_writes, ["_law_pool_here", "_law_grant"], fn_ex fun R => ok_writes F_law_writes T R C_law_draw C_law_record, h_law_writes, F_law_writes.kp, F_law_writes.binds (ps := ["_law_pool_here", "_law_grant"]) fun _ _ _ _ _ _ us hl => match us, hl with | [_, _], _ => rfl⟩
  have C_law_carried : Cal P w K mg base "_law_carried" 1 spCarry := ⟨f_law_carried, fd_law_carried, ["_law_values_here", "_law_writes_here"], ok_carried F_law_carried, h_law_carried, F_law_carried.kp, F_law_carried.binds (ps := ["_law_values_here", "_law_writes_here"]) fun _ _ _ _ _ _ us hl => match us, hl with | [_, _], _ => rfl⟩
  have C_law_start : Cal P w K mg base "_law_start" 3 spStart := ⟨f_law_start, fd_law_start, ["_law_pool_here", "_law_menu_here"], ok_start F_law_start T C_law_draw C_law_large C_law_first, h_law_start, F_law_start.kp, F_law_start.binds (ps := ["_law_pool_here", "_law_menu_here"]) fun _ _ _ _ _ _ us hl => match us, hl with | [_, _], _ => rfl⟩
  have C_law_values : Cal P w K mg base "_law_values" 1 (spValues K) := ⟨f_law_values, fd_law_values, ["_law_start_here"], ok_values F_law_values, h_law_values, F_law_values.kp, F_law_values.binds (ps := ["_law_start_here"]) fun _ _ _ _ _ _ us hl => match us, hl with | [_], _ => rfl⟩
  have C_law_shown : Cal P w K mg base "_law_shown" 2 spShown := ⟨f_law_shown, fd_law_shown, ["_law_values_here", "_law_menu_here"], ok_shown F_law_shown T C_law_first, h_law_shown, F_law_shown.kp, F_law_shown.binds (ps := ["_law_values_here", "_law_menu_here"]) fun _ _ _ _ _ _ us hl => match us, hl with | [_, _], _ => rfl⟩
  have B_law_same : Binds K fd_law_same ["_law_told", "_law_due"] [] := F_law_same.binds (ps := ["_law_told", "_law_due"]) fun _ _ _ _ _ _ us hl => match us, hl with | [_, _], _ => rfl
  have C_law_same : Cal P w K mg base "_law_same" 13 (spSame 12) := ⟨f_law_same, fd_law_same, ["_law_told", "_law_due"], ok_same F_law_same T (fun k sp ok => ⟨f_law_same, fd_law_same, ["_law_told", "_law_due"], ok, h_law_same, F_law_same.kp, B_law_same⟩) 12, h_law_same, F_law_same.kp, B_law_same⟩
  have M_standing_on : Mtd P w K mg base C "standing_on" 1 (spStanding C) := ⟨f_standing_on, fd_standing_on, ["self", "key"], ok_standing_on F_standing_on TC, m_standing_on, F_standing_on.binds (ps := ["self", "key"]) fun _ _ _ _ _ _ us hl => match us, hl with | [_, _], _ => rfl⟩
  have M_kind_for : Mtd P w K mg base C "kind_for" 8 (spKind C) := ⟨f_kind_for, fd_kind_for, ["self", "key", "mode", "many"], ok_kind_for F_kind_for T TC C_value_in M_standing_on, m_kind_for, F_kind_for.binds (ps := ["self", "key", "mode", "many"]) fun _ _ _ _ _ _ us hl => match us, hl with | [_, _, _, _], _ => rfl⟩
  have M_answer : Mtd P w K mg base C "answer" 8 (spAnswer C) := ⟨f_answer, fd_answer, ["self", "grant"], ok_answer F_answer TC C_value_in, m_answer, F_answer.binds (ps := ["self", "grant"]) fun _ _ _ _ _ _ us hl => match us, hl with | [_, _], _ => rfl⟩
  have M_grants_for : Mtd P w K mg base C "grants_for" 9 (spGrants C) := ⟨f_grants_for, fd_grants_for, ["self", "requests", "blocked"], ok_grants_for F_grants_for T TC M_kind_for, m_grants_for, F_grants_for.binds (ps := ["self", "requests", "blocked"]) fun _ _ _ _ _ _ us hl => match us, hl with | [_, _, _], _ => rfl⟩
  have M_look : Mtd P w K mg base C "look" 10 (spLook C) := ⟨f_look, fd_look, ["self"], ok_look F_look T TC M_grants_for M_answer, m_look, F_look.binds (ps := ["self"]) fun _ _ _ _ _ _ us hl => match us, hl with | [_], _ => rfl⟩
  have M_was_asked : Mtd P w K mg base C "was_asked" 1 (spWas C) := ⟨f_was_asked, fd_was_asked, ["self", "deed_id"], ok_was_asked F_was_asked TC, m_was_asked, F_was_asked.binds (ps := ["self", "deed_id"]) fun _ _ _ _ _ _ us hl => match us, hl with | [_, _], _ => rfl⟩
  have M_ask : Mtd P w K mg base C "ask" 11 (spAsk C) := ⟨f_ask, fd_ask, ["self", "deed_id", "requests"], ok_ask F_ask T TC C_is_key_of M_was_asked M_look, m_ask, F_ask.binds (ps := ["self", "deed_id", "requests"]) fun _ _ _ _ _ _ us hl => match us, hl with | [_, _, _], _ => rfl⟩
  have M_end : Mtd P w K mg base C "end" 11 (spEnd C) := ⟨f_end, fd_end, ["self", "deed_id", "writes"], ok_end F_end T TC C_is_id C_is_key_of C_carry_out M_look, m_end, F_end.binds (ps := ["self", "deed_id", "writes"]) fun _ _ _ _ _ _ us hl => match us, hl with | [_, _, _], _ => rfl⟩
  have M_value : Mtd P w K mg base C "value" 8 (spValue C) := ⟨f_value, fd_value, ["self", "key"], ok_value F_value TC C_is_key_of C_value_in, m_value, F_value.binds (ps := ["self", "key"]) fun _ _ _ _ _ _ us hl => match us, hl with | [_, _], _ => rfl⟩
  have M_all_values : Mtd P w K mg base C "all_values" 8 (spAllValues C) := ⟨f_all_values, fd_all_values, ["self"], ok_all_values F_all_values TC C_pairs_of, m_all_values, F_all_values.binds (ps := ["self"]) fun _ _ _ _ _ _ us hl => match us, hl with | [_], _ => rfl⟩
  have M_waiting : Mtd P w K mg base C "waiting" 1 (spWaiting C) := ⟨f_waiting, fd_waiting, ["self"], ok_waiting F_waiting T TC, m_waiting, F_waiting.binds (ps := ["self"]) fun _ _ _ _ _ _ us hl => match us, hl with | [_], _ => rfl⟩
  have M_granted : Mtd P w K mg base C "granted" 1 (spGranted C) := ⟨f_granted, fd_granted, ["self"], ok_granted F_granted T TC, m_granted, F_granted.binds (ps := ["self"]) fun _ _ _ _ _ _ us hl => match us, hl with | [_], _ => rfl⟩
  have M_trace : Mtd P w K mg base C "trace" 1 (spTrace C) := ⟨f_trace, fd_trace, ["self"], ok_trace F_trace T TC, m_trace, F_trace.binds (ps := ["self"]) fun _ _ _ _ _ _ us hl => match us, hl with | [_], _ => rfl⟩
  have C_law_alike : Cal P w K mg base "_law_alike" 14 (spEx (spAlike C)) := ⟨f_law_alike, fd_law_alike, ["_law_counter", "_law_values_here", "_law_waiting", "_law_standing", "_law_key"], fn_ex fun R => ok_alike F_law_alike T TC R C_law_same C_law_first M_value M_waiting M_granted, h_law_alike, F_law_alike.kp, F_law_alike.binds (ps := ["_law_counter", "_law_values_here", "_law_waiting", "_law_standing", "_law_key"]) fun _ _ _ _ _ _ us hl => match us, hl with | [_, _, _, _, _], _ => rfl⟩
  have C_law_all_alike : Cal P w K mg base "_law_all_alike" 14 (spAllAlike C) := ⟨f_law_all_alike, fd_law_all_alike, ["_law_counter", "_law_values_here", "_law_menu_here", "_law_trace"], ok_all_alike F_law_all_alike T TC C_law_same C_law_shown M_all_values M_trace, h_law_all_alike, F_law_all_alike.kp, F_law_all_alike.binds (ps := ["_law_counter", "_law_values_here", "_law_menu_here", "_law_trace"]) fun _ _ _ _ _ _ us hl => match us, hl with | [_, _, _, _], _ => rfl⟩
  exact ok_law FL T TC ⟨mkC, mI.at_, mI.fn, kpC⟩ hC (ok_init FI T G TC C_is_between) (kbn_init FI) C_law_pool C_law_draw C_law_menu C_law_start C_law_values C_law_requests C_law_id C_law_writes C_law_carried C_law_pass C_law_same C_law_alike C_law_all_alike M_ask M_end
end
end K33

open PySem PySem.W PyProof.Rows
set_option maxHeartbeats 0 in
theorem PySem.Challenge.cw_oncecoin_k33_whole_counter_holds : PySem.Challenge.rw_oncecoin_k33_whole_counter.Holds := by
  w_on; o_law; k_head; (case hw => w_witness2)
  k_fill
  refine L2.walk_of (n := 63) (k := 15) (x := "_law_script") (CX := fun _ => L2.CX0) (sp := fun w => K33.spLaw _) rfl (by decide) rfl ⟨rfl, by decide, by decide⟩ (fun w h Y => PySem.W.kIn_of Y) ?F (fun _ _ a ns hl _ hS => ⟨a, ns, rfl, hS, hl, fun _ => rfl⟩) (fun _ _ _ _ _ z => z)
  case F =>
    intro w mg fa h KX G hmg
    refine' K33.fin (w := w) ?T ?Gl ?cl hmg ?d_is_between ?d_is_word ?d_fits ?d_fit ?d_is_id ?d_has_name ?d_is_key ?d_is_key_of ?d_is_amount ?d_first_value ?d_value_in ?d_carry_out ?d_pairs_of ?d_law_pool ?d_law_draw ?d_law_word ?d_law_id ?d_law_large ?d_law_record ?d_law_other ?d_law_menu ?d_law_mode ?d_law_requests ?d_law_first ?d_law_beside ?d_law_shares ?d_law_pass ?d_law_writes ?d_law_carried ?d_law_start ?d_law_values ?d_law_shown ?d_law_same ?d_law_alike ?d_law_all_alike ?d_law
    (case T =>
      refine' ⟨PySem.W.mg_none_of KX G ?zlen, PySem.W.mg_none_of KX G ?zisinstance, PySem.W.mg_none_of KX G ?zint, PySem.W.mg_none_of KX G ?zbool, PySem.W.mg_none_of KX G ?zstr, PySem.W.mg_none_of KX G ?ztuple, PySem.W.mg_none_of KX G ?zlist, PySem.W.mg_none_of KX G ?zsorted, PySem.W.mg_none_of KX G ?zsum, PySem.W.mg_none_of KX G ?zall, PySem.W.mg_none_of KX G ?zrange, PySem.W.mg_none_of KX G ?zmin, PySem.W.mg_none_of KX G ?zmax, PySem.W.mg_none_of KX G ?zabs, PySem.W.mg_none_of KX G ?zzip⟩
      (case zlen => k_is); (case zisinstance => k_is); (case zint => k_is); (case zbool => k_is); (case zstr => k_is); (case ztuple => k_is); (case zlist => k_is); (case zsorted => k_is); (case zsum => k_is); (case zall => k_is); (case zrange => k_is); (case zmin => k_is); (case zmax => k_is); (case zabs => k_is); (case zzip => k_is))
    (case Gl =>
      refine' ⟨K33.con_mk KX G ?aOFFICE ?rOFFICE, K33.con_mk KX G ?aBANK ?rBANK, K33.con_mk KX G ?aMOST_LETTERS ?rMOST_LETTERS, K33.con_mk KX G ?aLETTERS ?rLETTERS, K33.tup_mk KX G ?aSTORES ?lSTORES ?zSTORES ?rSTORES, K33.tup_mk KX G ?aOFFICE_NAMES ?lOFFICE_NAMES ?zOFFICE_NAMES ?rOFFICE_NAMES, K33.tup_mk KX G ?aSTORE_NAMES ?lSTORE_NAMES ?zSTORE_NAMES ?rSTORE_NAMES, K33.tup_mk KX G ?aRECORD_NAMES ?lRECORD_NAMES ?zRECORD_NAMES ?rRECORD_NAMES, ⟨_, _, _, PySem.W.mg_of KX G ?aRg, ⟨?lRg, ?kRg, ?wRg⟩, K33.non_mk (x := "word") rfl ?nWd, K33.sub_mk (x := "customer") rfl ?aCu ?lCu ?zCu ?rCu, K33.sub_mk (x := "number") rfl ?aNu ?lNu ?zNu ?rNu, K33.sub_mk (x := "buyer") rfl ?aBu ?lBu ?zBu ?rBu⟩, ⟨_, _, _, PySem.W.mg_of KX G ?aKp, ⟨?lKp, ?kKp, ?wKp⟩, ?pKp⟩⟩
      (case aOFFICE => k_is); (case rOFFICE => exact ⟨_, rfl⟩)
      (case aBANK => k_is); (case rBANK => exact ⟨_, rfl⟩)
      (case aMOST_LETTERS => k_is); (case rMOST_LETTERS => exact ⟨_, rfl⟩)
      (case aLETTERS => k_is); (case rLETTERS => exact ⟨_, rfl⟩)
      (case aSTORES => k_is); (case lSTORES => k_is); (case zSTORES => decide); (case rSTORES => repeat (first | exact .nil | refine .cons ⟨_, rfl⟩ ?_))
      (case aOFFICE_NAMES => k_is); (case lOFFICE_NAMES => k_is); (case zOFFICE_NAMES => decide); (case rOFFICE_NAMES => repeat (first | exact .nil | refine .cons ⟨_, rfl⟩ ?_))
      (case aSTORE_NAMES => k_is); (case lSTORE_NAMES => k_is); (case zSTORE_NAMES => decide); (case rSTORE_NAMES => repeat (first | exact .nil | refine .cons ⟨_, rfl⟩ ?_))
      (case aRECORD_NAMES => k_is); (case lRECORD_NAMES => k_is); (case zRECORD_NAMES => decide); (case rRECORD_NAMES => repeat (first | exact .nil | refine .cons ⟨_, rfl⟩ ?_))
      (case aRg => k_is); (case lRg => k_is); (case kRg => repeat (first | exact True.intro | refine ⟨⟨_, _, rfl, rfl⟩, ?_⟩)); (case wRg => decide); (case nWd => k_is)
      (case aCu => k_is); (case lCu => k_is); (case zCu => decide); (case rCu => repeat (first | exact .nil | refine .cons ⟨_, rfl⟩ ?_))
      (case aNu => k_is); (case lNu => k_is); (case zNu => decide); (case rNu => repeat (first | exact .nil | refine .cons ⟨_, rfl⟩ ?_))
      (case aBu => k_is); (case lBu => k_is); (case zBu => decide); (case rBu => repeat (first | exact .nil | refine .cons ⟨_, rfl⟩ ?_))
      (case aKp => k_is); (case lKp => k_is); (case kKp => repeat (first | exact True.intro | refine ⟨⟨_, _, rfl, rfl⟩, ?_⟩)); (case wKp => decide)
      (case pKp =>
        intro m
        cases m with
        | price =>
          refine' K33.sub_mk (x := "price") rfl ?a ?l ?z ?r
          (case a => k_is); (case l => k_is); (case z => decide); (case r => repeat (first | exact .nil | refine .cons ⟨_, rfl⟩ ?_))
        | rate =>
          refine' K33.sub_mk (x := "rate") rfl ?a ?l ?z ?r
          (case a => k_is); (case l => k_is); (case z => decide); (case r => exact K33.vnil rfl rfl)
        | coupon =>
          refine' K33.sub_mk (x := "coupon") rfl ?a ?l ?z ?r
          (case a => k_is); (case l => k_is); (case z => decide); (case r => repeat (first | exact .nil | refine .cons ⟨_, rfl⟩ ?_))
        | order =>
          refine' K33.sub_mk (x := "order") rfl ?a ?l ?z ?r
          (case a => k_is); (case l => k_is); (case z => decide); (case r => repeat (first | exact .nil | refine .cons ⟨_, rfl⟩ ?_))
        | road =>
          refine' K33.sub_mk (x := "road") rfl ?a ?l ?z ?r
          (case a => k_is); (case l => k_is); (case z => decide); (case r => repeat (first | exact .nil | refine .cons ⟨_, rfl⟩ ?_))
        | away =>
          refine' K33.sub_mk (x := "away") rfl ?a ?l ?z ?r
          (case a => k_is); (case l => k_is); (case z => decide); (case r => repeat (first | exact .nil | refine .cons ⟨_, rfl⟩ ?_))
        | came =>
          refine' K33.sub_mk (x := "came") rfl ?a ?l ?z ?r
          (case a => k_is); (case l => k_is); (case z => decide); (case r => repeat (first | exact .nil | refine .cons ⟨_, rfl⟩ ?_))
        | free =>
          refine' K33.sub_mk (x := "free") rfl ?a ?l ?z ?r
          (case a => k_is); (case l => k_is); (case z => decide); (case r => repeat (first | exact .nil | refine .cons ⟨_, rfl⟩ ?_))
        | held =>
          refine' K33.sub_mk (x := "held") rfl ?a ?l ?z ?r
          (case a => k_is); (case l => k_is); (case z => decide); (case r => repeat (first | exact .nil | refine .cons ⟨_, rfl⟩ ?_))
        | out =>
          refine' K33.sub_mk (x := "out") rfl ?a ?l ?z ?r
          (case a => k_is); (case l => k_is); (case z => decide); (case r => repeat (first | exact .nil | refine .cons ⟨_, rfl⟩ ?_))
        | purse =>
          refine' K33.sub_mk (x := "purse") rfl ?a ?l ?z ?r
          (case a => k_is); (case l => k_is); (case z => decide); (case r => repeat (first | exact .nil | refine .cons ⟨_, rfl⟩ ?_))
        | kept =>
          refine' K33.sub_mk (x := "kept") rfl ?a ?l ?z ?r
          (case a => k_is); (case l => k_is); (case z => decide); (case r => exact K33.vnil rfl rfl)
        | till =>
          refine' K33.sub_mk (x := "till") rfl ?a ?l ?z ?r
          (case a => k_is); (case l => k_is); (case z => decide); (case r => exact K33.vnil rfl rfl)
        | paid =>
          refine' K33.sub_mk (x := "paid") rfl ?a ?l ?z ?r
          (case a => k_is); (case l => k_is); (case z => decide); (case r => exact K33.vnil rfl rfl)))
    (case cl =>
      refine' K33.cls_mk KX G ?aC ?pg ?hd ?po ?sa ?mk ?kc ?n1 ?n2 ?n3 ?n4 ?n5 ?m0 ?m_standing_on ?m_kind_for ?m_answer ?m_grants_for ?m_look ?m_was_asked ?m_ask ?m_end ?m_value ?m_all_values ?m_waiting ?m_granted ?m_trace
      (case aC => k_is)
      (case pg => k_is)
      (case hd => k_is)
      (case po => k_is)
      (case sa => k_is)
      (case mk => k_is)
      (case kc => k_is)
      (case n1 => k_is)
      (case n2 => k_is)
      (case n3 => k_is)
      (case n4 => k_is)
      (case n5 => k_is)
      (case m0 => refine' K33.met_mk ?a ?i ?l ?c ?k; (case a => k_is); (case i => k_is); (case l => k_is); (case c => k_is); (case k => k_is))
      (case m_standing_on => refine' K33.met_mk ?a ?i ?l ?c ?k; (case a => k_is); (case i => k_is); (case l => k_is); (case c => k_is); (case k => k_is))
      (case m_kind_for => refine' K33.met_mk ?a ?i ?l ?c ?k; (case a => k_is); (case i => k_is); (case l => k_is); (case c => k_is); (case k => k_is))
      (case m_answer => refine' K33.met_mk ?a ?i ?l ?c ?k; (case a => k_is); (case i => k_is); (case l => k_is); (case c => k_is); (case k => k_is))
      (case m_grants_for => refine' K33.met_mk ?a ?i ?l ?c ?k; (case a => k_is); (case i => k_is); (case l => k_is); (case c => k_is); (case k => k_is))
      (case m_look => refine' K33.met_mk ?a ?i ?l ?c ?k; (case a => k_is); (case i => k_is); (case l => k_is); (case c => k_is); (case k => k_is))
      (case m_was_asked => refine' K33.met_mk ?a ?i ?l ?c ?k; (case a => k_is); (case i => k_is); (case l => k_is); (case c => k_is); (case k => k_is))
      (case m_ask => refine' K33.met_mk ?a ?i ?l ?c ?k; (case a => k_is); (case i => k_is); (case l => k_is); (case c => k_is); (case k => k_is))
      (case m_end => refine' K33.met_mk ?a ?i ?l ?c ?k; (case a => k_is); (case i => k_is); (case l => k_is); (case c => k_is); (case k => k_is))
      (case m_value => refine' K33.met_mk ?a ?i ?l ?c ?k; (case a => k_is); (case i => k_is); (case l => k_is); (case c => k_is); (case k => k_is))
      (case m_all_values => refine' K33.met_mk ?a ?i ?l ?c ?k; (case a => k_is); (case i => k_is); (case l => k_is); (case c => k_is); (case k => k_is))
      (case m_waiting => refine' K33.met_mk ?a ?i ?l ?c ?k; (case a => k_is); (case i => k_is); (case l => k_is); (case c => k_is); (case k => k_is))
      (case m_granted => refine' K33.met_mk ?a ?i ?l ?c ?k; (case a => k_is); (case i => k_is); (case l => k_is); (case c => k_is); (case k => k_is))
      (case m_trace => refine' K33.met_mk ?a ?i ?l ?c ?k; (case a => k_is); (case i => k_is); (case l => k_is); (case c => k_is); (case k => k_is)))
    (case d_is_between => refine' K33.def_mk KX G ?a ?l ?c ?k; (case a => k_is); (case l => k_is); (case c => k_is); (case k => k_is))
    (case d_is_word => refine' K33.def_mk KX G ?a ?l ?c ?k; (case a => k_is); (case l => k_is); (case c => k_is); (case k => k_is))
    (case d_fits => refine' K33.def_mk KX G ?a ?l ?c ?k; (case a => k_is); (case l => k_is); (case c => k_is); (case k => k_is))
    (case d_fit => refine' K33.def_mk KX G ?a ?l ?c ?k; (case a => k_is); (case l => k_is); (case c => k_is); (case k => k_is))
    (case d_is_id => refine' K33.def_mk KX G ?a ?l ?c ?k; (case a => k_is); (case l => k_is); (case c => k_is); (case k => k_is))
    (case d_has_name => refine' K33.def_mk KX G ?a ?l ?c ?k; (case a => k_is); (case l => k_is); (case c => k_is); (case k => k_is))
    (case d_is_key => refine' K33.def_mk KX G ?a ?l ?c ?k; (case a => k_is); (case l => k_is); (case c => k_is); (case k => k_is))
    (case d_is_key_of => refine' K33.def_mk KX G ?a ?l ?c ?k; (case a => k_is); (case l => k_is); (case c => k_is); (case k => k_is))
    (case d_is_amount => refine' K33.def_mk KX G ?a ?l ?c ?k; (case a => k_is); (case l => k_is); (case c => k_is); (case k => k_is))
    (case d_first_value => refine' K33.def_mk KX G ?a ?l ?c ?k; (case a => k_is); (case l => k_is); (case c => k_is); (case k => k_is))
    (case d_value_in => refine' K33.def_mk KX G ?a ?l ?c ?k; (case a => k_is); (case l => k_is); (case c => k_is); (case k => k_is))
    (case d_carry_out => refine' K33.def_mk KX G ?a ?l ?c ?k; (case a => k_is); (case l => k_is); (case c => k_is); (case k => k_is))
    (case d_pairs_of => refine' K33.def_mk KX G ?a ?l ?c ?k; (case a => k_is); (case l => k_is); (case c => k_is); (case k => k_is))
    (case d_law_pool => refine' K33.def_mk KX G ?a ?l ?c ?k; (case a => k_is); (case l => k_is); (case c => k_is); (case k => k_is))
    (case d_law_draw => refine' K33.def_mk KX G ?a ?l ?c ?k; (case a => k_is); (case l => k_is); (case c => k_is); (case k => k_is))
    (case d_law_word => refine' K33.def_mk KX G ?a ?l ?c ?k; (case a => k_is); (case l => k_is); (case c => k_is); (case k => k_is))
    (case d_law_id => refine' K33.def_mk KX G ?a ?l ?c ?k; (case a => k_is); (case l => k_is); (case c => k_is); (case k => k_is))
    (case d_law_large => refine' K33.def_mk KX G ?a ?l ?c ?k; (case a => k_is); (case l => k_is); (case c => k_is); (case k => k_is))
    (case d_law_record => refine' K33.def_mk KX G ?a ?l ?c ?k; (case a => k_is); (case l => k_is); (case c => k_is); (case k => k_is))
    (case d_law_other => refine' K33.def_mk KX G ?a ?l ?c ?k; (case a => k_is); (case l => k_is); (case c => k_is); (case k => k_is))
    (case d_law_menu => refine' K33.def_mk KX G ?a ?l ?c ?k; (case a => k_is); (case l => k_is); (case c => k_is); (case k => k_is))
    (case d_law_mode => refine' K33.def_mk KX G ?a ?l ?c ?k; (case a => k_is); (case l => k_is); (case c => k_is); (case k => k_is))
    (case d_law_requests => refine' K33.def_mk KX G ?a ?l ?c ?k; (case a => k_is); (case l => k_is); (case c => k_is); (case k => k_is))
    (case d_law_first => refine' K33.def_mk KX G ?a ?l ?c ?k; (case a => k_is); (case l => k_is); (case c => k_is); (case k => k_is))
    (case d_law_beside => refine' K33.def_mk KX G ?a ?l ?c ?k; (case a => k_is); (case l => k_is); (case c => k_is); (case k => k_is))
    (case d_law_shares => refine' K33.def_mk KX G ?a ?l ?c ?k; (case a => k_is); (case l => k_is); (case c => k_is); (case k => k_is))
    (case d_law_pass => refine' K33.def_mk KX G ?a ?l ?c ?k; (case a => k_is); (case l => k_is); (case c => k_is); (case k => k_is))
    (case d_law_writes => refine' K33.def_mk KX G ?a ?l ?c ?k; (case a => k_is); (case l => k_is); (case c => k_is); (case k => k_is))
    (case d_law_carried => refine' K33.def_mk KX G ?a ?l ?c ?k; (case a => k_is); (case l => k_is); (case c => k_is); (case k => k_is))
    (case d_law_start => refine' K33.def_mk KX G ?a ?l ?c ?k; (case a => k_is); (case l => k_is); (case c => k_is); (case k => k_is))
    (case d_law_values => refine' K33.def_mk KX G ?a ?l ?c ?k; (case a => k_is); (case l => k_is); (case c => k_is); (case k => k_is))
    (case d_law_shown => refine' K33.def_mk KX G ?a ?l ?c ?k; (case a => k_is); (case l => k_is); (case c => k_is); (case k => k_is))
    (case d_law_same => refine' K33.def_mk KX G ?a ?l ?c ?k; (case a => k_is); (case l => k_is); (case c => k_is); (case k => k_is))
    (case d_law_alike => refine' K33.def_mk KX G ?a ?l ?c ?k; (case a => k_is); (case l => k_is); (case c => k_is); (case k => k_is))
    (case d_law_all_alike => refine' K33.def_mk KX G ?a ?l ?c ?k; (case a => k_is); (case l => k_is); (case c => k_is); (case k => k_is))
    (case d_law => refine' K33.def_mk KX G ?a ?l ?c ?k; (case a => k_is); (case l => k_is); (case c => k_is); (case k => k_is))
