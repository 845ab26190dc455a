import PyProof.Rows.All
import Wide.All
import OpenK.AllK
import Wide.FinOn
import HandS.ForMost
import HandS.IsInst
import HandS.Style
import HandS.StrMore
import HandS.Replace
import HandS.SortRule
import HandS.DictTup
import HandS.Deep
import HandS.TupSets
import HandS.Codes
import HandS.Walk
import HandS.TupLe
import KE.GoesMore
import KE.GoesNew
import KE.SortData
import PySem.Challenge.RW_squarewalk_k05_whole_between
set_option Elab.async false
set_option linter.all false
set_option maxRecDepth 100000
set_option maxHeartbeats 4000000
/-! Sw: data in the place of heaps. -/
namespace Sw
open PySem PySem.Spec PyProof.Rows L2

/-! ### frozen data: no list, no dict within -/
mutual
def fz : PyData → Bool
  | .list _ => false
  | .dict _ => false
  | .tuple ds => fzs ds
  | .none => true
  | .bool _ => true
  | .int _ => true
  | .str _ => true
def fzs : List PyData → Bool
  | [] => true
  | d :: ds => fz d && fzs ds
end
theorem fzs_append : ∀ a b : List PyData, fzs (a ++ b) = (fzs a && fzs b)
  | [], b => by simp [fzs]
  | d :: a, b => by simp [fzs, fzs_append a b, Bool.and_assoc]
theorem fzs_mem {d : PyData} : ∀ {ds : List PyData}, fzs ds = true → d ∈ ds → fz d = true
  | e :: ds, h, hm => by
    simp only [fzs, Bool.and_eq_true] at h
    rcases List.mem_cons.mp hm with rfl | hm
    · exact h.1
    · exact fzs_mem h.2 hm
theorem fzs_of : ∀ {ds : List PyData}, (∀ d ∈ ds, fz d = true) → fzs ds = true
  | [], _ => rfl
  | d :: ds, h => by
    simp only [fzs, Bool.and_eq_true]
    exact ⟨h d (List.mem_cons_self ..), fzs_of fun e m => h e (List.mem_cons_of_mem _ m)⟩
theorem fzs_map {α : Type} {f : α → PyData} {l : List α} (h : ∀ a, fz (f a) = true) : fzs (l.map f) = true := fzs_of fun d hd => by
  obtain ⟨a, _, rfl⟩ := List.mem_map.mp hd
  exact h a

/-! ### how the heap holds data: lists that can be read, tuples that are tracked -/
mutual
inductive Rp (K : PySem.W.Frag) (H : Hp) : V → PyData → Prop
  | non : Rp K H .non .none
  | bl (b : Bool) : Rp K H (.bl b) (.bool b)
  | int (i : Int) : Rp K H (.int i) (.int i)
  | str (x : Str) : Rp K H (.str x) (.str x)
  | lst {a : Addr} {xs : List V} {ds : List PyData} : SqL K H a xs → RpAll K H xs ds → Rp K H (.ref a) (.list ds)
  | tup {a : Addr} {xs : List V} {ds : List PyData} : H a = some (.tup xs) → RpAll K H xs ds → Rp K H (.ref a) (.tuple ds)
inductive RpAll (K : PySem.W.Frag) (H : Hp) : List V → List PyData → Prop
  | nil : RpAll K H [] []
  | cons {v : V} {vs : List V} {d : PyData} {ds : List PyData} : Rp K H v d → RpAll K H vs ds → RpAll K H (v :: vs) (d :: ds)
end
mutual
theorem rp_dp {K : PySem.W.Frag} {H : Hp} : ∀ (d : PyData) (v : V), Rp K H v d → Dp K H v d
  | .none, _, h => by cases h; exact .non
  | .bool b, _, h => by cases h; exact .bl b
  | .int i, _, h => by cases h; exact .int i
  | .str x, _, h => by cases h; exact .str x
  | .list ds, _, h => by
    cases h with
    | lst hs ha => exact .lst hs (rps_dps ds _ ha)
  | .tuple ds, _, h => by
    cases h with
    | tup hs ha => exact .tup (.of hs) (rps_dps ds _ ha)
  | .dict _, _, h => by cases h
theorem rps_dps {K : PySem.W.Frag} {H : Hp} : ∀ (ds : List PyData) (vs : List V), RpAll K H vs ds → DpAll K H vs ds
  | [], _, h => by cases h; exact .nil
  | d :: ds, _, h => by
    cases h with
    | cons h1 h2 => exact .cons (rp_dp d _ h1) (rps_dps ds _ h2)
end

theorem same_rd {H H' : Hp} {a : Addr} {u : HO} (e : Same H H') (h : Rd H a u) : Rd H' a u := by
  rcases h with h | ⟨o, h⟩
  · exact .inl (e _ _ h)
  · exact .inr ⟨o, e _ _ h⟩
/-- what a change leaves: tuples -/
structure Keep (H H' : Hp) : Prop where
  t : ∀ a xs, H a = some (.tup xs) → H' a = some (.tup xs)

section
variable {K : PySem.W.Frag} {H H' : Hp}
mutual
theorem dmono (e : Same H H') : ∀ (d : PyData) (v : V), Rp K H v d → Rp K H' v d
  | .none, _, h => by cases h; exact .non
  | .bool b, _, h => by cases h; exact .bl b
  | .int i, _, h => by cases h; exact .int i
  | .str x, _, h => by cases h; exact .str x
  | .list ds, _, h => by
    cases h with
    | lst hs ha => exact .lst (e.seq hs) (dmonos e ds _ ha)
  | .tuple ds, _, h => by
    cases h with
    | tup hs ha => exact   .tup (e _ _ hs) (dmonos e ds _ ha)
  | .dict _, _, h => by cases h
theorem dmonos (e : Same H H') : ∀ (ds : List PyData) (vs : List V), RpAll K H vs ds → RpAll K H' vs ds
  | [], _, h => by cases h; exact .nil
  | d :: ds, _, h => by
    cases h with
    | cons h1 h2 => exact .cons (dmono e d _ h1) (dmonos e ds _ h2)
end
mutual
theorem dkeep (e : Keep H H') : ∀ (d : PyData) (v : V), fz d = true → Rp K H v d → Rp K H' v d
  | .none, _, _, h => by cases h; exact .non
  | .bool b, _, _, h => by cases h; exact .bl b
  | .int i, _, _, h => by cases h; exact .int i
  | .str x, _, _, h => by cases h; exact .str x
  | .list ds, _, f, h => by simp [fz] at f
  | .tuple ds, _, f, h => by
    cases h with
    | tup hs ha => exact .tup (e.t _ _ hs) (dkeeps e ds _ (by simpa [fz] using f) ha)
  | .dict _, _, _, h => by cases h
theorem dkeeps (e : Keep H H') : ∀ (ds : List PyData) (vs : List V), fzs ds = true → RpAll K H vs ds → RpAll K H' vs ds
  | [], _, _, h => by cases h; exact .nil
  | d :: ds, _, f, h => by
    cases h with
    | cons h1 h2 =>
      simp only [fzs, Bool.and_eq_true] at f
      exact .cons (dkeep e d _ f.1 h1) (dkeeps e ds _ f.2 h2)
end
theorem _root_.L2.Same.kp {H H' : Hp} (e : Same H H') : Keep H H' := ⟨fun _ _ h => e _ _ h⟩
theorem Rp.mono {v : V} {d : PyData} (h : Rp K H v d) (e : Same H H') : Rp K H' v d := dmono e d v h
theorem RpAll.mono {v : List V} {d : List PyData} (h : RpAll K H v d) (e : Same H H') : RpAll K H' v d := dmonos e d v h
theorem RpAll.len : ∀ {vs : List V} {ds : List PyData}, RpAll K H vs ds → vs.length = ds.length
  | _, _, .nil => rfl
  | _, _, .cons _ h => by rw [List.length_cons, List.length_cons, RpAll.len h]
theorem RpAll.append : ∀ {vs ws : List V} {ds es : List PyData}, RpAll K H vs ds → RpAll K H ws es → RpAll K H (vs ++ ws) (ds ++ es)
  | _, _, _, _, .nil, h => h
  | _, _, _, _, .cons h t, g => .cons h (RpAll.append t g)
theorem RpAll.get : ∀ {vs : List V} {ds : List PyData} {i : Nat} {d : PyData}, RpAll K H vs ds → ds[i]? = some d → ∃ v, vs[i]? = some v ∧ Rp K H v d
  | _, _, _, _, .nil, h => by simp at h
  | v :: _, _, 0, d, .cons h _, e => by
    simp at e
    subst e
    exact ⟨v, rfl, h⟩
  | _ :: _, _, i + 1, d, .cons _ t, e => by
    obtain ⟨v, h1, h2⟩ := RpAll.get (i := i) (d := d) t (by simpa using e)
    exact ⟨v, by simpa using h1, h2⟩
theorem RpAll.get' : ∀ {vs : List V} {ds : List PyData} {i : Nat} {v : V}, RpAll K H vs ds → vs[i]? = some v → ∃ d, ds[i]? = some d ∧ Rp K H v d
  | _, _, _, _, .nil, h => by simp at h
  | _ :: _, d :: _, 0, v, .cons h _, e => by
    simp at e
    subst e
    exact ⟨d, rfl, h⟩
  | _ :: _, _, i + 1, v, .cons _ t, e => by
    obtain ⟨d, h1, h2⟩ := RpAll.get' (i := i) (v := v) t (by simpa using e)
    exact ⟨d, by simpa using h1, h2⟩
theorem RpAll.take : ∀ {vs : List V} {ds : List PyData} (n : Nat), RpAll K H vs ds → RpAll K H (vs.take n) (ds.take n)
  | _, _, 0, _ => .nil
  | _, _, _ + 1, .nil => .nil
  | _, _, n + 1, .cons h t => .cons h (RpAll.take n t)
theorem RpAll.drop : ∀ {vs : List V} {ds : List PyData} (n : Nat), RpAll K H vs ds → RpAll K H (vs.drop n) (ds.drop n)
  | _, _, 0, h => h
  | _, _, _ + 1, .nil => .nil
  | _, _, n + 1, .cons _ t => RpAll.drop n t
theorem RpAll.dropLast : ∀ {vs : List V} {ds : List PyData}, RpAll K H vs ds → RpAll K H vs.dropLast ds.dropLast
  | _, _, .nil => .nil
  | _, _, .cons h .nil => .nil
  | _, _, .cons h (.cons h2 t) => .cons h (RpAll.dropLast (.cons h2 t))
theorem RpAll.set : ∀ {vs : List V} {ds : List PyData} (n : Nat) {v : V} {d : PyData}, RpAll K H vs ds → Rp K H v d → RpAll K H (vs.set n v) (ds.set n d)
  | _, _, _, _, _, .nil, _ => .nil
  | _, _, 0, _, _, .cons h t, g => .cons g t
  | _, _, n + 1, _, _, .cons h t, g => .cons h (RpAll.set n t g)
theorem RpAll.reverse : ∀ {vs : List V} {ds : List PyData}, RpAll K H vs ds → RpAll K H vs.reverse ds.reverse
  | _, _, .nil => .nil
  | _, _, .cons h t => by
    rw [List.reverse_cons, List.reverse_cons]
    exact RpAll.append (RpAll.reverse t) (.cons h .nil)
theorem RpAll.ints : ∀ (ns : List Int), RpAll K H (ns.map V.int) (ns.map PyData.int)
  | [] => .nil
  | n :: ns => .cons (.int n) (RpAll.ints ns)
theorem RpAll.strs : ∀ (ns : List Str), RpAll K H (ns.map V.str) (ns.map PyData.str)
  | [] => .nil
  | n :: ns => .cons (.str n) (RpAll.strs ns)
theorem ints_of : ∀ {vs : List V} {ns : List Int}, RpAll K H vs (ns.map PyData.int) → vs = ns.map V.int
  | _, [], .nil => rfl
  | _, n :: ns, .cons h t => by
    cases h
    rw [ints_of t]
    rfl
theorem strs_of : ∀ {vs : List V} {ns : List Str}, RpAll K H vs (ns.map PyData.str) → vs = ns.map V.str
  | _, [], .nil => rfl
  | _, n :: ns, .cons h t => by
    cases h
    rw [strs_of t]
    rfl
theorem bls_of : ∀ {vs : List V} {ns : List Bool}, RpAll K H vs (ns.map PyData.bool) → vs = ns.map V.bl
  | _, [], .nil => rfl
  | _, n :: ns, .cons h t => by
    cases h
    rw [bls_of t]
    rfl
end

/-! ### what a slot holds -/
/-- something that stands still, told by a relation -/
structure Fix where
  p : PySem.W.Frag → Hp → V → Prop
  mono : ∀ {K : PySem.W.Frag} {H H' : Hp} {v : V}, p K H v → Same H H' → p K H' v
inductive SV where
  /-- data -/
  | d (x : PyData)
  /-- a list of the def's own, which it may change -/
  | l (ds : List PyData)
  /-- a dict of the def's own, keys tuples -/
  | m (kvs : List (List Key × PyData))
  /-- a dict that is walked: it stands still -/
  | k (kvs : List (List Key × PyData))
  /-- something else that stands still -/
  | g (R : Fix)
def KvD (K : PySem.W.Frag) (H : Hp) : List (List Key × V) → List (List Key × PyData) → Prop := Paired fun p q => p.1 = q.1 ∧ Rp K H p.2 q.2
def vfz (kvs : List (List Key × PyData)) : Bool := fzs (kvs.map (·.2))
/-- as it is read at H -/
def SvE (K : PySem.W.Frag) (H : Hp) (v : V) : SV → Prop
  | .d x => Rp K H v x
  | .l ds => ∃ l vs, v = .ref l ∧ H l = some (.lst vs) ∧ RpAll K H vs ds
  | .m kvs => ∃ l kv, v = .ref l ∧ H l = some (.dT kv) ∧ KvD K H kv kvs
  | .k kvs => ∃ l kv, v = .ref l ∧ Rd H l (.dT kv) ∧ KvD K H kv kvs
  | .g R => R.p K H v
/-- as it is kept: what stands still at B, what may change at H alone -/
def SvOk (K : PySem.W.Frag) (B H : Hp) (v : V) : SV → Prop
  | .d x => Rp K B v x ∨ (fz x = true ∧ Rp K H v x)
  | .l ds => ∃ l vs, v = .ref l ∧ B l = none ∧ H l = some (.lst vs) ∧ RpAll K H vs ds ∧ fzs ds = true
  | .m kvs => ∃ l kv, v = .ref l ∧ B l = none ∧ H l = some (.dT kv) ∧ KvD K H kv kvs ∧ vfz kvs = true
  | .k kvs => ∃ l kv, v = .ref l ∧ (∃ o, B l = some (.frz o (.dT kv))) ∧ KvD K B kv kvs ∧ vfz kvs = true
  | .g R => R.p K B v
def SV.own : SV → Bool
  | .d _ => false
  | .l _ => true
  | .m _ => true
  | .k _ => false
  | .g _ => false
abbrev En := List (Option SV)
def EnvE (K : PySem.W.Frag) (H : Hp) (σ : L2.St) (env : En) : Prop := ∀ (i : Nat) (s : SV), env[i]? = some (some s) → ∃ v, σ[i]? = some (some v) ∧ SvE K H v s
structure StOk (K : PySem.W.Frag) (H0 B H : Hp) (σ : L2.St) (env : En) : Prop where
  e0 : Same H0 B
  e1 : Same B H
  len : σ.length = env.length
  sl : ∀ (i : Nat) (s : SV), env[i]? = some (some s) → ∃ v, σ[i]? = some (some v) ∧ SvOk K B H v s
  sep : ∀ (i j : Nat) (s t : SV) (v : V), env[i]? = some (some s) → env[j]? = some (some t) → s.own = true → t.own = true → σ[i]? = some (some v) → σ[j]? = some (some v) → i = j
section
variable {K : PySem.W.Frag} {H0 B B' H H' : Hp} {σ : L2.St} {env : En}
theorem KvD.mono (e : Same H H') : ∀ {kv : List (List Key × V)} {kvs : List (List Key × PyData)}, KvD K H kv kvs → KvD K H' kv kvs
  | _, _, .nil => .nil
  | _, _, .cons h t => .cons ⟨h.1, h.2.mono e⟩ (KvD.mono e t)
theorem KvD.keep (e : Keep H H') : ∀ {kv : List (List Key × V)} {kvs : List (List Key × PyData)}, vfz kvs = true → KvD K H kv kvs → KvD K H' kv kvs
  | _, _, _, .nil => .nil
  | _, _, f, .cons h t => by
    have f' : (fz _ && fzs _) = true := f
    rw [Bool.and_eq_true] at f'
    exact .cons ⟨h.1, dkeep e _ _ f'.1 h.2⟩ (KvD.keep e f'.2 t)
theorem SvE.mono {v : V} {s : SV} (h : SvE K H v s) (e : Same H H') : SvE K H' v s := by
  cases s with
  | d x => exact Rp.mono h e
  | l ds => obtain ⟨l, vs, h1, h2, h3⟩ := h; exact ⟨l, vs, h1, e _ _ h2, h3.mono e⟩
  | m kvs => obtain ⟨l, kv, h1, h2, h3⟩ := h; exact ⟨l, kv, h1, e _ _ h2, h3.mono e⟩
  | k kvs => obtain ⟨l, kv, h1, h2, h3⟩ := h; exact ⟨l, kv, h1, same_rd e h2, h3.mono e⟩
  | g R => exact R.mono h e
theorem EnvE.mono (h : EnvE K H σ env) (e : Same H H') : EnvE K H' σ env := fun i s hi => let ⟨v, h1, h2⟩ := h i s hi; ⟨v, h1, h2.mono e⟩
theorem SvOk.e (e1 : Same B H) {v : V} {s : SV} (h : SvOk K B H v s) : SvE K H v s := by
  cases s with
  | d x =>
    rcases h with h | h
    · exact Rp.mono h e1
    · exact h.2
  | l ds => obtain ⟨l, vs, h1, _, h2, h3, _⟩ := h; exact ⟨l, vs, h1, h2, h3⟩
  | m kvs => obtain ⟨l, kv, h1, _, h2, h3, _⟩ := h; exact ⟨l, kv, h1, h2, h3⟩
  | k kvs => obtain ⟨l, kv, h1, ⟨o, h2⟩, h3, _⟩ := h; exact ⟨l, kv, h1, .inr ⟨o, e1 _ _ h2⟩, h3.mono e1⟩
  | g R => exact R.mono h e1
theorem StOk.e (h : StOk K H0 B H σ env) : EnvE K H σ env := fun i s hi => let ⟨v, h1, h2⟩ := h.sl i s hi; ⟨v, h1, h2.e h.e1⟩
/-- the heap grows -/
theorem SvOk.grow {v : V} {s : SV} (h : SvOk K B H v s) (e : Same H H') : SvOk K B H' v s := by
  cases s with
  | d x =>
    rcases h with h | h
    · exact .inl h
    · exact .inr ⟨h.1, h.2.mono e⟩
  | l ds => obtain ⟨l, vs, h1, h0, h2, h3, h4⟩ := h; exact ⟨l, vs, h1, h0, e _ _ h2, h3.mono e, h4⟩
  | m kvs => obtain ⟨l, kv, h1, h0, h2, h3, h4⟩ := h; exact ⟨l, kv, h1, h0, e _ _ h2, h3.mono e, h4⟩
  | k kvs => exact h
  | g R => exact h
theorem StOk.grow (h : StOk K H0 B H σ env) (e : Same H H') : StOk K H0 B H' σ env :=
  ⟨h.e0, h.e1.trans e, h.len, fun i s hi => let ⟨v, h1, h2⟩ := h.sl i s hi; ⟨v, h1, h2.grow e⟩, h.sep⟩
theorem set_get {α : Type} {l : List α} {i j : Nat} {x y : α} (h : (l.set i x)[j]? = some y) : (j = i ∧ y = x) ∨ (j ≠ i ∧ l[j]? = some y) := by
  by_cases e : i = j
  · subst e
    by_cases hl : i < l.length
    · rw [List.getElem?_set_self hl] at h
      exact .inl ⟨rfl, (Option.some.inj h).symm⟩
    · rw [List.getElem?_eq_none (by simpa using hl)] at h
      cases h
  · rw [List.getElem?_set_ne e] at h
    exact .inr ⟨fun z => e z.symm, h⟩
/-- a slot takes a new value -/
theorem StOk.put (h : StOk K H0 B H σ env) {i : Nat} {v : V} {s : SV} (hv : SvOk K B H v s)
    (hs : s.own = true → ∀ (j : Nat) (t : SV) , j ≠ i → env[j]? = some (some t) → t.own = true → σ[j]? ≠ some (some v)) : StOk K H0 B H (σ.set i (some v)) (env.set i (some s)) := by
  have at_ : ∀ (j : Nat) (t : SV), (env.set i (some s))[j]? = some (some t) → (j = i ∧ t = s ∧ (σ.set i (some v))[j]? = some (some v)) ∨ (j ≠ i ∧ env[j]? = some (some t) ∧ (σ.set i (some v))[j]? = σ[j]?) := by
    intro j t hj
    rcases set_get hj with ⟨rfl, e⟩ | ⟨ne, e⟩
    · refine .inl ⟨rfl, Option.some.inj e, ?_⟩
      have hlt : j < (env.set j (some s)).length := (List.getElem?_eq_some_iff.mp hj).1
      rw [List.length_set, ← h.len] at hlt
      exact List.getElem?_set_self hlt
    · exact .inr ⟨ne, e, List.getElem?_set_ne (fun z => ne z.symm)⟩
  refine ⟨h.e0, h.e1, by rw [List.length_set, List.length_set, h.len], fun j t hj => ?_, fun j k t u w hj hk oj ok wj wk => ?_⟩
  · rcases at_ j t hj with ⟨_, rfl, e⟩ | ⟨_, e1, e2⟩
    · exact ⟨v, e, hv⟩
    · obtain ⟨w, h1, h2⟩ := h.sl j t e1
      exact ⟨w, by rw [e2]; exact h1, h2⟩
  · rcases at_ j t hj with ⟨rfl, rfl, e⟩ | ⟨nj, e1, e2⟩
    · rcases at_ k u hk with ⟨rfl, rfl, e'⟩ | ⟨nk, e1', e2'⟩
      · rfl
      · rw [e] at wj
        cases wj
        rw [e2'] at wk
        exact absurd wk (hs oj k u nk e1' ok)
    · rcases at_ k u hk with ⟨rfl, rfl, e'⟩ | ⟨nk, e1', e2'⟩
      · rw [e'] at wk
        cases wk
        rw [e2] at wj
        exact absurd wj (hs ok j t nj e1 oj)
      · rw [e2] at wj
        rw [e2'] at wk
        exact h.sep j k t u w e1 e1' oj ok wj wk
/-- fewer slots are known -/
inductive Le : En → En → Prop
  | nil : Le [] []
  | skip {a : Option SV} {l m : En} : Le l m → Le (none :: l) (a :: m)
  | keep {a b : Option SV} {l m : En} : a = b → Le l m → Le (a :: l) (b :: m)
theorem Le.get : ∀ {l m : En}, Le l m → ∀ (i : Nat) (s : SV), l[i]? = some (some s) → m[i]? = some (some s)
  | _, _, .nil, i, s, h => by simp at h
  | _, _, .skip t, 0, s, h => by simp at h
  | _, _, .skip t, i + 1, s, h => by
    have := Le.get t i s (by simpa using h)
    simpa using this
  | _, _, .keep e t, 0, s, h => by
    subst e
    simpa using h
  | _, _, .keep e t, i + 1, s, h => by
    have := Le.get t i s (by simpa using h)
    simpa using this
theorem Le.len : ∀ {l m : En}, Le l m → l.length = m.length
  | _, _, .nil => rfl
  | _, _, .skip t => by simp [Le.len t]
  | _, _, .keep _ t => by simp [Le.len t]
theorem Le.refl : ∀ (l : En), Le l l
  | [] => .nil
  | _ :: l => .keep rfl (Le.refl l)
theorem StOk.le {e' : En} (h : StOk K H0 B H σ env) (g : Le e' env) : StOk K H0 B H σ e' :=
  ⟨h.e0, h.e1, h.len.trans g.len.symm, fun i s hi => h.sl i s (g.get i s hi), fun i j s t v hi hj => h.sep i j s t v (g.get i s hi) (g.get j t hj)⟩
theorem StOk.base {G : Hp} (h : StOk K H0 B H σ env) (e : Same G H0) : StOk K G B H σ env := ⟨e.trans h.e0, h.e1, h.len, h.sl, h.sep⟩
end

/-! ### what expressions are worth -/
def tD (K : PySem.W.Frag) (env : En) (d : PyData) : TE := fun σ H Q => EnvE K H σ env ∧ ∀ v H', Same H H' → Rp K H' v d → Q v H'
def tL (K : PySem.W.Frag) (env : En) (ds : List PyData) : TE := fun σ H Q => EnvE K H σ env ∧ ∀ l vs H', Same H H' → H l = none → H' l = some (.lst vs) → RpAll K H' vs ds → Q (.ref l) H'
def tDs (K : PySem.W.Frag) (env : En) (ds : List PyData) : TA := fun σ H Q => EnvE K H σ env ∧ ∀ vs H', Same H H' → RpAll K H' vs ds → Q vs H'
def tP (K : PySem.W.Frag) (env : En) (b : Bool) : TT := fun σ H Q => EnvE K H σ env ∧ ∀ H', Same H H' → Q b H'
abbrev Ev (X : Cx) (env : En) (e : Expr) (d : PyData) : Prop := PE X e (tD X.K env d)
abbrev EvL (X : Cx) (env : En) (e : Expr) (ds : List PyData) : Prop := PE X e (tL X.K env ds)
abbrev EvA (X : Cx) (env : En) (es : List Expr) (ds : List PyData) : Prop := PA X es (tDs X.K env ds)
abbrev EvT (X : Cx) (env : En) (e : Expr) (b : Bool) : Prop := PT X e (tP X.K env b)
section
variable {X : Cx} {env : En} {e a b : Expr} {pos : Pos}
theorem wkE {t t' : TE} (h : PE X e t) (w : ∀ σ H Q, t' σ H Q → t σ H Q) : PE X e t' := ⟨fun pins s σ H Q I q => h.run pins s σ H Q I (w σ H Q q)⟩
theorem wkT {t t' : TT} (h : PT X e t) (w : ∀ σ H Q, t' σ H Q → t σ H Q) : PT X e t' := ⟨fun pins s σ H Q I q => h.run pins s σ H Q I (w σ H Q q)⟩
theorem wkW {t t' : TT} (h : PW X e t) (w : ∀ σ H Q, t' σ H Q → t σ H Q) : PW X e t' := ⟨fun whole pins s σ H Q I q => h.run whole pins s σ H Q I (w σ H Q q)⟩
theorem wkA {es : List Expr} {t t' : TA} (h : PA X es t) (w : ∀ σ H Q, t' σ H Q → t σ H Q) : PA X es t' := ⟨fun pos pins s σ H Q I q => h.run pos pins s σ H Q I (w σ H Q q)⟩
theorem EvL.d {ds : List PyData} (h : EvL X env e ds) : Ev X env e (.list ds) := wkE h fun σ H Q ⟨he, q⟩ => ⟨he, fun l vs H' s _ hl hd => q _ H' s (.lst (.of hl) hd)⟩
theorem Ev.is {d d' : PyData} (h : Ev X env e d) (he : d = d') : Ev X env e d' := he ▸ h
theorem EvL.is {d d' : List PyData} (h : EvL X env e d) (he : d = d') : EvL X env e d' := he ▸ h
theorem EvT.is {d d' : Bool} (h : EvT X env e d) (he : d = d') : EvT X env e d' := he ▸ h
/-- what a slot's content is as data -/
def svd : SV → Option PyData
  | .d x => some x
  | .l ds => some (.list ds)
  | .m _ => none
  | .k _ => none
  | .g _ => none
theorem svd_ok {K : PySem.W.Frag} {H : Hp} {v : V} {s : SV} {d : PyData} (h : SvE K H v s) (e : svd s = some d) : Rp K H v d := by
  cases s with
  | d x => cases e; exact h
  | l ds => cases e; obtain ⟨l, vs, rfl, h2, h3⟩ := h; exact .lst (.of h2) h3
  | m _ => cases e
  | k _ => cases e
  | g _ => cases e
theorem ev_name (i : Nat) {x : Str} {s : SV} {d : PyData} (hN : X.N[i]? = some x) (hv : Vis X.env.scope x) (he : env[i]? = some (some s)) (hd : svd s = some d) (hb : (x == ("__debug__" : Str)) = false := by decide)
    (hcd : (x == ("__classdict__" : Str)) = false := by decide) : Ev X env (.Name x pos) d := wkE (pe_var hN hv hb hcd) fun σ H Q ⟨h, q⟩ => by
  obtain ⟨v, h1, h2⟩ := h i s he
  exact ⟨v, h1, q v H (Same.refl H) (svd_ok h2 hd)⟩
theorem ev_int {i : Int} {j} : Ev X env (.Constant (.int i) j pos) (.int i) := wkE pe_int fun _ H Q ⟨_, q⟩ => q _ H (Same.refl H) (.int i)
theorem ev_bl {i : Bool} {j} : Ev X env (.Constant (.bool i) j pos) (.bool i) := wkE pe_bl fun _ H Q ⟨_, q⟩ => q _ H (Same.refl H) (.bl i)
theorem ev_non {j} : Ev X env (.Constant .none j pos) .none := wkE pe_non fun _ H Q ⟨_, q⟩ => q _ H (Same.refl H) .non
theorem ev_str {x : Str} {j} : Ev X env (.Constant (.str x) j pos) (.str x) := wkE pe_str fun _ H Q ⟨_, q⟩ => q _ H (Same.refl H) (.str x)
theorem ev_globS {x z : Str} {t : Tok} (hg : Gl X x) (hm : X.mg x = some (.str z t)) (hd : (x == ("__debug__" : Str)) = false := by decide) : Ev X env (.Name x pos) (.str z) := wkE (pe_glob (v := .str z) hg hm ⟨t, rfl⟩ hd) fun _ H Q ⟨_, q⟩ => q _ H (Same.refl H) (.str z)

/-! operators by data -/
def OpD (K : PySem.W.Frag) (r : R2) (x y z : PyData) : Prop := ∀ (H : Hp) (v u : V) (Q : VK), Rp K H v x → Rp K H u y → (∀ w H', Same H H' → Rp K H' w z → Q w H') → r v u H Q
def OpDL (K : PySem.W.Frag) (r : R2) (x y : PyData) (zs : List PyData) : Prop := ∀ (H : Hp) (v u : V) (Q : VK), Rp K H v x → Rp K H u y → (∀ l vs H', Same H H' → H l = none → H' l = some (.lst vs) → RpAll K H' vs zs → Q (.ref l) H') → r v u H Q
def Bin (X : Cx) (op : Operator) (x y z : PyData) : Prop := ∃ r, OpR X (binaryOp op) r ∧ OpD X.K r x y z
def Cmp (X : Cx) (op : CmpOp) (x y : PyData) (z : Bool) : Prop := ∃ r, OpR X (compareOp op) r ∧ OpD X.K r x y (.bool z)
theorem tOp_ok {r : R2} {x y z : PyData} (hr : OpD X.K r x y z) : ∀ σ H Q, tD X.K env z σ H Q → tOp r (tD X.K env x) (tD X.K env y) σ H Q := fun σ H Q ⟨he, q⟩ =>
  ⟨he, fun v H1 s1 d1 => ⟨he.mono s1, fun u H2 s2 d2 => hr H2 v u Q (d1.mono s2) d2 fun w H3 s3 d3 => q w H3 (s1.trans (s2.trans s3)) d3⟩⟩
theorem ev_bin {op : Operator} {x y z : PyData} (ha : Ev X env a x) (hb : Ev X env b y) (hr : Bin X op x y z) : Ev X env (.BinOp a op b pos) z := by
  obtain ⟨r, ho, hd⟩ := hr
  exact wkE (pe_op ho ha hb) (tOp_ok hd)
theorem ev_cmp {op : CmpOp} {x y : PyData} {z : Bool} (ha : Ev X env a x) (hb : Ev X env b y) (hr : Cmp X op x y z) (hm : behindInMarks op b = false) : Ev X env (.Compare a [op] [b] pos) (.bool z) := by
  obtain ⟨r, ho, hd⟩ := hr
  exact wkE (pe_cmpR ho ha hb hm) (tOp_ok hd)
theorem et_cmp {op : CmpOp} {x y : PyData} {z : Bool} (ha : Ev X env a x) (hb : Ev X env b y) (hr : Cmp X op x y z) (hm : behindInMarks op b = false) : EvT X env (.Compare a [op] [b] pos) z := by
  obtain ⟨r, ho, hd⟩ := hr
  exact wkT (pt_cmpR ho ha hb hm) fun σ H Q ⟨he, q⟩ => tOp_ok hd σ H _ ⟨he, fun v H' s d => by cases d; exact ⟨z, rfl, q H' s⟩⟩
theorem et_val {z : Bool} (h : Ev X env e (.bool z)) (he : ∀ whole, isTrue e X.env whole = (do let v ← whole; standAt e.pos; holding [v] (truthy v)) := by intro _; rfl) : EvT X env e z :=
  wkT (pt_val h he) fun σ H Q ⟨he, q⟩ => ⟨he, fun v H' s d => by cases d; exact ⟨z, rfl, q H' s⟩⟩
theorem et_not {z : Bool} (h : EvT X env e z) : EvT X env (.UnaryOp .Not e pos) (!z) := wkT (pt_not h) fun σ H Q ⟨he, q⟩ => ⟨he, fun H' s => q H' s⟩
theorem ev_not {z : Bool} (h : Ev X env e (.bool z)) : Ev X env (.UnaryOp .Not e pos) (.bool (!z)) := wkE (pe_not h) fun σ H Q ⟨he, q⟩ => ⟨he, fun v H' s d => by cases d; exact ⟨z, rfl, q _ H' s (.bl _)⟩⟩
abbrev EvW (X : Cx) (env : En) (e : Expr) (b : Bool) : Prop := PW X e (tP X.K env b)
theorem ew_and1 {z : Bool} (h : EvT X env a z) : EvW X env (.BoolOp .And [a] pos) z := pw_and1 h
theorem ew_or1 {z : Bool} (h : EvT X env a z) : EvW X env (.BoolOp .Or [a] pos) z := pw_or1 h
theorem ew_and {rest : List Expr} {x y : Bool} (h1 : EvT X env a x) (h2 : x = true → EvW X env (.BoolOp .And (b :: rest) pos) y) : EvW X env (.BoolOp .And (a :: b :: rest) pos) (x && y) := by
  cases x with
  | true => exact wkW (pw_and h1 (h2 rfl)) fun σ H Q ⟨he, q⟩ => ⟨he, fun H1 s1 => iteT ⟨he.mono s1, fun H2 s2 => q H2 (s1.trans s2)⟩⟩
  | false =>
    refine wkW (pw_and h1 (tB' := fun _ _ _ => False) ⟨fun _ _ _ _ _ _ _ q => q.elim⟩) fun σ H Q ⟨he, q⟩ => ⟨he, fun H1 s1 => iteF (q H1 s1)⟩
theorem ew_or {rest : List Expr} {x y : Bool} (h1 : EvT X env a x) (h2 : x = false → EvW X env (.BoolOp .Or (b :: rest) pos) y) : EvW X env (.BoolOp .Or (a :: b :: rest) pos) (x || y) := by
  cases x with
  | false => exact wkW (pw_or h1 (h2 rfl)) fun σ H Q ⟨he, q⟩ => ⟨he, fun H1 s1 => iteF ⟨he.mono s1, fun H2 s2 => q H2 (s1.trans s2)⟩⟩
  | true =>
    refine wkW (pw_or h1 (tB' := fun _ _ _ => False) ⟨fun _ _ _ _ _ _ _ q => q.elim⟩) fun σ H Q ⟨he, q⟩ => ⟨he, fun H1 s1 => iteT (q H1 s1)⟩
theorem et_w {z : Bool} (h : EvW X env e z) : EvT X env e z := h.pt
theorem ev_one {op} {d : PyData} (h : Ev X env a d) : Ev X env (.BoolOp op [a] pos) d := pe_one h
theorem ev_and {rest : List Expr} {x : Bool} {y : PyData} (h1 : Ev X env a (.bool x)) (h2 : x = true → Ev X env (.BoolOp .And (b :: rest) pos) y) : Ev X env (.BoolOp .And (a :: b :: rest) pos) (if x = true then y else .bool false) := by
  cases x with
  | true => exact wkE (pe_and h1 (h2 rfl)) fun σ H Q ⟨he, q⟩ => ⟨he, fun v H1 s1 d1 => by cases d1; exact ⟨true, rfl, iteT ⟨he.mono s1, fun w H2 s2 d2 => q w H2 (s1.trans s2) d2⟩⟩⟩
  | false =>
    refine wkE (pe_and h1 (tb := fun _ _ _ => False) ⟨fun _ _ _ _ _ _ q => q.elim⟩) fun σ H Q ⟨he, q⟩ => ⟨he, fun v H1 s1 d1 => by cases d1; exact ⟨false, rfl, iteF (q _ H1 s1 (.bl false))⟩⟩
theorem ev_or {rest : List Expr} {x : Bool} {y : PyData} (h1 : Ev X env a (.bool x)) (h2 : x = false → Ev X env (.BoolOp .Or (b :: rest) pos) y) : Ev X env (.BoolOp .Or (a :: b :: rest) pos) (if x = true then .bool true else y) := by
  cases x with
  | false => exact wkE (pe_or h1 (h2 rfl)) fun σ H Q ⟨he, q⟩ => ⟨he, fun v H1 s1 d1 => by cases d1; exact ⟨false, rfl, iteF ⟨he.mono s1, fun w H2 s2 d2 => q w H2 (s1.trans s2) d2⟩⟩⟩
  | true =>
    refine wkE (pe_or h1 (tb := fun _ _ _ => False) ⟨fun _ _ _ _ _ _ q => q.elim⟩) fun σ H Q ⟨he, q⟩ => ⟨he, fun v H1 s1 d1 => by cases d1; exact ⟨true, rfl, iteT (q _ H1 s1 (.bl true))⟩⟩
theorem ev_if {c : Expr} {z : Bool} {x y : PyData} (hc : EvT X env c z) (h1 : z = true → Ev X env a x) (h2 : z = false → Ev X env b y) : Ev X env (.IfExp c a b pos) (if z = true then x else y) := by
  cases z with
  | true => exact wkE (pe_ifExp hc (h1 rfl) (tb := fun _ _ _ => False) ⟨fun _ _ _ _ _ _ q => q.elim⟩) fun σ H Q ⟨he, q⟩ => ⟨he, fun H1 s1 => iteT ⟨he.mono s1, fun w H2 s2 d2 => q w H2 (s1.trans s2) d2⟩⟩
  | false => exact wkE (pe_ifExp hc (ta := fun _ _ _ => False) ⟨fun _ _ _ _ _ _ q => q.elim⟩ (h2 rfl)) fun σ H Q ⟨he, q⟩ => ⟨he, fun H1 s1 => iteF ⟨he.mono s1, fun w H2 s2 d2 => q w H2 (s1.trans s2) d2⟩⟩

/-! arguments, displays -/
theorem ea_nil : EvA X env [] [] := wkA pa_nil fun σ H Q ⟨_, q⟩ => q [] H (Same.refl H) .nil
theorem ea_cons {es : List Expr} {d : PyData} {ds : List PyData} (h : Ev X env e d) (hr : EvA X env es ds) (hs : starEach (e :: es) X.env = (false, eval e X.env) :: starEach es X.env := by rfl) : EvA X env (e :: es) (d :: ds) :=
  wkA (pa_cons h hr hs) fun σ H Q ⟨he, q⟩ => ⟨he, fun v H1 s1 d1 => ⟨he.mono s1, fun vs H2 s2 d2 => q (v :: vs) H2 (s1.trans s2) (.cons (d1.mono s2) d2)⟩⟩
theorem same_new {H : Hp} {p : Addr} {o : HO} (h : H p = none) : Same H (upd H p o) := fun b x e => by
  rw [upd_ne (ne_of_none e h)]
  exact e
theorem ev_tup {es : List Expr} {x1} {ds : List PyData} (h : EvA X env es ds) (hl : ds.length ≤ 1000 := by simp) : Ev X env (.Tuple es x1 pos) (.tuple ds) := wkE (pe_tup h) fun σ H Q ⟨he, q⟩ =>
  ⟨he, fun vs H1 s1 d1 => ⟨by rw [d1.len]; exact Nat.le_of_lt (small1000 hl), fun p hp => q _ _ (s1.trans (same_new hp)) (.tup upd_same (d1.mono (same_new hp)))⟩⟩
theorem evl_lst {es : List Expr} {ds : List PyData} (h : EvA X env es ds) (hl : ds.length ≤ 1000 := by simp) : EvL X env (.List es pos) ds := wkE (pe_lst h) fun σ H Q ⟨he, q⟩ =>
  ⟨he, fun vs H1 s1 d1 => ⟨by rw [d1.len]; exact Nat.le_of_lt (small1000 hl), fun p hp => q p vs _ (s1.trans (same_new hp)) (s1.free hp) upd_same (d1.mono (same_new hp))⟩⟩
/-- a unary operator -/
def Un1 (X : Cx) (op : UnaryOp) (x z : PyData) : Prop := ∃ r, UnR X (unaryOp op) r ∧ ∀ (H : Hp) (v : V) (Q : VK), Rp X.K H v x → (∀ w H', Same H H' → Rp X.K H' w z → Q w H') → r v H Q
theorem ev_un {op : UnaryOp} {x z : PyData} (ha : Ev X env a x) (hr : Un1 X op x z) : Ev X env (.UnaryOp op a pos) z := by
  obtain ⟨r, ho, hd⟩ := hr
  exact wkE (pe_un ho ha) fun σ H Q ⟨he, q⟩ => ⟨he, fun v H1 s1 d1 => hd H1 v Q d1 fun w H2 s2 d2 => q w H2 (s1.trans s2) d2⟩
/-- a subscript -/
def Ix (X : Cx) (x y z : PyData) : Prop := ∃ r, IxR X r ∧ OpD X.K r x y z
theorem ev_ix {x y z : PyData} (ha : Ev X env a x) (hb : Ev X env b y) (hr : Ix X x y z) (hs : PlainIx b := by exact fun _ _ => rfl) : Ev X env (.Subscript a b pos) z := by
  obtain ⟨r, ho, hd⟩ := hr
  exact wkE (pe_ix ho ha hb hs) (tOp_ok hd)
/-- a call of a builtin, of a builtin class, by its name -/
def CallD (X : Cx) (f : Value) (ds : List PyData) (z : PyData) : Prop := ∃ r, CallR X f r ∧ ∀ (H : Hp) (vs : List V) (Q : VK), RpAll X.K H vs ds → (∀ w H', Same H H' → Rp X.K H' w z → Q w H') → r vs H Q
def CallL (X : Cx) (f : Value) (ds zs : List PyData) : Prop := ∃ r, CallR X f r ∧ ∀ (H : Hp) (vs : List V) (Q : VK), RpAll X.K H vs ds → (∀ l us H', Same H H' → H l = none → H' l = some (.lst us) → RpAll X.K H' us zs → Q (.ref l) H') → r vs H Q
theorem ev_callB {x : Str} {p : Pos} {id : String} {es : List Expr} {ds : List PyData} {z : PyData} (hc : CallD X (.builtin id) ds z) (hg : Gl X x) (hm : X.mg x = none) (hv : bootBuiltins x = some (.builtin id)) (ha : EvA X env (e :: es) ds)
    (hn : x ≠ "__name__" := by decide) (hdb : (x == ("__debug__" : Str)) = false := by decide)
    (hs : starEach (e :: es) X.env = (false, eval e X.env) :: starEach es X.env := by rfl) (hpl : (backTo pos (starEach es X.env)).any (·.1) = false := by rfl) : Ev X env (.Call (.Name x p) (e :: es) [] pos) z := by
  obtain ⟨r, ho, hd⟩ := hc
  exact wkE (pe_callB ho hg hm hv ha hn hdb hs hpl) fun σ H Q ⟨he, q⟩ => ⟨he, fun vs H1 s1 d1 => hd H1 vs Q d1 fun w H2 s2 d2 => q w H2 (s1.trans s2) d2⟩
end
end Sw

namespace Sw
open PySem PySem.Spec PyProof.Rows L2

/-! ### statements -/
section
variable {K : PySem.W.Frag} {H0 B H H1 : Hp} {σ : L2.St} {env : En}
theorem own_ne {l : Addr} (S : StOk K H0 B H σ env) (hl : H l = none) {j : Nat} {t : SV} (hj : env[j]? = some (some t)) (ot : t.own = true) : σ[j]? ≠ some (some (.ref l)) := fun z => by
  obtain ⟨v, hv, ok⟩ := S.sl j t hj
  rw [hv] at z
  cases z
  cases t with
  | d _ => cases ot
  | k _ => cases ot
  | g _ => cases ot
  | l ds => obtain ⟨l', vs', e, _, h2, _⟩ := ok; cases e; rw [hl] at h2; cases h2
  | m kvs => obtain ⟨l', vs', e, _, h2, _⟩ := ok; cases e; rw [hl] at h2; cases h2
/-- the heap changes at an own list: the other slots -/
theorem SvOk.chg {v : V} {s : SV} {l : Addr} {o o' : HO} (h : SvOk K B H v s) (hB : B l = none) (hl : H l = some o) (mu : ∀ xs, o ≠ .tup xs) (ne : s.own = true → v ≠ .ref l) : SvOk K B (upd H l o') v s := by
  have kp : Keep H (upd H l o') := ⟨fun a xs e => by rw [upd_ne (fun z => by rw [z, hl] at e; exact mu xs (Option.some.inj e))]; exact e⟩
  cases s with
  | d x =>
    rcases h with h | h
    · exact .inl h
    · exact .inr ⟨h.1, dkeep kp _ _ h.1 h.2⟩
  | l ds =>
    obtain ⟨p, vs, rfl, h0, h1, h2, h3⟩ := h
    exact ⟨p, vs, rfl, h0, by rw [upd_ne (fun z => ne rfl (by rw [z]))]; exact h1, dkeeps kp _ _ h3 h2, h3⟩
  | m kvs =>
    obtain ⟨p, vs, rfl, h0, h1, h2, h3⟩ := h
    exact ⟨p, vs, rfl, h0, by rw [upd_ne (fun z => ne rfl (by rw [z]))]; exact h1, KvD.keep kp h3 h2, h3⟩
  | k kvs => exact h
  | g R => exact h
theorem keep_upd {l : Addr} {o o' : HO} (hl : H l = some o) (mu : ∀ xs, o ≠ .tup xs) : Keep H (upd H l o') := ⟨fun a xs e => by rw [upd_ne (fun z => by rw [z, hl] at e; exact mu xs (Option.some.inj e))]; exact e⟩
/-- .. the own slot itself takes its new content -/
theorem StOk.chg (S : StOk K H0 B H σ env) {i : Nat} {s t : SV} {l : Addr} {o o' : HO} (hi : env[i]? = some (some s)) (so : s.own = true) (hs : σ[i]? = some (some (.ref l))) (hB : B l = none) (hl : H l = some o) (mu : ∀ xs, o ≠ .tup xs)
    (ht : SvOk K B (upd H l o') (.ref l) t) : StOk K H0 B (upd H l o') σ (env.set i (some t)) := by
  have hlt : i < env.length := (List.getElem?_eq_some_iff.mp hi).1
  refine ⟨S.e0, fun b x e => ?_, by rw [List.length_set]; exact S.len, fun j u hj => ?_, fun j k u w v hj hk oj ok vj vk => ?_⟩
  · rw [upd_ne (ne_of_none e hB)]
    exact S.e1 b x e
  · rcases set_get hj with ⟨rfl, e⟩ | ⟨ne, e⟩
    · cases e
      exact ⟨_, hs, ht⟩
    · obtain ⟨v, h1, h2⟩ := S.sl j u e
      refine ⟨v, h1, h2.chg hB hl mu fun ou z => ne ?_⟩
      subst z
      exact S.sep j i u s _ e hi ou so h1 hs
  · rcases set_get hj with ⟨rfl, e⟩ | ⟨ne, e⟩
    · rcases set_get hk with ⟨rfl, e'⟩ | ⟨ne', e'⟩
      · rfl
      · exact S.sep j k s w v hi e' so ok vj vk
    · rcases set_get hk with ⟨rfl, e'⟩ | ⟨ne', e'⟩
      · exact S.sep j k u s v e hi oj so vj vk
      · exact S.sep j k u w v e e' oj ok vj vk
/-- what may change, hidden -/
def Chg (o : Option HO) : Prop := match o with
  | some (.lst _) => True
  | some (.dT _) => True
  | _ => False
open Classical in
noncomputable def hide (B H H1 : Hp) : Hp := fun a => if Chg (H a) ∧ B a = none then none else H1 a
theorem hide_same (e : Same H H1) : Same (hide B H H1) H1 := fun b o h => by
  unfold hide at h
  split at h
  · cases h
  · exact h
theorem hide_base (e1 : Same B H) (e : Same H H1) : Same B (hide B H H1) := fun b o h => by
  unfold hide
  rw [if_neg (fun z => by rw [z.2] at h; cases h)]
  exact e _ _ (e1 _ _ h)
theorem hide_none {a : Addr} (h : Chg (H a)) (hb : B a = none) : hide B H H1 a = none := by
  unfold hide
  rw [if_pos ⟨h, hb⟩]
theorem hide_at {a : Addr} (h : ¬ Chg (H a)) : hide B H H1 a = H1 a := by
  unfold hide
  rw [if_neg fun z => h z.1]
theorem hide_keep (e : Same H H1) : Keep H1 (hide B H H1) := ⟨fun a xs h => by
  rw [hide_at ?_]
  · exact h
  · intro c
    cases q : H a with
    | none => rw [q] at c; exact c
    | some o =>
      have h2 := e a o q
      rw [h] at h2
      cases h2
      rw [q] at c
      exact c⟩
theorem StOk.hide (S : StOk K H0 B H σ env) (e : Same H H1) : StOk K H0 (hide B H H1) H1 σ env := by
  have b1 := hide_base (B := B) S.e1 e
  refine ⟨S.e0.trans b1, hide_same e, S.len, fun i s hi => ?_, S.sep⟩
  obtain ⟨v, h1, h2⟩ := S.sl i s hi
  refine ⟨v, h1, ?_⟩
  cases s with
  | d x =>
    rcases h2 with h | h
    · exact .inl (h.mono b1)
    · exact .inr ⟨h.1, h.2.mono e⟩
  | l ds => obtain ⟨l, vs, h3, h0, h4, h5, h6⟩ := h2; exact ⟨l, vs, h3, hide_none (by rw [h4]; exact trivial) h0, e _ _ h4, h5.mono e, h6⟩
  | m kvs => obtain ⟨l, kv, h3, h0, h4, h5, h6⟩ := h2; exact ⟨l, kv, h3, hide_none (by rw [h4]; exact trivial) h0, e _ _ h4, h5.mono e, h6⟩
  | k kvs => obtain ⟨l, kv, h3, ⟨o, h4⟩, h5, h6⟩ := h2; exact ⟨l, kv, h3, ⟨o, b1 _ _ h4⟩, h5.mono b1, h6⟩
  | g R => exact R.mono h2 b1
def noOwn (env : En) : Bool := env.all fun o => match o with
  | some s => !s.own
  | none => true
theorem noOwn_at (h : noOwn env = true) {i : Nat} {s : SV} (hi : env[i]? = some (some s)) : s.own = false := by
  have := List.all_eq_true.mp h (some s) (List.mem_of_getElem? hi)
  simpa using this
/-- no list of its own: all stands still -/
theorem StOk.all (S : StOk K H0 B H σ env) (h : noOwn env = true) (e : Same H H1) : StOk K H0 H1 H1 σ env := by
  refine ⟨S.e0.trans (S.e1.trans e), Same.refl _, S.len, fun i s hi => ?_, fun i j s t v hi hj so => by rw [noOwn_at h hi] at so; cases so⟩
  obtain ⟨v, h1, h2⟩ := S.sl i s hi
  refine ⟨v, h1, ?_⟩
  cases s with
  | d x =>
    rcases h2 with h | h
    · exact .inl (h.mono (S.e1.trans e))
    · exact .inl (h.2.mono e)
  | l ds => exact absurd (noOwn_at h hi) (by simp [SV.own])
  | m ds => exact absurd (noOwn_at h hi) (by simp [SV.own])
  | k kvs => obtain ⟨l, kv, h3, ⟨o, h4⟩, h5, h6⟩ := h2; exact ⟨l, kv, h3, ⟨o, e _ _ (S.e1 _ _ h4)⟩, h5.mono (S.e1.trans e), h6⟩
  | g R => exact R.mono h2 (S.e1.trans e)
open Classical in
noncomputable def bare (B H : Hp) (l : Addr) : Hp := fun a => if Chg (H a) ∧ B a = none ∧ a ≠ l then none else H a
/-- an own list is done with: it is data from now on -/
theorem StOk.settle (S : StOk K H0 B H σ env) {i : Nat} {ds : List PyData} (hi : env[i]? = some (some (.l ds))) : ∃ B', StOk K H0 B' H σ (env.set i (some (.d (.list ds)))) := by
  obtain ⟨v, hv, l, vs, rfl, hB, hl, hd, hf⟩ := S.sl i _ hi
  have b0 : Same (bare B H l) H := fun b o h => by
    unfold bare at h
    split at h
    · cases h
    · exact h
  have b1 : Same B (bare B H l) := fun b o h => by
    unfold bare
    rw [if_neg (fun z => by rw [z.2.1] at h; cases h)]
    exact S.e1 _ _ h
  have bk : Keep H (bare B H l) := ⟨fun a xs h => by
    unfold bare
    rw [if_neg (fun z => by have := z.1; rw [h] at this; exact this)]
    exact h⟩
  have bl : bare B H l l = some (.lst vs) := by
    unfold bare
    rw [if_neg (fun z => z.2.2 rfl)]
    exact hl
  refine ⟨bare B H l, S.e0.trans b1, b0, by rw [List.length_set]; exact S.len, fun j t hj => ?_, fun j k t u w hj hk oj ok wj wk => ?_⟩
  · rcases set_get hj with ⟨rfl, e⟩ | ⟨ne, e⟩
    · cases e
      exact ⟨_, hv, .inl (.lst (.of bl) (dkeeps bk _ _ hf hd))⟩
    · obtain ⟨w, h1, h2⟩ := S.sl j t e
      refine ⟨w, h1, ?_⟩
      have nel : t.own = true → ∀ p, w = .ref p → p ≠ l := fun ot p hp z => by
        subst z
        subst hp
        exact ne (S.sep j i t _ _ e hi ot rfl h1 hv)
      cases t with
      | d x =>
        rcases h2 with h | h
        · exact .inl (h.mono b1)
        · exact .inr h
      | l es => obtain ⟨p, us, h3, h0, h4, h5, h6⟩ := h2; exact ⟨p, us, h3, by unfold bare; rw [if_pos ⟨by rw [h4]; exact trivial, h0, nel rfl p h3⟩], h4, h5, h6⟩
      | m es => obtain ⟨p, us, h3, h0, h4, h5, h6⟩ := h2; exact ⟨p, us, h3, by unfold bare; rw [if_pos ⟨by rw [h4]; exact trivial, h0, nel rfl p h3⟩], h4, h5, h6⟩
      | k es => obtain ⟨p, kv, h3, ⟨o, h4⟩, h5, h6⟩ := h2; exact ⟨p, kv, h3, ⟨o, b1 _ _ h4⟩, h5.mono b1, h6⟩
      | g R => exact R.mono h2 b1
  · rcases set_get hj with ⟨rfl, e⟩ | ⟨ne, e⟩
    · cases e
      cases oj
    · rcases set_get hk with ⟨rfl, e'⟩ | ⟨ne', e'⟩
      · cases e'
        cases ok
      · exact S.sep j k t u w e e' oj ok wj wk
end

section
variable {X : Cx} {H0 : Hp} {env : En} {D : Ends} {rest body : List Stmt} {pos : Pos}
def tR (X : Cx) (body : List Stmt) : TS := fun D σ H => ∃ t, PSs X body t ∧ t D σ H
theorem tR_ok : PSs X body (tR X body) := ⟨fun pins s σ H D I ⟨t, h, q⟩ => h.run pins s σ H D I q⟩
/-- from every state that the slots' contents tell, the body runs to D -/
def Run (X : Cx) (H0 : Hp) (env : En) (body : List Stmt) (D : Ends) : Prop := ∀ B σ H, StOk X.K H0 B H σ env → tR X body D σ H
theorem run_cons {st : Stmt} {t : TS} (h : PS X st t) (q : ∀ B σ H, StOk X.K H0 B H σ env → t { D with nx := tR X rest D } σ H) : Run X H0 env (st :: rest) D := fun B σ H S => ⟨_, pss_cons h tR_ok, q B σ H S⟩
theorem run_end (q : ∀ B σ H, StOk X.K H0 B H σ env → D.nx σ H) : Run X H0 env [] D := fun B σ H S => ⟨_, pss_nil, q B σ H S⟩
theorem run_nx (k : Run X H0 env rest D) : Run X H0 env [] { D with nx := tR X rest D } := run_end k
theorem run_le {e' : En} (g : Le e' env) (k : Run X H0 e' body D) : Run X H0 env body D := fun B σ H S => k B σ H (S.le g)
theorem run_env {e' : En} (g : env = e') (k : Run X H0 e' body D) : Run X H0 env body D := g ▸ k
theorem run_settle (i : Nat) {ds : List PyData} (hi : env[i]? = some (some (.l ds))) (k : Run X H0 (env.set i (some (.d (.list ds)))) body D) : Run X H0 env body D := fun B σ H S => let ⟨B', S'⟩ := S.settle hi; k B' σ H S'
/-- the end of a turn -/
def NX (X : Cx) (Hl : Hp) (e : En) : L2.St → Hp → Prop := fun σ' H' => ∃ B, StOk X.K Hl B H' σ' e
theorem run_turn {e : En} (hD : D.nx = NX X H0 e) (g : Le e env) : Run X H0 env [] D := run_end fun B σ H S => by rw [hD]; exact ⟨B, S.le g⟩
theorem run_setF (i : Nat) {x : Str} {e : Expr} {d : PyData} {pos' : Pos} (hN : X.N.Nodup) (hi : X.N[i]? = some x) (hx : Loc X.env.scope x) (he : Ev X env e d) (hf : fz d = true) (k : Run X H0 (env.set i (some (.d d))) rest D)
    (hs : swapsWith e (some (.Name x pos')) pos.line X.env = pure false := by rfl) (hf' : X.fn x = true ∨ X.env.scope.names.lookup x = some .local := by first | exact .inl rfl | exact .inr rfl) :
    Run X H0 env (.Assign [.Name x pos'] e pos :: rest) D := run_cons (ps_set hN hi hx he hs hf') fun B σ H S => ⟨S.e, fun v H1 s1 d1 => k B _ _ ((S.grow s1).put (s := .d d) (.inr ⟨hf, d1⟩) fun z => by cases z)⟩
theorem run_setB (i : Nat) {x : Str} {e : Expr} {d : PyData} {pos' : Pos} (hN : X.N.Nodup) (hi : X.N[i]? = some x) (hx : Loc X.env.scope x) (he : Ev X env e d) (hf : noOwn env = true) (k : Run X H0 (env.set i (some (.d d))) rest D)
    (hs : swapsWith e (some (.Name x pos')) pos.line X.env = pure false := by rfl) (hf' : X.fn x = true ∨ X.env.scope.names.lookup x = some .local := by first | exact .inl rfl | exact .inr rfl) :
    Run X H0 env (.Assign [.Name x pos'] e pos :: rest) D := run_cons (ps_set hN hi hx he hs hf') fun B σ H S => ⟨S.e, fun v H1 s1 d1 => k H1 _ _ ((S.all hf s1).put (s := .d d) (.inl d1) fun z => by cases z)⟩
theorem run_setL (i : Nat) {x : Str} {e : Expr} {ds : List PyData} {pos' : Pos} (hN : X.N.Nodup) (hi : X.N[i]? = some x) (hx : Loc X.env.scope x) (he : EvL X env e ds) (hf : fzs ds = true) (k : Run X H0 (env.set i (some (.l ds))) rest D)
    (hs : swapsWith e (some (.Name x pos')) pos.line X.env = pure false := by rfl) (hf' : X.fn x = true ∨ X.env.scope.names.lookup x = some .local := by first | exact .inl rfl | exact .inr rfl) :
    Run X H0 env (.Assign [.Name x pos'] e pos :: rest) D := run_cons (ps_set hN hi hx he hs hf') fun B σ H S => ⟨S.e, fun l vs H1 s1 hl h1 d1 => k B _ _ ((S.grow s1).put (s := .l ds) ⟨l, vs, rfl, S.e1.free hl, h1, d1, hf⟩ fun _ j t ne hj ot => own_ne S hl hj ot)⟩
/-- {} whose keys are tuples -/
theorem run_setM (i : Nat) {x : Str} {pos' pos2 : Pos} (hN : X.N.Nodup) (hi : X.N[i]? = some x) (hx : Loc X.env.scope x) (k : Run X H0 (env.set i (some (.m []))) rest D)
    (hs : swapsWith (.Dict [] [] pos2) (some (.Name x pos')) pos.line X.env = pure false := by rfl) (hf' : X.fn x = true ∨ X.env.scope.names.lookup x = some .local := by first | exact .inl rfl | exact .inr rfl) :
    Run X H0 env (.Assign [.Name x pos'] (.Dict [] [] pos2) pos :: rest) D := run_cons (ps_set hN hi hx pe_dnewT hs hf') fun B σ H S l hl =>
  k B _ _ ((S.grow (same_new hl)).put (s := .m []) ⟨l, [], rfl, S.e1.free hl, upd_same, .nil, rfl⟩ fun _ j t ne hj ot => own_ne S hl hj ot)
/-- targets of several names -/
theorem run_un2 (i j : Nat) {x y : Str} {px py pt : Pos} {kt : Nat} {e : Expr} {a b : PyData} (hc : X.calm = true) (hN : X.N.Nodup) (hi : X.N[i]? = some x) (hj : X.N[j]? = some y) (hx : Loc X.env.scope x) (hy : Loc X.env.scope y) (he : Ev X env e (.tuple [a, b])) (hf : fz (.tuple [a, b]) = true)
    (k : Run X H0 ((env.set i (some (.d a))).set j (some (.d b))) rest D)
    (hs : swapsWithSole [.Tuple [.Name x px, .Name y py] kt pt] e pos.line X.env = pure false := by rfl) (hw : swappedStores [.Tuple [.Name x px, .Name y py] kt pt] e X.env = pure none := by rfl)
    (hfx : X.fn x = true ∨ X.env.scope.names.lookup x = some .local := by first | exact .inl rfl | exact .inr rfl) (hfy : X.fn y = true ∨ X.env.scope.names.lookup y = some .local := by first | exact .inl rfl | exact .inr rfl)
    (h1 : (assignEach [.Tuple [.Name x px, .Name y py] kt pt] X.env).map (·.2) = [assign (.Tuple [.Name x px, .Name y py] kt pt) X.env] := by rfl)
    (h2 : (assignEach [.Name x px, .Name y py] X.env).map (·.2) = assign (.Name x px) X.env :: (assignEach [.Name y py] X.env).map (·.2) := by rfl)
    (h3 : (assignEach [.Name y py] X.env).map (·.2) = assign (.Name y py) X.env :: (assignEach [] X.env).map (·.2) := by rfl)
    (hn : (assignEach [.Name x px, .Name y py] X.env).length = 2 := by rfl) (hst : (assignEach [.Name x px, .Name y py] X.env).findIdx? (·.1) = none := by rfl) :
    Run X H0 env (.Assign [.Tuple [.Name x px, .Name y py] kt pt] e pos :: rest) D :=
  run_cons (ps_asg he (pg_tup hc (pgs_cons (pg_name hN hi hx hfx) (pgs_cons (pg_name hN hj hy hfy) pgs_nil h3) h2) hn hst) hs hw h1) fun B σ H S => ⟨S.e, fun v H1 s1 d1 => by
    have hf' : (fz a && (fz b && true)) = true := hf
    simp only [Bool.and_eq_true] at hf'
    cases d1 with
    | tup ha hd =>
      cases hd with
      | cons q1 hd =>
        cases hd with
        | cons q2 hd =>
          cases hd
          exact ⟨_, _, rfl, .of ha, rfl, _, _, rfl, _, _, rfl, rfl, k B _ _ (((S.grow s1).put (s := .d a) (.inr ⟨hf'.1, q1⟩) fun z => by cases z).put (s := .d b) (.inr ⟨hf'.2.1, q2⟩) fun z => by cases z)⟩⟩
theorem run_un3 (i j l : Nat) {x y z : Str} {px py pz pt : Pos} {kt : Nat} {e : Expr} {a b c : PyData} (hc : X.calm = true) (hN : X.N.Nodup) (hi : X.N[i]? = some x) (hj : X.N[j]? = some y) (hl : X.N[l]? = some z) (hx : Loc X.env.scope x) (hy : Loc X.env.scope y) (hz : Loc X.env.scope z) (he : Ev X env e (.tuple [a, b, c])) (hf : fz (.tuple [a, b, c]) = true)
    (k : Run X H0 (((env.set i (some (.d a))).set j (some (.d b))).set l (some (.d c))) rest D)
    (hs : swapsWithSole [.Tuple [.Name x px, .Name y py, .Name z pz] kt pt] e pos.line X.env = pure false := by rfl) (hw : swappedStores [.Tuple [.Name x px, .Name y py, .Name z pz] kt pt] e X.env = pure none := by rfl)
    (hfx : X.fn x = true ∨ X.env.scope.names.lookup x = some .local := by first | exact .inl rfl | exact .inr rfl) (hfy : X.fn y = true ∨ X.env.scope.names.lookup y = some .local := by first | exact .inl rfl | exact .inr rfl) (hfz : X.fn z = true ∨ X.env.scope.names.lookup z = some .local := by first | exact .inl rfl | exact .inr rfl)
    (h1 : (assignEach [.Tuple [.Name x px, .Name y py, .Name z pz] kt pt] X.env).map (·.2) = [assign (.Tuple [.Name x px, .Name y py, .Name z pz] kt pt) X.env] := by rfl)
    (h2 : (assignEach [.Name x px, .Name y py, .Name z pz] X.env).map (·.2) = assign (.Name x px) X.env :: (assignEach [.Name y py, .Name z pz] X.env).map (·.2) := by rfl)
    (h3 : (assignEach [.Name y py, .Name z pz] X.env).map (·.2) = assign (.Name y py) X.env :: (assignEach [.Name z pz] X.env).map (·.2) := by rfl)
    (h4 : (assignEach [.Name z pz] X.env).map (·.2) = assign (.Name z pz) X.env :: (assignEach [] X.env).map (·.2) := by rfl)
    (hn : (assignEach [.Name x px, .Name y py, .Name z pz] X.env).length = 3 := by rfl) (hst : (assignEach [.Name x px, .Name y py, .Name z pz] X.env).findIdx? (·.1) = none := by rfl) :
    Run X H0 env (.Assign [.Tuple [.Name x px, .Name y py, .Name z pz] kt pt] e pos :: rest) D :=
  run_cons (ps_asg he (pg_tup hc (pgs_cons (pg_name hN hi hx hfx) (pgs_cons (pg_name hN hj hy hfy) (pgs_cons (pg_name hN hl hz hfz) pgs_nil h4) h3) h2) hn hst) hs hw h1) fun B σ H S => ⟨S.e, fun v H1 s1 d1 => by
    have hf' : (fz a && (fz b && (fz c && true))) = true := hf
    simp only [Bool.and_eq_true] at hf'
    cases d1 with
    | tup ha hd =>
      cases hd with
      | cons q1 hd =>
        cases hd with
        | cons q2 hd =>
          cases hd with
          | cons q3 hd =>
            cases hd
            exact ⟨_, _, rfl, .of ha, rfl, _, _, rfl, _, _, rfl, _, _, rfl, rfl, k B _ _ ((((S.grow s1).put (s := .d a) (.inr ⟨hf'.1, q1⟩) fun z => by cases z).put (s := .d b) (.inr ⟨hf'.2.1, q2⟩) fun z => by cases z).put (s := .d c) (.inr ⟨hf'.2.2.1, q3⟩) fun z => by cases z)⟩⟩
theorem run_if {c : Expr} {a b : List Stmt} {z : Bool} (hc : EvT X env c z) (h1 : z = true → Run X H0 env a { D with nx := tR X rest D }) (h2 : z = false → Run X H0 env b { D with nx := tR X rest D }) : Run X H0 env (.If c a b pos :: rest) D := by
  refine run_cons (ps_if hc (tR_ok (X := X) (body := a)) (tR_ok (X := X) (body := b))) fun B σ H S => ⟨S.e, fun H1 s1 => ?_⟩
  cases z with
  | true => exact iteT (h1 rfl B σ H1 (S.grow s1))
  | false => exact iteF (h2 rfl B σ H1 (S.grow s1))
/-- a test that is known -/
theorem run_ifF {c : Expr} {a b : List Stmt} (hc : EvT X env c false) (h2 : Run X H0 env b { D with nx := tR X rest D }) : Run X H0 env (.If c a b pos :: rest) D := run_if hc (fun z => by cases z) fun _ => h2
theorem run_ifF0 {c : Expr} {a : List Stmt} (hc : EvT X env c false) (h2 : Run X H0 env rest D) : Run X H0 env (.If c a [] pos :: rest) D := run_ifF hc (run_nx h2)
theorem run_ifT {c : Expr} {a b : List Stmt} (hc : EvT X env c true) (h2 : Run X H0 env a { D with nx := tR X rest D }) : Run X H0 env (.If c a b pos :: rest) D := run_if hc (fun _ => h2) fun z => by cases z
/-- what is wanted of what is handed back -/
def RtD (K : PySem.W.Frag) (H0 : Hp) (D : Ends) (r : PyData) : Prop := ∀ v H', Same H0 H' → Rp K H' v r → D.rt v H'
def RtL (K : PySem.W.Frag) (H0 : Hp) (D : Ends) (rs : List PyData) : Prop := ∀ l vs H', Same H0 H' → H0 l = none → H' l = some (.lst vs) → RpAll K H' vs rs → D.rt (.ref l) H'
theorem RtD.mono {K : PySem.W.Frag} {r : PyData} {H1 : Hp} (h : RtD K H0 D r) (e : Same H0 H1) : RtD K H1 D r := fun v H' s => h v H' (e.trans s)
theorem RtL.mono {K : PySem.W.Frag} {r : List PyData} {H1 : Hp} (h : RtL K H0 D r) (e : Same H0 H1) : RtL K H1 D r := fun l vs H' s hl => h l vs H' (e.trans s) (e.free hl)
theorem RtD.l {K : PySem.W.Frag} {r : List PyData} (h : RtD K H0 D (.list r)) : RtL K H0 D r := fun l vs H' s _ hl hd => h _ H' s (.lst (.of hl) hd)
theorem RtD.rt {K : PySem.W.Frag} {r : PyData} {N : L2.St → Hp → Prop} (h : RtD K H0 D r) : RtD K H0 { D with nx := N } r := h
theorem run_ret {e : Expr} {d : PyData} (he : Ev X env e d) (h : RtD X.K H0 D d) : Run X H0 env (.Return (some e) pos :: rest) D := run_cons (ps_ret he) fun B σ H S => ⟨S.e, fun v H1 s1 d1 => h v H1 (S.e0.trans (S.e1.trans s1)) d1⟩
theorem run_retL {e : Expr} {ds : List PyData} (he : EvL X env e ds) (h : RtL X.K H0 D ds) : Run X H0 env (.Return (some e) pos :: rest) D := run_cons (ps_ret he) fun B σ H S => ⟨S.e, fun l vs H1 s1 hl h1 d1 => h l vs H1 (S.e0.trans (S.e1.trans s1)) ((S.e0.trans S.e1).free hl) h1 d1⟩
/-- an own list is handed back -/
theorem run_retN (i : Nat) {x : Str} {ds : List PyData} {px : Pos} (hN : X.N[i]? = some x) (hv : Vis X.env.scope x) (hi : env[i]? = some (some (.l ds))) (h : RtL X.K H0 D ds) (hd : (x == ("__debug__" : Str)) = false := by decide) (hcd : (x == ("__classdict__" : Str)) = false := by decide) :
    Run X H0 env (.Return (some (.Name x px)) pos :: rest) D := run_cons (ps_ret (pe_var hN hv hd hcd)) fun B σ H S => by
  obtain ⟨v, hv, l, vs, rfl, hB, hl, hd, hf⟩ := S.sl i _ hi
  exact ⟨_, hv, h l vs H (S.e0.trans S.e1) (S.e0.free hB) hl hd⟩
theorem run_retn (h : RtD X.K H0 D .none) : Run X H0 env (.Return none pos :: rest) D := run_cons ps_retN fun B σ H S => h _ H (S.e0.trans S.e1) .non
theorem run_expr {e : Expr} {d : PyData} (he : Ev X env e d) (k : Run X H0 env rest D) (hs : swapsWith e none pos.line X.env = pure false := by rfl) : Run X H0 env (.Expr e pos :: rest) D := run_cons (ps_expr he hs) fun B σ H S => ⟨S.e, fun v H1 s1 _ => k B σ H1 (S.grow s1)⟩
/-- a way that can't be -/
theorem run_no {st : Stmt} (h : False) : Run X H0 env (st :: rest) D := h.elim

/-! an own list's methods -/
theorem run_append (i : Nat) {x : Str} {e : Expr} {d : PyData} {ds : List PyData} {p apos cpos : Pos} (hN : X.N[i]? = some x) (hv : Vis X.env.scope x) (hi : env[i]? = some (some (.l ds))) (he : Ev X env e d) (hf : fz d = true) (hz : ds.length ≤ 1000000) (k : Run X H0 (env.set i (some (.l (ds ++ [d])))) rest D)
    (hd : (x == ("__debug__" : Str)) = false := by decide) (hcd : (x == ("__classdict__" : Str)) = false := by decide)
    (hs : swapsWith (.Call (.Attribute (.Name x p) "append" apos) [e] [] cpos) none pos.line X.env = pure false := by rfl)
    (hse : starEach [e] X.env = (false, eval e X.env) :: starEach [] X.env := by rfl)
    (hbase : attributeBase (.Name x p) "append" X.env (eval (.Name x p) X.env) = eval (.Name x p) X.env := by rfl)
    (hfew : ((backTo cpos (starEach [e] X.env)).all (fun x => !x.1) && (backToKw cpos (keywordEach [] X.env)).all (fun x => x.1.isSome)
      && decide ([e].length + ([] : List Keyword).length + (if ([] : List Keyword).isEmpty then 0 else 1) < 30)) = true := by rfl)
    (hline : (apos.endLine == cpos.line) = true := by rfl) (hplain : (backTo cpos (starEach [] X.env)).any (·.1) = false := by rfl) :
    Run X H0 env (.Expr (.Call (.Attribute (.Name x p) "append" apos) [e] [] cpos) pos :: rest) D :=
  run_cons (ps_expr (pe_bm PySem.F.plainAttrs_list PySem.F.slot_list_append PySem.F.type_list_append mt_append (pe_var hN hv hd hcd) (pa_cons he pa_nil hse) hbase hfew hline hse hplain) hs) fun B σ H S => by
    obtain ⟨v, hv, l, vs, rfl, hB, hl, hd, hfs⟩ := S.sl i _ hi
    refine ⟨_, hv, .inl ⟨rfl, _, .of hl⟩, S.e, fun w H1 s1 d1 => ⟨l, vs, w, rfl, rfl, s1 _ _ hl, ?_, k B σ _ ?_⟩⟩
    · rw [RpAll.len hd]
      exact Nat.lt_of_le_of_lt hz (by decide)
    · have S1 := S.grow s1
      have kp : Keep H1 (upd H1 l (.lst (vs ++ [w]))) := keep_upd (s1 _ _ hl) (fun xs z => by cases z)
      exact S1.chg hi rfl hv hB (s1 _ _ hl) (fun xs z => by cases z) ⟨l, _, rfl, hB, upd_same, .append (dkeeps kp _ _ hfs (hd.mono s1)) (.cons (dkeep kp _ _ hf d1) .nil), by rw [fzs_append]; simp [hfs, fzs, hf]⟩
theorem run_pop (i : Nat) {x : Str} {ds : List PyData} {p apos cpos : Pos} (hN : X.N[i]? = some x) (hv : Vis X.env.scope x) (hi : env[i]? = some (some (.l ds))) (hz : ds ≠ []) (k : Run X H0 (env.set i (some (.l ds.dropLast))) rest D)
    (hd : (x == ("__debug__" : Str)) = false := by decide) (hcd : (x == ("__classdict__" : Str)) = false := by decide)
    (hs : swapsWith (.Call (.Attribute (.Name x p) "pop" apos) [] [] cpos) none pos.line X.env = pure false := by rfl)
    (hbase : attributeBase (.Name x p) "pop" X.env (eval (.Name x p) X.env) = eval (.Name x p) X.env := by rfl)
    (hline : (apos.endLine == cpos.line) = true := by rfl) :
    Run X H0 env (.Expr (.Call (.Attribute (.Name x p) "pop" apos) [] [] cpos) pos :: rest) D :=
  run_cons (ps_expr (pe_bm0 PySem.F.plainAttrs_list PySem.F.slot_list_pop PySem.F.type_list_pop mt_pop (pe_var hN hv hd hcd) hbase hline) hs) fun B σ H S => by
    obtain ⟨v, hv, l, vs, rfl, hB, hl, hd, hfs⟩ := S.sl i _ hi
    have hn : ds.length ≠ 0 := fun z => hz (List.eq_nil_of_length_eq_zero z)
    have hvl := RpAll.len hd
    have hlt : vs.length - 1 < vs.length := by omega
    refine ⟨_, hv, .inl ⟨rfl, _, .of hl⟩, l, vs, vs[vs.length - 1], rfl, rfl, hl, List.getElem?_eq_getElem hlt, k B σ _ ?_⟩
    have kp : Keep H (upd H l (.lst vs.dropLast)) := keep_upd hl (fun xs z => by cases z)
    exact S.chg hi rfl hv hB hl (fun xs z => by cases z) ⟨l, _, rfl, hB, upd_same, .dropLast (dkeeps kp _ _ hfs hd), fzs_of fun d m => fzs_mem hfs (by rw [List.dropLast_eq_take] at m; exact List.mem_of_mem_take m)⟩
end
end Sw

namespace Sw
open PySem PySem.Spec PyProof.Rows L2

/-! ### targets -/
section
variable {K : PySem.W.Frag}
/-- what a target does to the slots, given the data -/
def GS (K : PySem.W.Frag) (g : TG) (f : PyData → En → En) (ok : PyData → Prop) : Prop := ∀ (H0 B : Hp) (σ : L2.St) (H : Hp) (v : V) (d : PyData) (env : En) (Q : L2.St → Hp → Prop), StOk K H0 B H σ env → Rp K H v d → fz d = true → ok d → (∀ σ', StOk K H0 B H σ' (f d env) → Q σ' H) → g v σ H Q
def GE (K : PySem.W.Frag) (vs : List Nat) (g : TG) (f : PyData → En → En) (ok : PyData → Prop) : Prop := ∀ (σ : L2.St) (H : Hp) (v : V) (d : PyData) (env : En) (Q : L2.St → Hp → Prop), σ.length = env.length → EnvE K H σ env → Rp K H v d → ok d → (∀ σ', σ'.length = σ.length → EnvE K H σ' (f d env) → wipe σ' vs = wipe σ vs → Q σ' H) → g v σ H Q
def fN (i : Nat) : PyData → En → En := fun d env => env.set i (some (.d d))
def okN : PyData → Prop := fun _ => True
def fT (f1 f2 : PyData → En → En) : PyData → En → En := fun d env => match d with
  | .tuple [a, b] => f2 b (f1 a env)
  | _ => env
def okT (o1 o2 : PyData → Prop) : PyData → Prop := fun d => ∃ a b, d = .tuple [a, b] ∧ o1 a ∧ o2 b
theorem gs_name (i : Nat) : GS K (gName i) (fN i) okN := fun H0 B σ H v d env Q S r hf _ q => q _ (S.put (s := .d d) (.inr ⟨hf, r⟩) fun z => by cases z)
theorem gs_tup2 {g1 g2 : TG} {f1 f2 : PyData → En → En} {o1 o2 : PyData → Prop} (h1 : GS K g1 f1 o1) (h2 : GS K g2 f2 o2) : GS K (gTup K 2 (gCons g1 (gCons g2 gNil))) (fT f1 f2) (okT o1 o2) := by
  intro H0 B σ H v d env Q S r hf hok q
  obtain ⟨a, b, rfl, oa, ob⟩ := hok
  have hf' : (fz a && (fz b && true)) = true := hf
  simp only [Bool.and_eq_true] at hf'
  cases r with
  | tup ha hd =>
    cases hd with
    | cons q1 hd =>
      cases hd with
      | cons q2 hd =>
        cases hd
        exact ⟨_, _, rfl, .of ha, rfl, _, _, rfl, h1 H0 B σ H _ a env _ S q1 hf'.1 oa fun σ1 S1 => ⟨_, _, rfl, h2 H0 B σ1 H _ b _ _ S1 q2 hf'.2.1 ob fun σ2 S2 => ⟨rfl, q σ2 S2⟩⟩⟩
theorem wipe_set {σ : L2.St} {j : Nat} {o : Option V} : ∀ {vs : List Nat}, j ∈ vs → wipe (σ.set j o) vs = wipe σ vs
  | v :: vs, h => by
    show (wipe (σ.set j o) vs).set v none = (wipe σ vs).set v none
    by_cases e : j ∈ vs
    · rw [wipe_set e]
    · have e2 : j = v := by
        rcases List.mem_cons.mp h with r | r
        · exact r
        · exact absurd r e
      subst e2
      have : ∀ ws : List Nat, j ∉ ws → wipe (σ.set j o) ws = (wipe σ ws).set j o := by
        intro ws
        induction ws with
        | nil => intro _; rfl
        | cons w ws ih =>
          intro hw
          simp only [List.mem_cons, not_or] at hw
          show (wipe (σ.set j o) ws).set w none = ((wipe σ ws).set w none).set j o
          rw [ih hw.2, List.set_comm _ _ hw.1]
      rw [this vs e, List.set_set]
theorem EnvE.put {K : PySem.W.Frag} {H : Hp} {σ : L2.St} {env : En} (hl : σ.length = env.length) (h : EnvE K H σ env) {i : Nat} {v : V} {s : SV} (hv : SvE K H v s) : EnvE K H (σ.set i (some v)) (env.set i (some s)) := fun j t hj => by
  rcases set_get hj with ⟨rfl, e⟩ | ⟨ne, e⟩
  · cases e
    have hlt : j < (env.set j (some s)).length := (List.getElem?_eq_some_iff.mp hj).1
    rw [List.length_set, ← hl] at hlt
    exact ⟨v, List.getElem?_set_self hlt, hv⟩
  · obtain ⟨w, h1, h2⟩ := h j t e
    exact ⟨w, by rw [List.getElem?_set_ne (fun z => ne z.symm)]; exact h1, h2⟩
theorem ge_name {vs : List Nat} (i : Nat) (hi : i ∈ vs) : GE K vs (gName i) (fN i) okN := fun σ H v d env Q hl he r _ q => q _ (by rw [List.length_set]) (he.put hl (s := .d d) r) (wipe_set hi)
theorem ge_tup2 {vs : List Nat} {g1 g2 : TG} {f1 f2 : PyData → En → En} {o1 o2 : PyData → Prop} (h1 : GE K vs g1 f1 o1) (h2 : GE K vs g2 f2 o2) (hl1 : ∀ d e, (f1 d e).length = e.length) : GE K vs (gTup K 2 (gCons g1 (gCons g2 gNil))) (fT f1 f2) (okT o1 o2) := by
  intro σ H v d env Q hl he r hok q
  obtain ⟨a, b, rfl, oa, ob⟩ := hok
  cases r with
  | tup ha hd =>
    cases hd with
    | cons q1 hd =>
      cases hd with
      | cons q2 hd =>
        cases hd
        exact ⟨_, _, rfl, .of ha, rfl, _, _, rfl, h1 σ H _ a env _ hl he q1 oa fun σ1 l1 e1 w1 => ⟨_, _, rfl, h2 σ1 H _ b _ _ (by rw [l1, hl, hl1]) e1 q2 ob fun σ2 l2 e2 w2 => ⟨rfl, q σ2 (l2.trans l1) e2 (w2.trans w1)⟩⟩⟩
end

/-! ### what loops walk -/
def ItS (X : Cx) (H0 : Hp) (env : En) (tg iter : Expr) (n : Nat) (item : Nat → PyData) : Prop := ∃ wi, PI X tg iter wi ∧ ∀ B σ H R, StOk X.K H0 B H σ env →
  (∀ J H1 Bi G Yv, Same H H1 → StOk X.K H0 Bi H1 σ env → Walk J n G Yv → (∀ H', Same Bi H' → G H') → (∀ i H' x H'', i < n → Same Bi H' → Yv i H' x H'' → Same H' H'' ∧ Rp X.K H'' x (item i)) → R J H1) → wi σ H R
def ItE (X : Cx) (env : En) (tg iter : Expr) (n : Nat) (item : Nat → PyData) : Prop := ∃ wi, PI X tg iter wi ∧ ∀ σ H R, EnvE X.K H σ env →
  (∀ J H1 G Yv, Same H H1 → Walk J n G Yv → (∀ H', Same H1 H' → G H') → (∀ i H' x H'', i < n → Same H1 H' → Yv i H' x H'' → Same H' H'' ∧ Rp X.K H'' x (item i)) → R J H1) → wi σ H R
section
variable {X : Cx} {H0 : Hp} {env : En} {D : Ends} {rest body : List Stmt} {pos : Pos}
theorem tR_mono {D1 D2 : Ends} {σ : L2.St} {H : Hp} (h : tR X body D1 σ H) (h1 : ∀ σ H, D1.nx σ H → D2.nx σ H) (h2 : ∀ v H, D1.rt v H → D2.rt v H) (h3 : ∀ σ H, D1.bk σ H → D2.bk σ H) (h4 : ∀ σ H, D1.ct σ H → D2.ct σ H) : tR X body D2 σ H := by
  obtain ⟨t, ht, q⟩ := h
  refine ⟨fun D' σ4 H4 => (∀ σ5 H5, D1.nx σ5 H5 → D'.nx σ5 H5) ∧ (∀ v H5, D1.rt v H5 → D'.rt v H5) ∧ (∀ σ5 H5, D1.bk σ5 H5 → D'.bk σ5 H5) ∧ (∀ σ5 H5, D1.ct σ5 H5 → D'.ct σ5 H5) ∧ t D1 σ4 H4, ⟨fun pins s σ4 H4 D' I ⟨k1, k2, k3, k4, k5⟩ => ?_⟩, ⟨h1, h2, h3, h4, q⟩⟩
  refine thn (ht.run pins s σ4 H4 _ I k5) fun fl s5 w => ?_
  cases fl with
  | next => obtain ⟨σ5, H5, I5, q5⟩ := w; exact ⟨σ5, H5, I5, k1 _ _ q5⟩
  | brk => obtain ⟨σ5, H5, I5, q5⟩ := w; exact ⟨σ5, H5, I5, k3 _ _ q5⟩
  | cont => obtain ⟨σ5, H5, I5, q5⟩ := w; exact ⟨σ5, H5, I5, k4 _ _ q5⟩
  | ret u => obtain ⟨v, σ5, H5, I5, r5, q5⟩ := w; exact ⟨v, σ5, H5, I5, r5, k2 _ _ q5⟩
theorem run_for {tg iter : Expr} {n : Nat} {item : Nat → PyData} {g : TG} {f : PyData → En → En} {ok : PyData → Prop} (E : Nat → En) (hp : PassesOwn (model X.prog X.w) X.A X.env X.xe) (hc : X.calm = true) (hI : ItS X H0 env tg iter n item) (hg : PG X tg g) (hs : GS X.K g f ok)
    (h0 : Le (E 0) env) (hit : ∀ i, i < n → fz (item i) = true ∧ ok (item i))
    (turn : ∀ (i : Nat) (Hl : Hp) (D' : Ends), i < n → Same H0 Hl → D'.nx = NX X Hl (E (i + 1)) → D'.rt = D.rt → Run X Hl (f (item i) (E i)) body D')
    (done : Run X H0 (E n) rest D) (hfo : ∀ x, foldedSetIterable iter X.env x = pure x := by intro _; rfl) : Run X H0 env (.For tg iter body [] pos :: rest) D := by
  obtain ⟨wi, hi, hw⟩ := hI
  refine run_cons (ps_for hp hc hi hg (tR_ok (X := X) (body := body)) hfo) fun B σ H S => ?_
  refine hw B σ H _ S fun J H1 Bi G Yv s1 S1 W hG hY => ?_
  refine for_it W (fun i σ' H' => ∃ B', Same Bi B' ∧ StOk X.K H0 B' H' σ' (E i)) ⟨Bi, Same.refl _, S1.le h0⟩ (fun i σ' H' _ ⟨B', b, S'⟩ => hG H' (b.trans S'.e1)) ?_ ?_
  · rintro i x σ' H' H'' hlt ⟨B', b, S'⟩ hy
    obtain ⟨s2, r⟩ := hY i H' x H'' hlt (b.trans S'.e1) hy
    have S2 : StOk X.K B' B' H'' σ' (E i) := ⟨Same.refl _, (S'.grow s2).e1, (S'.grow s2).len, (S'.grow s2).sl, (S'.grow s2).sep⟩
    refine hs B' B' σ' H'' x (item i) (E i) _ S2 r (hit i hlt).1 (hit i hlt).2 fun σ3 S3 => ?_
    have T := turn i B' { D with nx := NX X B' (E (i + 1)), ct := NX X B' (E (i + 1)), bk := fun _ _ => False } hlt S'.e0 rfl rfl B' σ3 H'' S3
    have g : ∀ σ5 H5, NX X B' (E (i + 1)) σ5 H5 → ∃ B', Same Bi B' ∧ StOk X.K H0 B' H5 σ5 (E (i + 1)) := fun σ5 H5 ⟨B5, S5⟩ => ⟨B5, b.trans S5.e0, ⟨S'.e0.trans S5.e0, S5.e1, S5.len, S5.sl, S5.sep⟩⟩
    exact tR_mono T g (fun _ _ z => z) (fun _ _ z => z.elim) g
  · rintro σ' H' ⟨B', b, S'⟩
    exact done B' σ' H' S'

/-! the things walked -/
theorem sign_at {l : List Nat} {i c : Nat} (hc : (SX.S l).cps[i]? = some c) : l.getD i 0 = c := by
  have : l[i]? = some c := by simpa using hc
  rw [List.getD_eq_getElem?_getD, this]
  rfl
theorem rp_sign {K : PySem.W.Frag} {H : Hp} {l : List Nat} {i c : Nat} (hc : (SX.S l).cps[i]? = some c) : Rp K H (.str ⟨#[c]⟩) (.str (SX.S [l.getD i 0])) := by
  rw [sign_at hc]
  exact .str _
theorem walk_S {l : List Nat} : Walk (Its (SX.S l)) l.length (fun _ => True) (fun i H v H' => H' = H ∧ ∃ c, (SX.S l).cps[i]? = some c ∧ v = .str ⟨#[c]⟩) := by
  have := walk_str (z := SX.S l)
  simpa using this
theorem its_str {tg e : Expr} {l : List Nat} (he : Ev X env e (.str (SX.S l))) : ItS X H0 env tg e l.length (fun i => .str (SX.S [l.getD i 0])) := ⟨_, pi_str he, fun B σ H R S q => ⟨S.e, fun v H1 s1 d1 => by
  cases d1
  refine ⟨_, rfl, q _ H1 B _ _ s1 (S.grow s1) walk_S (fun _ _ => trivial) fun i H' x H'' hi sB hy => ?_⟩
  obtain ⟨rfl, c, hc, rfl⟩ := hy
  exact ⟨Same.refl _, rp_sign hc⟩⟩⟩
theorem ite_str {tg e : Expr} {l : List Nat} (he : Ev X env e (.str (SX.S l))) : ItE X env tg e l.length (fun i => .str (SX.S [l.getD i 0])) := ⟨_, pi_str he, fun σ H R S q => ⟨S, fun v H1 s1 d1 => by
  cases d1
  refine ⟨_, rfl, q _ H1 _ _ s1 walk_S (fun _ _ => trivial) fun i H' x H'' hi sB hy => ?_⟩
  obtain ⟨rfl, c, hc, rfl⟩ := hy
  exact ⟨Same.refl _, rp_sign hc⟩⟩⟩
theorem getD_at {ds : List PyData} {i : Nat} {d : PyData} (h : ds[i]? = some d) : ds.getD i .none = d := by
  rw [List.getD_eq_getElem?_getD, h]
  rfl
/-- a list made for the loop -/
theorem its_new {tg e : Expr} {ds : List PyData} (he : EvL X env e ds) (hf : fzs ds = true) : ItS X H0 env tg e ds.length (fun i => ds.getD i .none) := ⟨_, pi_list he, fun B σ H R S q => ⟨S.e, fun l vs H1 s1 hl h1 d1 => by
  have hb : hide B H H1 l = some (.lst vs) := by
    rw [hide_at (by rw [hl]; exact id)]
    exact h1
  refine ⟨l, rfl, ⟨vs, .of h1⟩, q _ H1 (hide B H H1) _ _ s1 (S.hide s1) (by rw [← RpAll.len d1]; exact walk_list (K := X.K) (a := l) (xs := vs)) (fun H' s => SqL.of (K := X.K) (s _ _ hb)) fun i H' x H'' hi sB hy => ?_⟩
  obtain ⟨rfl, hx⟩ := hy
  obtain ⟨d, hd, r⟩ := RpAll.get' (dkeeps (hide_keep s1) _ _ hf d1) hx
  refine ⟨Same.refl _, ?_⟩
  show Rp _ _ _ (ds.getD i .none)
  rw [getD_at hd]
  exact r.mono sB⟩⟩
theorem ite_list {tg e : Expr} {ds : List PyData} (he : Ev X env e (.list ds)) : ItE X env tg e ds.length (fun i => ds.getD i .none) := ⟨_, pi_list he, fun σ H R S q => ⟨S, fun v H1 s1 d1 => by
  cases d1 with
  | lst hs ha =>
    rename_i l vs
    refine ⟨l, rfl, ⟨vs, hs⟩, q _ H1 _ _ s1 (by rw [← RpAll.len ha]; exact walk_list (K := X.K) (a := l) (xs := vs)) (fun H' s => s.seq hs) fun i H' x H'' hi sB hy => ?_⟩
    obtain ⟨rfl, hx⟩ := hy
    obtain ⟨d, hd, r⟩ := RpAll.get' ha hx
    refine ⟨Same.refl _, ?_⟩
    show Rp _ _ _ (ds.getD i .none)
    rw [getD_at hd]
    exact r.mono sB⟩⟩
/-- a slot's data list -/
theorem its_slot (j : Nat) {x : Str} {tg : Expr} {px : Pos} {ds : List PyData} (hN : X.N[j]? = some x) (hv : Vis X.env.scope x) (hj : env[j]? = some (some (.d (.list ds)))) (hb : (x == ("__debug__" : Str)) = false := by decide) (hcd : (x == ("__classdict__" : Str)) = false := by decide) :
    ItS X H0 env tg (.Name x px) ds.length (fun i => ds.getD i .none) := ⟨_, pi_list (pe_var hN hv hb hcd), fun B σ H R S q => by
  obtain ⟨v, h1, h2⟩ := S.sl j _ hj
  have h2 : Rp X.K B v (.list ds) := by
    rcases h2 with h | h
    · exact h
    · exact absurd h.1 (by simp [fz])
  cases h2 with
  | lst hs ha =>
    rename_i l vs
    refine ⟨_, h1, l, rfl, ⟨vs, S.e1.seq hs⟩, q _ H B _ _ (Same.refl _) S (by rw [← RpAll.len ha]; exact walk_list (K := X.K) (a := l) (xs := vs)) (fun H' s => s.seq hs) fun i H' x H'' hi sB hy => ?_⟩
    obtain ⟨rfl, hx⟩ := hy
    obtain ⟨d, hd, r⟩ := RpAll.get' ha hx
    refine ⟨Same.refl _, ?_⟩
    show Rp _ _ _ (ds.getD i .none)
    rw [getD_at hd]
    exact r.mono sB⟩
theorem its_range1 {tg e : Expr} {p pos : Pos} {n : Int} (hg : Gl X "range") (hm : X.mg "range" = none) (he : Ev X env e (.int n)) (h : n ≤ 1000000000) (h' : -1000000000 ≤ n := by omega) (hs : starEach [e] X.env = [(false, eval e X.env)] := by rfl) :
    ItS X H0 env tg (.Call (.Name "range" p) [e] [] pos) n.toNat (fun i => .int (i : Int)) := ⟨_, pi_range1 hg hm (ea_cons he ea_nil hs) hs, fun B σ H R S q => ⟨S.e, fun vs H1 s1 d1 => by
  cases d1 with
  | cons a b =>
    cases b
    cases a
    refine ⟨n, rfl, by omega, by omega, q _ H1 B _ _ s1 (S.grow s1) walk_range (fun _ _ => trivial) fun i H' x H'' hi sB hy => ?_⟩
    obtain ⟨rfl, rfl⟩ := hy
    refine ⟨Same.refl _, ?_⟩
    show Rp _ _ (V.int (0 + (i : Int))) (PyData.int (i : Int))
    rw [Int.zero_add]
    exact .int _⟩⟩
theorem its_range2 {tg e e2 : Expr} {p pos : Pos} {m n : Int} (hg : Gl X "range") (hm : X.mg "range" = none) (he : Ev X env e (.int m)) (he2 : Ev X env e2 (.int n)) (h : -1000000000 ≤ m ∧ m ≤ 1000000000 ∧ -1000000000 ≤ n ∧ n ≤ 1000000000)
    (hs : starEach [e, e2] X.env = [(false, eval e X.env), (false, eval e2 X.env)] := by rfl) (hs2 : starEach [e2] X.env = [(false, eval e2 X.env)] := by rfl) :
    ItS X H0 env tg (.Call (.Name "range" p) [e, e2] [] pos) (n - m).toNat (fun i => .int (m + (i : Int))) := ⟨_, pi_range2 hg hm (ea_cons he (ea_cons he2 ea_nil hs2) (hs.trans (by rw [hs2]))) hs hs2, fun B σ H R S q => ⟨S.e, fun vs H1 s1 d1 => by
  cases d1 with
  | cons a b =>
    cases b with
    | cons b c =>
      cases c
      cases a
      cases b
      refine ⟨m, n, rfl, by omega, q _ H1 B _ _ s1 (S.grow s1) walk_range (fun _ _ => trivial) fun i H' x H'' hi sB hy => ?_⟩
      obtain ⟨rfl, rfl⟩ := hy
      exact ⟨Same.refl _, .int _⟩⟩⟩
theorem ite_range1 {tg e : Expr} {p pos : Pos} {n : Int} (hg : Gl X "range") (hm : X.mg "range" = none) (he : Ev X env e (.int n)) (h : n ≤ 1000000000) (h' : -1000000000 ≤ n := by omega) (hs : starEach [e] X.env = [(false, eval e X.env)] := by rfl) :
    ItE X env tg (.Call (.Name "range" p) [e] [] pos) n.toNat (fun i => .int (i : Int)) := ⟨_, pi_range1 hg hm (ea_cons he ea_nil hs) hs, fun σ H R S q => ⟨S, fun vs H1 s1 d1 => by
  cases d1 with
  | cons a b =>
    cases b
    cases a
    refine ⟨n, rfl, by omega, by omega, q _ H1 _ _ s1 walk_range (fun _ _ => trivial) fun i H' x H'' hi sB hy => ?_⟩
    obtain ⟨rfl, rfl⟩ := hy
    refine ⟨Same.refl _, ?_⟩
    show Rp _ _ (V.int (0 + (i : Int))) (PyData.int (i : Int))
    rw [Int.zero_add]
    exact .int _⟩⟩
theorem ite_range2 {tg e e2 : Expr} {p pos : Pos} {m n : Int} (hg : Gl X "range") (hm : X.mg "range" = none) (he : Ev X env e (.int m)) (he2 : Ev X env e2 (.int n)) (h : -1000000000 ≤ m ∧ m ≤ 1000000000 ∧ -1000000000 ≤ n ∧ n ≤ 1000000000)
    (hs : starEach [e, e2] X.env = [(false, eval e X.env), (false, eval e2 X.env)] := by rfl) (hs2 : starEach [e2] X.env = [(false, eval e2 X.env)] := by rfl) :
    ItE X env tg (.Call (.Name "range" p) [e, e2] [] pos) (n - m).toNat (fun i => .int (m + (i : Int))) := ⟨_, pi_range2 hg hm (ea_cons he (ea_cons he2 ea_nil hs2) (hs.trans (by rw [hs2]))) hs hs2, fun σ H R S q => ⟨S, fun vs H1 s1 d1 => by
  cases d1 with
  | cons a b =>
    cases b with
    | cons b c =>
      cases c
      cases a
      cases b
      refine ⟨m, n, rfl, by omega, q _ H1 _ _ s1 walk_range (fun _ _ => trivial) fun i H' x H'' hi sB hy => ?_⟩
      obtain ⟨rfl, rfl⟩ := hy
      exact ⟨Same.refl _, .int _⟩⟩⟩

/-! ### comprehensions -/
def wipeE (env : En) : List Nat → En
  | [] => env
  | v :: vs => (wipeE env vs).set v none
theorem wipeE_ok {K : PySem.W.Frag} {H : Hp} {σ : L2.St} (h : EnvE K H σ env) : ∀ vs : List Nat, EnvE K H (wipe σ vs) (wipeE env vs)
  | [] => h
  | v :: vs => fun j t hj => by
    rcases set_get hj with ⟨rfl, e⟩ | ⟨ne, e⟩
    · cases e
    · obtain ⟨w, h1, h2⟩ := wipeE_ok h vs j t e
      exact ⟨w, by show ((wipe σ vs).set v none)[j]? = _; rw [List.getElem?_set_ne (fun z => ne z.symm)]; exact h1, h2⟩
theorem wipeE_len : ∀ vs : List Nat, (wipeE env vs).length = env.length
  | [] => rfl
  | v :: vs => by show ((wipeE env vs).set v none).length = _; rw [List.length_set, wipeE_len vs]
theorem filt_yes {n : Nat} {c : Nat → Bool} {v : Nat → PyData} (h : c n = true) : ((List.range (n + 1)).filter c).map v = ((List.range n).filter c).map v ++ [v n] := by
  rw [List.range_succ, List.filter_append, List.map_append, List.filter_cons, if_pos h]
  rfl
theorem filt_no {n : Nat} {c : Nat → Bool} {v : Nat → PyData} (h : c n = false) : ((List.range (n + 1)).filter c).map v = ((List.range n).filter c).map v := by
  rw [List.range_succ, List.filter_append, List.map_append, List.filter_cons, if_neg (by rw [h]; decide)]
  show _ ++ [] = _
  rw [List.append_nil]
theorem filt_len {n : Nat} {c : Nat → Bool} {v : Nat → PyData} : (((List.range n).filter c).map v).length ≤ n := by
  rw [List.length_map]
  have h := List.length_filter_le c (List.range n)
  rw [List.length_range] at h
  exact h
/-- [elt for tg in iter if ..]: c which turns give, v what -/
theorem lc_main {tg iter : Expr} {own : List (Str × Nat)} {n : Nat} {item : Nat → PyData} {g : TG} {f : PyData → En → En} {ok : PyData → Prop} (c : Nat → Bool) (v : Nat → PyData) {tt : TT} {te : TE}
    (hI : ItE X env tg iter n item) (hs : GE X.K (own.map (·.2)) g f ok) (hit : ∀ i, i < n → ok (item i)) (hfz : ∀ i, i < n → c i = true → fz (v i) = true) (hlen : n ≤ 1000000)
    (ht : ∀ i, i < n → ∀ σ H Q, tP X.K (f (item i) (wipeE env (own.map (·.2)))) (c i) σ H Q → tt σ H Q)
    (he : ∀ i, i < n → c i = true → ∀ σ H Q, tD X.K (f (item i) (wipeE env (own.map (·.2)))) (v i) σ H Q → te σ H Q) :
    ∃ wi, PI X tg iter wi ∧ ∀ σ H Q, σ.length = env.length → tL X.K env (((List.range n).filter c).map v) σ H Q → tLc wi g tt te (own.map (·.2)) σ H Q := by
  obtain ⟨wi, hi, hw⟩ := hI
  refine ⟨wi, hi, fun σ H Q hlσ ⟨hE, q⟩ => hw σ H _ hE fun J H1 G Yv s1 W hG hY Dl hD => ?_⟩
  have fzl : ∀ i, i ≤ n → fzs (((List.range i).filter c).map v) = true := fun i hi => fzs_of fun d hd => by
    obtain ⟨j, hj, rfl⟩ := List.mem_map.mp hd
    obtain ⟨hj1, hj2⟩ := List.mem_filter.mp hj
    exact hfz j (Nat.lt_of_lt_of_le (List.mem_range.mp hj1) hi) hj2
  refine lc_it W (fun i H' => Same H1 H' ∧ ∃ us, H' Dl = some (.lst us) ∧ RpAll X.K H' us (((List.range i).filter c).map v)) ⟨same_new hD, [], upd_same, .nil⟩ (fun i H' _ p => hG H' p.1) ?_ ?_
  · rintro i x H' H'' hlt ⟨p1, us, p2, p3⟩ hy
    obtain ⟨s2, r⟩ := hY i H' x H'' hlt p1 hy
    have hE2 : EnvE X.K H'' (wipe σ (own.map (·.2))) (wipeE env (own.map (·.2))) := wipeE_ok (hE.mono (s1.trans (p1.trans s2))) _
    refine hs _ H'' x (item i) _ _ (by rw [wipe_length, wipeE_len, hlσ]) hE2 r (hit i hlt) fun σ2 l2 e2 w2 => ⟨w2.trans ?_, ?_⟩
    · have : ∀ vs : List Nat, wipe (wipe σ vs) vs = wipe σ vs := by
        have com : ∀ (vs : List Nat) (τ : L2.St) (j : Nat), wipe (τ.set j none) vs = (wipe τ vs).set j none := by
          intro vs
          induction vs with
          | nil => intro τ j; rfl
          | cons w ws ih =>
            intro τ j
            show (wipe (τ.set j none) ws).set w none = ((wipe τ ws).set w none).set j none
            rw [ih]
            by_cases e : j = w
            · rw [e]
            · rw [List.set_comm _ _ e]
        intro vs
        induction vs with
        | nil => rfl
        | cons w ws ih =>
          show (wipe ((wipe σ ws).set w none) ws).set w none = (wipe σ ws).set w none
          rw [com, List.set_set, ih]
      exact this _
    · refine ht i hlt σ2 H'' _ ⟨e2, fun H3 s3 => ?_⟩
      cases hc : c i with
      | false =>
        refine iteF ⟨p1.trans (s2.trans s3), us, s3 _ _ (s2 _ _ p2), ?_⟩
        rw [filt_no hc]
        exact p3.mono (s2.trans s3)
      | true =>
        refine iteT (he i hlt hc σ2 H3 _ ⟨e2.mono s3, fun y H4 s4 d4 => ⟨us, s4 _ _ (s3 _ _ (s2 _ _ p2)), ?_, ?_, us ++ [y], upd_same, ?_⟩⟩)
        · rw [RpAll.len p3]
          have := filt_len (n := i) (c := c) (v := v)
          exact Nat.lt_of_le_of_lt (Nat.le_trans this (Nat.le_trans (Nat.le_of_lt hlt) hlen)) (by decide)
        · intro b o e
          rw [upd_ne (ne_of_none e hD)]
          exact s4 _ _ (s3 _ _ (s2 _ _ (p1 _ _ e)))
        · rw [filt_yes hc]
          have hl4 : H4 Dl = some (.lst us) := s4 _ _ (s3 _ _ (s2 _ _ p2))
          have kp : Keep H4 (upd H4 Dl (.lst (us ++ [y]))) := keep_upd hl4 (fun xs z => by cases z)
          exact .append (dkeeps kp _ _ (fzl i (Nat.le_of_lt hlt)) (p3.mono (s2.trans (s3.trans s4)))) (.cons (dkeep kp _ _ (hfz i hlt hc) d4) .nil)
  · rintro H' ⟨p1, us, p2, p3⟩
    exact q Dl us H' (s1.trans p1) (s1.free hD) p2 p3
theorem evl_compF {tg iter elt : Expr} {ifs : List Expr} {scope : Scope} {pos : Pos} {n : Nat} {item : Nat → PyData} {g : TG} {f : PyData → En → En} {ok : PyData → Prop} (own : List (Str × Nat)) (c : Nat → Bool) (v : Nat → PyData) (hc : X.calm = true) (hN : X.N.Nodup) (hok : BlkOk X.N X.env.scope scope own)
    (hI : ItE X env tg iter n item) (hg : ∀ (s : Shared) (H : Hp) (C : Addr) (cl : List (Str × Addr)) (fp : List Addr), PG (X.blk s H scope (compEnvC scope cl C X.env) fp) tg g) (hs : GE X.K (own.map (·.2)) g f ok) (hit : ∀ i, i < n → ok (item i)) (hfz : ∀ i, i < n → c i = true → fz (v i) = true) (hlen : n ≤ 1000000)
    (ht : ∀ (s : Shared) (H : Hp) (C : Addr) (cl : List (Str × Addr)) (fp : List Addr) i, i < n → PTs (X.blk s H scope (compEnvC scope cl C X.env) fp) ifs (tP X.K (f (item i) (wipeE env (own.map (·.2)))) (c i)))
    (he : ∀ (s : Shared) (H : Hp) (C : Addr) (cl : List (Str × Addr)) (fp : List Addr) i, i < n → c i = true → Ev (X.blk s H scope (compEnvC scope cl C X.env) fp) (f (item i) (wipeE env (own.map (·.2)))) elt (v i))
    (hel : X.N.length = env.length := by rfl) (hfo : ∀ x, foldedSetIterable iter X.env x = pure x := by intro _; rfl) :
    EvL X env (.ListComp elt [⟨tg, iter, ifs, 0⟩] scope pos) (((List.range n).filter c).map v) := by
  obtain ⟨wi, hi, hw⟩ := lc_main (tt := fun σ H Q => ∃ i, i < n ∧ tP X.K (f (item i) (wipeE env (own.map (·.2)))) (c i) σ H Q) (te := fun σ H Q => ∃ i, i < n ∧ c i = true ∧ tD X.K (f (item i) (wipeE env (own.map (·.2)))) (v i) σ H Q) c v hI hs hit hfz hlen (fun i hi σ H Q q => ⟨i, hi, q⟩) (fun i hi hci σ H Q q => ⟨i, hi, hci, q⟩)
  refine ⟨fun pins s σ H Q I q => (pe_lc hc hN hi hok hg (fun s H C cl fp => ⟨fun pins s' σ' H' Q' I' ⟨i, hi, q'⟩ => (ht s H C cl fp i hi).run pins s' σ' H' Q' I' q'⟩) (fun s H C cl fp => ⟨fun pins s' σ' H' Q' I' ⟨i, hi, hci, q'⟩ => (he s H C cl fp i hi hci).run pins s' σ' H' Q' I' q'⟩) hfo).run pins s σ H Q I (hw σ H Q (I.len.trans hel) q)⟩
theorem evl_comp {tg iter elt : Expr} {scope : Scope} {pos : Pos} {n : Nat} {item : Nat → PyData} {g : TG} {f : PyData → En → En} {ok : PyData → Prop} (own : List (Str × Nat)) (v : Nat → PyData) (hc : X.calm = true) (hN : X.N.Nodup) (hok : BlkOk X.N X.env.scope scope own)
    (hI : ItE X env tg iter n item) (hg : ∀ (s : Shared) (H : Hp) (C : Addr) (cl : List (Str × Addr)) (fp : List Addr), PG (X.blk s H scope (compEnvC scope cl C X.env) fp) tg g) (hs : GE X.K (own.map (·.2)) g f ok) (hit : ∀ i, i < n → ok (item i)) (hfz : ∀ i, i < n → fz (v i) = true) (hlen : n ≤ 1000000)
    (he : ∀ (s : Shared) (H : Hp) (C : Addr) (cl : List (Str × Addr)) (fp : List Addr) i, i < n → Ev (X.blk s H scope (compEnvC scope cl C X.env) fp) (f (item i) (wipeE env (own.map (·.2)))) elt (v i))
    (hel : X.N.length = env.length := by rfl) (hfo : ∀ x, foldedSetIterable iter X.env x = pure x := by intro _; rfl) :
    EvL X env (.ListComp elt [⟨tg, iter, [], 0⟩] scope pos) ((List.range n).map v) := by
  have h := evl_compF (ifs := []) (pos := pos) own (fun _ => true) v hc hN hok hI hg hs hit (fun i hi _ => hfz i hi) hlen (fun s H C cl fp i hi => ⟨fun pins s' σ' H' Q' I' q' => pts_nil.run pins s' σ' H' Q' I' (q'.2 H' (Same.refl _))⟩) (fun s H C cl fp i hi _ => he s H C cl fp i hi) hel hfo
  rwa [List.filter_eq_self.mpr (fun _ _ => rfl)] at h
end

/-! ### functions -/
section
variable {P : Program} {w : World} {K : PySem.W.Frag} {mg : Str → Option Value} {base : Heap}
def spD (K : PySem.W.Frag) (R : List PyData → PyData → Prop) : Sp := fun vs H Q _ => ∃ ds r, RpAll K H vs ds ∧ R ds r ∧ ∀ v H', Same H H' → Rp K H' v r → Q v H'
def spL (K : PySem.W.Frag) (R : List PyData → List PyData → Prop) : Sp := fun vs H Q _ => ∃ ds rs, RpAll K H vs ds ∧ R ds rs ∧ ∀ l us H', Same H H' → H l = none → H' l = some (.lst us) → RpAll K H' us rs → Q (.ref l) H'
def env0 (n : Nat) (ds : List PyData) : En := ds.map (fun d => some (.d d)) ++ List.replicate (n - ds.length) none
theorem st0 {K : PySem.W.Frag} {H : Hp} {N : List Str} {vs : List V} {ds : List PyData} (h : RpAll K H vs ds) : StOk K H H H (start N vs) (env0 N.length ds) := by
  have hl := RpAll.len h
  have at_ : ∀ (i : Nat) (s : SV), (env0 N.length ds)[i]? = some (some s) → ∃ d, s = .d d ∧ ds[i]? = some d := fun i s hi => by
    unfold env0 at hi
    by_cases hlt : i < ds.length
    · rw [List.getElem?_append_left (by simpa using hlt), List.getElem?_map, List.getElem?_eq_getElem hlt] at hi
      cases hi
      exact ⟨_, rfl, List.getElem?_eq_getElem hlt⟩
    · rw [List.getElem?_append_right (by simpa using hlt), List.getElem?_replicate] at hi
      split at hi
      · cases hi
      · cases hi
  refine ⟨Same.refl _, Same.refl _, ?_, fun i s hi => ?_, fun i j s t v hi hj so => ?_⟩
  · unfold L2.start env0
    simp [hl]
  · obtain ⟨d, rfl, hd⟩ := at_ i s hi
    obtain ⟨v, hv, r⟩ := RpAll.get h hd
    refine ⟨v, ?_, .inl r⟩
    unfold L2.start
    have hlt : i < vs.length := (List.getElem?_eq_some_iff.mp hv).1
    rw [List.getElem?_append_left (by simpa using hlt), List.getElem?_map, hv]
    rfl
  · obtain ⟨d, rfl, _⟩ := at_ i s hi
    cases so
abbrev CxD (P : Program) (w : World) (K : PySem.W.Frag) (mg : Str → Option Value) (base : Heap) (N : List Str) (qual : Str) (st : Stmt) (f : Addr) (cdv : Value) (A : Around) (outer : List Env) (s : Shared) (H : Hp) (E : XK) : Cx := (cxOf CX0 P w K mg base N qual (defScope st) f cdv A outer s H E).nox
theorem fnD {x qual : Str} {st : Stmt} {f : Addr} {fd : FuncData} {N ps : List Str} {k : Nat} {R : List PyData → PyData → Prop} (F : Fun K x qual st f fd) (S : FnScope N ps (defScope st)) (hl : ∀ ds r, R ds r → ds.length = ps.length)
    (body : ∀ (cdv : Value) (A : Around) (outer : List Env) (s : Shared) (H : Hp) (E : XK), Room k (CxD P w K mg base N qual st f cdv A outer s H E).A → ∀ (ds : List PyData) (r : PyData) (D : Ends), R ds r → RtD K H D r → (r = .none → ∀ σ H', Same H H' → D.nx σ H') →
      Run (CxD P w K mg base N qual st f cdv A outer s H E) H (env0 N.length ds) (defBody st) D) : FnOk P w K mg base CX0 (k + 1) f fd ps (spD K R) := by
  refine F.ok S (fun vs H Q E h => ?_) (fun cdv A outer s H vs Q E hr h => ?_)
  · obtain ⟨ds, r, hd, hR, _⟩ := h
    rw [RpAll.len hd, hl ds r hR]
  · obtain ⟨ds, r, hd, hR, q⟩ := h
    exact body cdv A outer s H E hr ds r { nx := fun _ H' => Q .non H', rt := Q } hR q (fun e σ H' s => q .non H' s (by rw [e]; exact .non)) H _ H (st0 hd)
theorem fnL {x qual : Str} {st : Stmt} {f : Addr} {fd : FuncData} {N ps : List Str} {k : Nat} {R : List PyData → List PyData → Prop} (F : Fun K x qual st f fd) (S : FnScope N ps (defScope st)) (hl : ∀ ds r, R ds r → ds.length = ps.length)
    (body : ∀ (cdv : Value) (A : Around) (outer : List Env) (s : Shared) (H : Hp) (E : XK), Room k (CxD P w K mg base N qual st f cdv A outer s H E).A → ∀ (ds : List PyData) (r : List PyData) (D : Ends), R ds r → RtL K H D r →
      Run (CxD P w K mg base N qual st f cdv A outer s H E) H (env0 N.length ds) (defBody st) D) : FnOk P w K mg base CX0 (k + 1) f fd ps (spL K R) := by
  refine F.ok S (fun vs H Q E h => ?_) (fun cdv A outer s H vs Q E hr h => ?_)
  · obtain ⟨ds, r, hd, hR, _⟩ := h
    rw [RpAll.len hd, hl ds r hR]
  · obtain ⟨ds, r, hd, hR, q⟩ := h
    exact body cdv A outer s H E hr ds r { nx := fun _ H' => Q .non H', rt := Q } hR q H _ H (st0 hd)
/-- a def that callers know by its name -/
structure Cd (P : Program) (w : World) (K : PySem.W.Frag) (mg : Str → Option Value) (base : Heap) (k : Nat) (x : Str) (sp : Sp) : Prop where
  ex : ∃ f fd ps, FnOk P w K mg base CX0 k f fd ps sp ∧ mg x = some (.ref f) ∧ PySem.W.keepIn K (.ref f) = true ∧ Binds K fd ps []
end
section
variable {X : Cx} {env : En} {e : Expr} {es : List Expr} {pos p : Pos}
theorem ev_call {x : Str} {k j : Nat} {R : List PyData → PyData → Prop} {ds : List PyData} {r : PyData} (c : Cd X.prog X.w X.K X.mg X.base k x (spD X.K R)) (hr : Room j X.A) (hk : k ≤ j) (hg : Gl X x) (ha : EvA X env (e :: es) ds) (hR : R ds r)
    (hdb : (x == ("__debug__" : Str)) = false := by decide) (he : starEach (e :: es) X.env = (false, eval e X.env) :: starEach es X.env := by rfl) (hpl : (backTo pos (starEach es X.env)).any (·.1) = false := by rfl) :
    Ev X env (.Call (.Name x p) (e :: es) [] pos) r := by
  obtain ⟨f, fd, ps, F, hm, hk', hb⟩ := c.ex
  refine wkE (pe_call F (hr.mono hk) hg hm hk' hb .nil pass0 ha hdb he hpl) fun σ H Q ⟨hE, q⟩ => ⟨hE, fun vs H1 s1 d1 => ?_⟩
  show spD X.K R (vs ++ []) H1 Q E0
  rw [List.append_nil]
  exact ⟨ds, r, d1, hR, fun v H2 s2 d2 => q v H2 (s1.trans s2) d2⟩
theorem evl_call {x : Str} {k j : Nat} {R : List PyData → List PyData → Prop} {ds r : List PyData} (c : Cd X.prog X.w X.K X.mg X.base k x (spL X.K R)) (hr : Room j X.A) (hk : k ≤ j) (hg : Gl X x) (ha : EvA X env (e :: es) ds) (hR : R ds r)
    (hdb : (x == ("__debug__" : Str)) = false := by decide) (he : starEach (e :: es) X.env = (false, eval e X.env) :: starEach es X.env := by rfl) (hpl : (backTo pos (starEach es X.env)).any (·.1) = false := by rfl) :
    EvL X env (.Call (.Name x p) (e :: es) [] pos) r := by
  obtain ⟨f, fd, ps, F, hm, hk', hb⟩ := c.ex
  refine wkE (pe_call F (hr.mono hk) hg hm hk' hb .nil pass0 ha hdb he hpl) fun σ H Q ⟨hE, q⟩ => ⟨hE, fun vs H1 s1 d1 => ?_⟩
  show spL X.K R (vs ++ []) H1 Q E0
  rw [List.append_nil]
  exact ⟨ds, r, d1, hR, fun l us H2 s2 hl h2 d2 => q l us H2 (s1.trans s2) (s1.free hl) h2 d2⟩
end
end Sw

namespace Sw
open PySem PySem.Spec PyProof.Rows L2

/-! ### operators on data -/
section
variable {X : Cx}
theorem opd_rI {K : PySem.W.Frag} {C : Int → Int → Prop} {g : Int → Int → Int} {i j : Int} (h : C i j) : OpD K (rI C fun i j => .int (g i j)) (.int i) (.int j) (.int (g i j)) := fun H v u Q d1 d2 q => by
  cases d1
  cases d2
  exact ⟨i, j, rfl, rfl, h, q _ H (Same.refl H) (.int _)⟩
theorem opd_rI0 {K : PySem.W.Frag} {g : Int → Int → Int} {i j : Int} : OpD K (rI0 fun i j => .int (g i j)) (.int i) (.int j) (.int (g i j)) := fun H v u Q d1 d2 q => by
  cases d1
  cases d2
  exact ⟨i, j, rfl, rfl, q _ H (Same.refl H) (.int _)⟩
theorem opd_rB0 {K : PySem.W.Frag} {g : Int → Int → Bool} {i j : Int} : OpD K (rI0 fun i j => .bl (g i j)) (.int i) (.int j) (.bool (g i j)) := fun H v u Q d1 d2 q => by
  cases d1
  cases d2
  exact ⟨i, j, rfl, rfl, q _ H (Same.refl H) (.bl _)⟩
theorem bin_addI {i j : Int} : Bin X .Add (.int i) (.int j) (.int (i + j)) := ⟨_, op_add, opd_rI0⟩
theorem bin_subI {i j : Int} : Bin X .Sub (.int i) (.int j) (.int (i - j)) := ⟨_, op_sub, opd_rI0⟩
theorem bin_mulI {i j : Int} (h : (-(2 ^ 64) < i ∧ i < 2 ^ 64) ∨ (-(2 ^ 64) < j ∧ j < 2 ^ 64)) : Bin X .Mult (.int i) (.int j) (.int (i * j)) := ⟨_, op_mul, opd_rI h⟩
theorem bin_modI {i j : Int} (h : 0 < j) : Bin X .Mod (.int i) (.int j) (.int (i % j)) := ⟨_, op_mod, opd_rI h⟩
theorem bin_fdivI {i j : Int} (h : 0 < j ∧ j < 1073741824) : Bin X .FloorDiv (.int i) (.int j) (.int (i / j)) := ⟨_, op_fdiv, opd_rI h⟩
theorem bin_powI {i j : Int} (h : 0 ≤ j ∧ j ≤ 1000000 ∧ i.natAbs < 2 ^ 64) : Bin X .Pow (.int i) (.int j) (.int (i ^ j.toNat)) := ⟨_, op_pow, opd_rI h⟩
theorem bin_addS {a b : List Nat} (h : a.length + b.length ≤ 1000000) : Bin X .Add (.str (SX.S a)) (.str (SX.S b)) (.str (SX.S (a ++ b))) := ⟨_, op_add_str, fun H v u Q d1 d2 q => by
  cases d1
  cases d2
  refine ⟨_, _, rfl, rfl, ?_, ?_⟩
  · rw [SX.S_len, SX.S_len]
    exact Nat.le_trans h (by decide)
  · rw [SX.S_cat]
    exact q _ H (Same.refl H) (.str _)⟩
theorem foldl_reps : ∀ (n : Nat) (l acc : List Nat), (List.replicate n l.toArray).foldl (· ++ ·) acc.toArray = (acc ++ (List.replicate n l).flatten).toArray
  | 0, l, acc => by simp
  | n + 1, l, acc => by
    rw [List.replicate_succ, List.foldl_cons, show acc.toArray ++ l.toArray = (acc ++ l).toArray by simp, foldl_reps n l (acc ++ l), List.replicate_succ, List.flatten_cons, List.append_assoc]
theorem mul_S (l : List Nat) (n : Int) : Txt.mul (SX.S l) n = SX.S (List.replicate n.toNat l).flatten := by
  unfold Txt.mul
  by_cases h1 : n < 1
  · rw [if_pos h1]
    have e : n.toNat = 0 := by omega
    rw [e]
    rfl
  · rw [if_neg h1]
    by_cases h2 : (n == 1 || (SX.S l).length == 0) = true
    · rw [if_pos h2]
      rw [Bool.or_eq_true] at h2
      rcases h2 with h | h
      · have e : n = 1 := by simpa using h
        subst e
        simp
      · have e : l = [] := by
          have : (SX.S l).length = 0 := by simpa using h
          rw [SX.S_len] at this
          exact List.eq_nil_of_length_eq_zero this
        subst e
        have : ∀ m : Nat, (List.replicate m ([] : List Nat)).flatten = [] := fun m => by induction m with
          | zero => rfl
          | succ m ih => rw [List.replicate_succ, List.flatten_cons, ih]; rfl
        rw [this]
    · rw [if_neg h2]
      have := foldl_reps n.toNat l []
      simp only [List.nil_append] at this
      show (⟨_⟩ : Str) = _
      rw [show (#[] : Array Nat) = ([] : List Nat).toArray from rfl, this]
theorem bin_mulS {l : List Nat} {n : Int} (hl : l.length ≤ 1000) (hn : n ≤ 10000) (hn0 : -10000 ≤ n) : Bin X .Mult (.str (SX.S l)) (.int n) (.str (SX.S (List.replicate n.toNat l).flatten)) := ⟨fun x y H Q => ∃ l n, x = .str (SX.S l) ∧ y = .int n ∧ l.length ≤ 1000 ∧ n ≤ 10000 ∧ -10000 ≤ n ∧ Q (.str (SX.S (List.replicate n.toNat l).flatten)) H, fun pins s σ H x y v u Q I rx ry h => by
  obtain ⟨l, n, rfl, rfl, h1, h2, h3, q⟩ := h
  obtain ⟨t, rfl⟩ := rx
  obtain ⟨t', rfl⟩ := ry
  refine SB.mul (mulOk_of 1000 10000 (by rw [SX.S_len]; exact h1) (by omega) (by omega) (by decide) (by decide)) fun t2 k => ?_
  rw [mul_S]
  exact ⟨.str _, H, I.tok _, ⟨_, rfl⟩, q⟩, fun H v u Q d1 d2 q => by
  cases d1
  cases d2
  exact ⟨l, n, rfl, rfl, hl, hn, hn0, q _ H (Same.refl H) (.str _)⟩⟩
theorem un_negI {i : Int} : Un1 X .USub (.int i) (.int (-i)) := ⟨_, un_neg, fun H v Q d q => by
  cases d
  exact ⟨i, rfl, q _ H (Same.refl H) (.int _)⟩⟩
/-! comparisons -/
theorem cmp_eqI {i j : Int} : Cmp X .Eq (.int i) (.int j) (decide (i = j)) := ⟨_, op_eq, fun H v u Q d1 d2 q => by
  cases d1
  cases d2
  refine ⟨rfl, ?_⟩
  have e : decide (V.int i = V.int j) = decide (i = j) := by simp
  rw [e]
  exact q _ H (Same.refl H) (.bl _)⟩
theorem cmp_neI {i j : Int} : Cmp X .NotEq (.int i) (.int j) (!decide (i = j)) := ⟨_, op_ne, fun H v u Q d1 d2 q => by
  cases d1
  cases d2
  refine ⟨rfl, ?_⟩
  have e : decide (V.int i = V.int j) = decide (i = j) := by simp
  rw [e]
  exact q _ H (Same.refl H) (.bl _)⟩
theorem cmp_ltI {i j : Int} : Cmp X .Lt (.int i) (.int j) (decide (i < j)) := ⟨_, op_lt, opd_rB0⟩
theorem cmp_leI {i j : Int} : Cmp X .LtE (.int i) (.int j) (decide (i ≤ j)) := ⟨_, op_le, opd_rB0⟩
theorem cmp_gtI {i j : Int} : Cmp X .Gt (.int i) (.int j) (decide (j < i)) := ⟨_, op_gt, opd_rB0⟩
theorem cmp_geI {i j : Int} : Cmp X .GtE (.int i) (.int j) (decide (j ≤ i)) := ⟨_, op_ge, opd_rB0⟩
theorem S_eq {a b : List Nat} : (SX.S a = SX.S b) ↔ a = b := ⟨fun h => SX.S_inj h, fun h => by rw [h]⟩
theorem cmp_eqS {a b : List Nat} : Cmp X .Eq (.str (SX.S a)) (.str (SX.S b)) (decide (a = b)) := ⟨_, op_eq, fun H v u Q d1 d2 q => by
  cases d1
  cases d2
  refine ⟨rfl, ?_⟩
  have e : decide (V.str (SX.S a) = V.str (SX.S b)) = decide (a = b) := by
    by_cases h : a = b
    · subst h; simp
    · rw [decide_eq_false h, decide_eq_false (fun z => h (SX.S_inj (V.str.inj z)))]
  rw [e]
  exact q _ H (Same.refl H) (.bl _)⟩
theorem cmp_neS {a b : List Nat} : Cmp X .NotEq (.str (SX.S a)) (.str (SX.S b)) (!decide (a = b)) := ⟨_, op_ne, fun H v u Q d1 d2 q => by
  cases d1
  cases d2
  refine ⟨rfl, ?_⟩
  have e : decide (V.str (SX.S a) = V.str (SX.S b)) = decide (a = b) := by
    by_cases h : a = b
    · subst h; simp
    · rw [decide_eq_false h, decide_eq_false (fun z => h (SX.S_inj (V.str.inj z)))]
  rw [e]
  exact q _ H (Same.refl H) (.bl _)⟩
/-! deep equality of data without truth values -/
mutual
/-- ints, texts of good signs, tuples and lists of such, at most n deep -/
def pl : Nat → PyData → Bool
  | _, .int _ => true
  | _, .str x => PyData.strOk x
  | n + 1, .list ds => pls n ds
  | n + 1, .tuple ds => pls n ds
  | _, _ => false
def pls : Nat → List PyData → Bool
  | _, [] => true
  | n, d :: ds => pl n d && pls n ds
end
mutual
theorem pl_shape : ∀ (d : PyData) (n : Nat), pl n d = true → d.canLay0 = true ∧ d.depth ≤ n
  | .none, n, h => by cases n <;> cases h
  | .bool _, n, h => by cases n <;> cases h
  | .int _, n, h => ⟨by simp [PyData.canLay0], by simp [PyData.depth]⟩
  | .str x, n, h => ⟨by cases n <;> (simp only [pl] at h; simpa [PyData.canLay0] using h), by simp [PyData.depth]⟩
  | .dict _, n, h => by cases n <;> cases h
  | .list ds, 0, h => by cases h
  | .tuple ds, 0, h => by cases h
  | .list ds, n + 1, h => by
    simp only [pl] at h
    have := pls_shape ds n h
    exact ⟨by simp only [PyData.canLay0]; exact this.1, by simp only [PyData.depth]; omega⟩
  | .tuple ds, n + 1, h => by
    simp only [pl] at h
    have := pls_shape ds n h
    exact ⟨by simp only [PyData.canLay0]; exact this.1, by simp only [PyData.depth]; omega⟩
theorem pls_shape : ∀ (ds : List PyData) (n : Nat), pls n ds = true → PyData.canLayAll0 ds = true ∧ PyData.depthAll ds ≤ n
  | [], n, h => ⟨by simp [PyData.canLayAll0], by simp [PyData.depthAll]⟩
  | d :: ds, n, h => by
    simp only [pls, Bool.and_eq_true] at h
    have h1 := pl_shape d n h.1
    have h2 := pls_shape ds n h.2
    refine ⟨by simp only [PyData.canLayAll0, Bool.and_eq_true]; exact ⟨h1.1, h2.1⟩, by simp only [PyData.depthAll]; omega⟩
end
mutual
theorem pl_eqv : ∀ (d e : PyData) (n m : Nat), pl n d = true → pl m e = true → (PyData.eqv d e = true ↔ d = e)
  | .none, _, n, _, h, _ => by cases n <;> cases h
  | .bool _, _, n, _, h, _ => by cases n <;> cases h
  | .dict _, _, n, _, h, _ => by cases n <;> cases h
  | .int i, e, n, m, h, g => by
    cases e with
    | int j => simp [PyData.eqv]
    | bool b => cases m <;> cases g
    | _ => simp [PyData.eqv]
  | .str x, e, n, m, h, g => by
    cases e with
    | str y => simp [PyData.eqv]
    | _ => simp [PyData.eqv]
  | .list ds, e, 0, m, h, g => by cases h
  | .tuple ds, e, 0, m, h, g => by cases h
  | .list ds, e, n + 1, m, h, g => by
    cases e with
    | list es =>
      cases m with
      | zero => cases g
      | succ m =>
        simp only [pl] at h g
        simp only [PyData.eqv, PyData.list.injEq]
        exact pls_eqv ds es n m h g
    | _ => simp [PyData.eqv]
  | .tuple ds, e, n + 1, m, h, g => by
    cases e with
    | tuple es =>
      cases m with
      | zero => cases g
      | succ m =>
        simp only [pl] at h g
        simp only [PyData.eqv, PyData.tuple.injEq]
        exact pls_eqv ds es n m h g
    | _ => simp [PyData.eqv]
theorem pls_eqv : ∀ (ds es : List PyData) (n m : Nat), pls n ds = true → pls m es = true → (PyData.eqvAll ds es = true ↔ ds = es)
  | [], [], _, _, _, _ => by simp [PyData.eqvAll]
  | [], _ :: _, _, _, _, _ => by simp [PyData.eqvAll]
  | _ :: _, [], _, _, _, _ => by simp [PyData.eqvAll]
  | d :: ds, e :: es, n, m, h, g => by
    simp only [pls, Bool.and_eq_true] at h g
    simp only [PyData.eqvAll, Bool.and_eq_true, List.cons.injEq]
    rw [pl_eqv d e n m h.1 g.1, pls_eqv ds es n m h.2 g.2]
end
theorem pl_shaped {d : PyData} {n : Nat} (h : pl n d = true) (hn : n ≤ 64) : SeqAt.shaped d = true := by
  have := pl_shape d n h
  show (d.canLay0 && decide (d.depth ≤ 64)) = true
  rw [Bool.and_eq_true]
  exact ⟨this.1, decide_eq_true (by omega)⟩
theorem cmp_eqD {d e : PyData} {b : Bool} {k : Nat} (hr : Room k X.A) (h : pl 9 d = true) (g : pl 9 e = true) (hb : b = true ↔ d = e) : Cmp X .Eq d e b := ⟨_, op_eqD hr.units, fun H v u Q d1 d2 q => by
  refine ⟨d, e, rp_dp _ _ d1, rp_dp _ _ d2, pl_shaped h (by decide), pl_shaped g (by decide), ?_⟩
  have := pl_eqv d e 9 9 h g
  have e1 : PyData.eqv d e = b := by
    rw [Bool.eq_iff_iff, this, hb]
  rw [e1]
  exact q _ H (Same.refl H) (.bl _)⟩
theorem cmp_neD {d e : PyData} {b : Bool} {k : Nat} (hr : Room k X.A) (h : pl 9 d = true) (g : pl 9 e = true) (hb : b = true ↔ d = e) : Cmp X .NotEq d e (!b) := ⟨_, op_neD hr.units, fun H v u Q d1 d2 q => by
  refine ⟨d, e, rp_dp _ _ d1, rp_dp _ _ d2, pl_shaped h (by decide), pl_shaped g (by decide), ?_⟩
  have := pl_eqv d e 9 9 h g
  have e1 : PyData.eqv d e = b := by
    rw [Bool.eq_iff_iff, this, hb]
  rw [e1]
  exact q _ H (Same.refl H) (.bl _)⟩
theorem pls_of {n : Nat} : ∀ {ds : List PyData}, (∀ d ∈ ds, pl n d = true) → pls n ds = true
  | [], _ => rfl
  | d :: ds, h => by
    simp only [pls, Bool.and_eq_true]
    exact ⟨h d (List.mem_cons_self ..), pls_of fun e m => h e (List.mem_cons_of_mem _ m)⟩
theorem pls_map {α : Type} {n : Nat} {f : α → PyData} {l : List α} (h : ∀ a, pl n (f a) = true) : pls n (l.map f) = true := pls_of fun d hd => by
  obtain ⟨a, _, rfl⟩ := List.mem_map.mp hd
  exact h a
/-- one sign in a text -/
theorem cmp_inS {c : Nat} {l : List Nat} : Cmp X .In (.str (SX.S [c])) (.str (SX.S l)) (decide (c ∈ l)) := ⟨_, op_in_sign, fun H v u Q d1 d2 q => by
  cases d1
  cases d2
  exact ⟨c, _, rfl, rfl, q _ H (Same.refl H) (.bl _)⟩⟩

/-! subscripts -/
theorem atI_rp {K : PySem.W.Frag} {H : Hp} {vs : List V} {ds : List PyData} {i : Int} {d : PyData} (h : RpAll K H vs ds) (e : atI ds i = some d) : ∃ v, atI vs i = some v ∧ Rp K H v d := by
  unfold atI at e ⊢
  rw [RpAll.len h]
  cases q : ixN ds.length i with
  | none => rw [q] at e; cases e
  | some j =>
    rw [q] at e
    exact RpAll.get h e
theorem ix_L {ds : List PyData} {i : Int} {d : PyData} (h : atI ds i = some d) : Ix X (.list ds) (.int i) d := ⟨_, ix_list, fun H v u Q d1 d2 q => by
  cases d2
  cases d1 with
  | lst hs ha =>
    obtain ⟨w, hw, r⟩ := atI_rp ha h
    exact ⟨_, _, i, w, rfl, rfl, hs, hw, q _ H (Same.refl H) r⟩⟩
theorem ix_T {ds : List PyData} {i : Int} {d : PyData} (h : atI ds i = some d) : Ix X (.tuple ds) (.int i) d := ⟨_, ix_tup, fun H v u Q d1 d2 q => by
  cases d2
  cases d1 with
  | tup hs ha =>
    obtain ⟨w, hw, r⟩ := atI_rp ha h
    exact ⟨_, _, i, w, rfl, rfl, .of hs, hw, q _ H (Same.refl H) r⟩⟩
theorem ix_S {l : List Nat} {i : Int} {c : Nat} (h : atI l i = some c) (hl : l.length ≤ 1000000) : Ix X (.str (SX.S l)) (.int i) (.str (SX.S [c])) := ⟨_, ix_str, fun H v u Q d1 d2 q => by
  cases d2
  cases d1
  exact ⟨_, i, c, rfl, rfl, by rw [SX.S_len]; exact Nat.le_trans hl (by decide), by simpa using h, q _ H (Same.refl H) (.str _)⟩⟩
end

/-! ### builtins -/
section
variable {X : Cx}
theorem call_lenL {ds : List PyData} : CallD X (.builtin "len") [.list ds] (.int (ds.length : Int)) := ⟨_, call_len_seq, fun H vs Q d q => by
  cases d with
  | cons a b =>
    cases b
    cases a with
    | lst hs ha =>
      refine ⟨_, _, rfl, .inl hs, ?_⟩
      rw [RpAll.len ha]
      exact q _ H (Same.refl H) (.int _)⟩
theorem call_lenS {l : List Nat} (h : l.length ≤ 1000000) : CallD X (.builtin "len") [.str (SX.S l)] (.int (l.length : Int)) := ⟨_, call_len_str, fun H vs Q d q => by
  cases d with
  | cons a b =>
    cases b
    cases a
    refine ⟨_, rfl, by rw [SX.S_len]; exact Nat.le_trans h (by decide), ?_⟩
    rw [SX.S_len]
    exact q _ H (Same.refl H) (.int _)⟩
theorem call_lenT {ds : List PyData} : CallD X (.builtin "len") [.tuple ds] (.int (ds.length : Int)) := ⟨_, call_len_seq, fun H vs Q d q => by
  cases d with
  | cons a b =>
    cases b
    cases a with
    | tup hs ha =>
      refine ⟨_, _, rfl, .inr (.of hs), ?_⟩
      rw [RpAll.len ha]
      exact q _ H (Same.refl H) (.int _)⟩
theorem call_absI {i : Int} : CallD X (.builtin "abs") [.int i] (.int (if i < 0 then -i else i)) := ⟨_, call_abs, fun H vs Q d q => by
  cases d with
  | cons a b =>
    cases b
    cases a
    exact ⟨_, rfl, q _ H (Same.refl H) (.int _)⟩⟩
theorem call_minI {i j : Int} (hc : X.calm = true) : CallD X (.builtin "min") [.int i, .int j] (.int (if j < i then j else i)) := ⟨_, call_min2 hc, fun H vs Q d q => by
  cases d with
  | cons a b =>
    cases b with
    | cons b c =>
      cases c
      cases a
      cases b
      exact ⟨_, _, rfl, q _ H (Same.refl H) (.int _)⟩⟩
theorem call_sumI {ns : List Int} (hc : X.calm = true) : CallD X (.builtin "sum") [.list (ns.map PyData.int)] (.int ns.sum) := ⟨_, cr_sum hc, fun H vs Q d q => by
  cases d with
  | cons a b =>
    cases b
    cases a with
    | lst hs ha =>
      rw [ints_of ha] at hs
      exact ⟨_, ns, rfl, hs, q _ H (Same.refl H) (.int _)⟩⟩
theorem call_anyB {bs : List Bool} (hc : X.calm = true) : CallD X (.builtin "any") [.list (bs.map PyData.bool)] (.bool (bs.any id)) := ⟨_, cr_any hc, fun H vs Q d q => by
  cases d with
  | cons a b =>
    cases b
    cases a with
    | lst hs ha =>
      rw [bls_of ha] at hs
      exact ⟨_, bs, rfl, hs, q _ H (Same.refl H) (.bl _)⟩⟩
theorem call_allB {bs : List Bool} (hc : X.calm = true) : CallD X (.builtin "all") [.list (bs.map PyData.bool)] (.bool (bs.all id)) := ⟨_, cr_all hc, fun H vs Q d q => by
  cases d with
  | cons a b =>
    cases b
    cases a with
    | lst hs ha =>
      rw [bls_of ha] at hs
      exact ⟨_, bs, rfl, hs, q _ H (Same.refl H) (.bl _)⟩⟩
/-! isinstance(x, T), T a builtin class -/
def tyD : PyData → String
  | .none => "NoneType"
  | .bool _ => "bool"
  | .int _ => "int"
  | .str _ => "str"
  | .list _ => "list"
  | .tuple _ => "tuple"
  | .dict _ => "dict"
theorem rp_ty {K : PySem.W.Frag} {H : Hp} {v : V} {d : PyData} (h : Rp K H v d) : TyX K H v (.type (tyD d)) := by
  cases h with
  | non => exact .base .non
  | bl b => exact .base (.bl b)
  | int i => exact .base (.int i)
  | str x => exact .base (.str x)
  | lst hs ha =>
    rcases hs with (h | ⟨o, h⟩) | ⟨o, its, n, h, hc, _⟩
    · exact .base (.lst h)
    · exact .base (.frz h)
    · exact .kList h hc
  | tup hs ha => exact .base (.tup hs)
theorem ev_isi {env : En} {e : Expr} {d : PyData} {T : Str} {t : String} {b : Bool} {p pT pos : Pos} (he : Ev X env e d) (hg : Gl X "isinstance") (hm : X.mg "isinstance" = none) (hgT : Gl X T) (hmT : X.mg T = none) (hv : bootBuiltins T = some (.type t)) {ty : String} (hty : tyD d = ty) (hk : kitB ty t = some b)
    (hn : T ≠ "__name__" := by decide) (hdb : (T == ("__debug__" : Str)) = false := by decide)
    (hs : starEach [e, .Name T pT] X.env = (false, eval e X.env) :: starEach [.Name T pT] X.env := by rfl) (hs2 : starEach [.Name T pT] X.env = (false, eval (.Name T pT) X.env) :: starEach [] X.env := by rfl) (hpl : (backTo pos (starEach [.Name T pT] X.env)).any (·.1) = false := by rfl) :
    Ev X env (.Call (.Name "isinstance" p) [e, .Name T pT] [] pos) (.bool b) :=
  wkE (pe_callB call_isi hg hm (by decide +kernel) (pa_cons he (pa_cons (pe_bltn (v := .ty t) hgT hmT hv rfl hn hdb) pa_nil hs2) hs) (by decide) (by decide) hs hpl) fun σ H Q ⟨hE, q⟩ => ⟨hE, fun v H1 s1 d1 =>
    ⟨v, .ty t, _, _, b, rfl, .ty t, rp_ty d1, kit_ty (hty ▸ hk), q _ H1 s1 (.bl b)⟩⟩
/-! methods of texts -/
def MtD (X : Cx) (id : String) (x : PyData) (ys : List PyData) (z : PyData) : Prop := ∃ r, MtR X id r ∧ ∀ (H : Hp) (v : V) (us : List V) (Q : VK), Rp X.K H v x → RpAll X.K H us ys → (∀ w H', Same H H' → Rp X.K H' w z → Q w H') → r v us H Q
theorem ev_m1 {env : En} {o e : Expr} {x y z : PyData} {id : String} {name : Str} {apos pos : Pos} (slot : Slot "str" name id) (ty : typeOf (.builtin id) = pure (.type "method_descriptor")) (hm : MtD X id x [y] z) (hx : tyD x = "str") (ho : Ev X env o x) (he : Ev X env e y)
    (hs : starEach [e] X.env = [(false, eval e X.env)] := by rfl) (hbase : attributeBase o name X.env (eval o X.env) = eval o X.env := by rfl) (hline : (apos.endLine == pos.line) = true := by rfl) :
    Ev X env (.Call (.Attribute o name apos) [e] [] pos) z := by
  obtain ⟨r, hr, hd⟩ := hm
  refine wkE (pe_m1 slot ty hr ho he hs hbase hline) fun σ H Q ⟨hE, q⟩ => ⟨hE, fun v H1 s1 d1 => ?_⟩
  have hv : ∃ t, v = .str t := by
    cases d1 with
    | str t => exact ⟨t, rfl⟩
    | _ => exact absurd hx (by simp [tyD])
  exact ⟨hv, hE.mono s1, fun u H2 s2 d2 => hd H2 _ [u] Q (d1.mono s2) (.cons d2 .nil) fun w H3 s3 d3 => q w H3 (s1.trans (s2.trans s3)) d3⟩
theorem joinL_nil (ls : List (List Nat)) : TL.joinL [] ls = ls.flatten := by
  induction ls with
  | nil => rfl
  | cons a r ih =>
    cases r with
    | nil => simp [TL.joinL]
    | cons b r =>
      show a ++ ([] ++ TL.joinL [] (b :: r)) = _
      rw [ih]
      simp
theorem sum_len (ls : List (List Nat)) : ((ls.map SX.S).map (·.length)).sum = ls.flatten.length := by
  induction ls with
  | nil => rfl
  | cons a r ih => simp only [List.map_cons, List.sum_cons, List.flatten_cons, List.length_append, ih, SX.S_len]
/-- ''.join(texts) -/
theorem mt_join0 {ls : List (List Nat)} (h : ls.flatten.length ≤ 1000000) : MtD X "str.join" (.str (SX.S [])) [.list (ls.map fun l => .str (SX.S l))] (.str (SX.S ls.flatten)) := ⟨_, mt_join, fun H v us Q d1 d2 q => by
  cases d1
  cases d2 with
  | cons a b =>
    cases b
    cases a with
    | lst hs ha =>
      have e : (ls.map fun l => PyData.str (SX.S l)) = (ls.map SX.S).map PyData.str := by rw [List.map_map]; rfl
      rw [e] at ha
      rw [strs_of ha] at hs
      refine ⟨_, _, ls.map SX.S, rfl, rfl, .inl hs, ?_, ?_⟩
      · rw [sum_len, SX.S_len]
        show ls.flatten.length + (ls.map SX.S).length * 0 ≤ _
        omega
      · rw [SX.join_S, joinL_nil]
        exact q _ H (Same.refl H) (.str _)⟩
theorem ev_join {env : En} {e : Expr} {j : Nat} {ls : List (List Nat)} {apos p pos : Pos} (he : Ev X env e (.list (ls.map fun l => .str (SX.S l)))) (h : ls.flatten.length ≤ 1000000)
    (hs : starEach [e] X.env = [(false, eval e X.env)] := by rfl) (hline : (apos.endLine == pos.line) = true := by rfl) : Ev X env (.Call (.Attribute (.Constant (.str "") j p) "join" apos) [e] [] pos) (.str (SX.S ls.flatten)) :=
  ev_m1 PySem.F.slot_str_join PySem.F.type_str_join (mt_join0 h) rfl ev_str he hs rfl hline
/-- count of one sign -/
theorem forIn_count (x : Str) (c : Nat) (hi : hi = x.length) : ∀ (n i : Nat) (st : Array Nat × Nat), i + n = x.length + 1 → st.fst.size ≤ i → st.snd ≤ i → (forIn (List.range' i n) st (StrLaws.occBody x ⟨#[c]⟩ x.length (x.length + 1))).run.fst.size = st.fst.size + ((x.cps.toList.drop i).filter (· == c)).length
  | 0, i, st, e, _, _ => by
    have hx : x.cps.toList.length = x.length := by simp [Str.length]
    have : x.cps.toList.drop i = [] := List.drop_eq_nil_of_le (by omega)
    rw [this]
    simp
  | n + 1, i, st, e, h1, h2 => by
    rw [List.range'_succ, List.forIn_cons]
    unfold StrLaws.occBody
    have key := StrLaws.subAt_one x c i
    by_cases hc : x.cps.toList[i]? = some c
    · have k := key.mpr hc
      have c1 : (st.fst.size < x.length + 1 ∧ st.snd ≤ i) ∧ i + (⟨#[c]⟩ : Str).length ≤ x.length := ⟨⟨by omega, h2⟩, k.1⟩
      rw [if_pos ⟨c1, k.2⟩]
      have ih := forIn_count x c hi n (i + 1) (st.fst.push i, i + (⟨#[c]⟩ : Str).length) (by omega) (by simp; omega) (by show i + 1 ≤ i + 1; exact Nat.le_refl _)
      refine Eq.trans ih ?_
      obtain ⟨hlt, hg⟩ := List.getElem?_eq_some_iff.mp hc
      rw [List.drop_eq_getElem_cons hlt, hg, List.filter_cons]
      simp
      omega
    · have k : ¬ (((st.fst.size < x.length + 1 ∧ st.snd ≤ i) ∧ i + (⟨#[c]⟩ : Str).length ≤ x.length) ∧ Builtin.Str.subAt x ⟨#[c]⟩ i = true) := fun z => hc (key.mp ⟨z.1.2, z.2⟩)
      rw [if_neg k]
      have ih := forIn_count x c hi n (i + 1) (st.fst, st.snd) (by omega) (show st.fst.size ≤ i + 1 by omega) (show st.snd ≤ i + 1 by omega)
      refine Eq.trans ih ?_
      by_cases hlt : i < x.cps.toList.length
      · rw [List.drop_eq_getElem_cons hlt, List.filter_cons]
        have : ¬ (x.cps.toList[i] == c) = true := fun z => hc (by rw [List.getElem?_eq_getElem hlt]; simpa using z)
        rw [if_neg this]
      · rw [List.drop_eq_nil_of_le (by omega), List.drop_eq_nil_of_le (by omega)]
theorem count_S (l : List Nat) (c : Nat) : Txt.count (SX.S l) (SX.S [c]) = ((l.filter (· == c)).length : Nat) := by
  unfold Txt.count
  have h := forIn_count (SX.S l) c rfl ((SX.S l).length + 1 - 0) 0 (#[], 0) (by omega) (by simp) (by simp)
  show (((Builtin.Str.occurrences (SX.S l) ⟨#[c]⟩ 0 (SX.S l).length ((SX.S l).length + 1)).length : Nat) : Int) = _
  rw [StrLaws.occ_eq, Array.length_toList, h]
  simp
theorem mt_count1 {l : List Nat} {c : Nat} : MtD X "str.count" (.str (SX.S l)) [.str (SX.S [c])] (.int ((l.filter (· == c)).length : Nat)) := ⟨_, mt_count, fun H v us Q d1 d2 q => by
  cases d1
  cases d2 with
  | cons a b =>
    cases b
    cases a
    refine ⟨_, _, rfl, rfl, ?_⟩
    rw [count_S]
    exact q _ H (Same.refl H) (.int _)⟩
/-- index of a sign that is there -/
theorem mt_index1 {l : List Nat} {c i : Nat} (h : l[i]? = some c) (hb : ∀ j, j < i → l[j]? ≠ some c) : MtD X "str.index" (.str (SX.S l)) [.str (SX.S [c])] (.int (i : Nat)) := by
  have occ : ∃ rest, Builtin.Str.occurrences (SX.S l) (SX.S [c]) 0 (SX.S l).length 1 = i :: rest := by
    have tl : (SX.S l).cps.toList = l := by simp
    rcases PySem.StrLaws.occ_head (SX.S l) (SX.S [c]) 1 (Nat.le_refl 1) with ⟨_, hn⟩ | ⟨k, r, e, ha, hn⟩
    · exact absurd ((PySem.StrLaws.subAt_one (SX.S l) c i).mpr (by rw [tl]; exact h)) (hn i)
    · have hk := (PySem.StrLaws.subAt_one (SX.S l) c k).mp ha
      rw [tl] at hk
      have e1 : ¬ i < k := fun z => hn i z ((PySem.StrLaws.subAt_one (SX.S l) c i).mpr (by rw [tl]; exact h))
      have e2 : ¬ k < i := fun z => hb k z hk
      have e3 : k = i := by omega
      subst e3
      exact ⟨r, e⟩
  obtain ⟨rest, e⟩ := occ
  exact ⟨_, mt_sindex, fun H v us Q d1 d2 q => by
    cases d1
    cases d2 with
    | cons a b =>
      cases b
      cases a
      exact ⟨_, _, i, rest, rfl, rfl, e, q _ H (Same.refl H) (.int _)⟩⟩
end
end Sw

namespace Sw
open PySem PySem.Spec PyProof.Rows L2

/-! ### slices -/
def cut {α : Type} (xs : List α) (lo hi : Option Int) : List α := (xs.drop (HT.sIx xs.length 0 lo)).take (HT.sIx xs.length xs.length hi - HT.sIx xs.length 0 lo)
theorem cut_to {α : Type} (xs : List α) (k : Nat) : cut xs none (some (k : Int)) = xs.take k := by
  unfold cut
  rw [HT.sIx_nat, HT.sIx_none, List.drop_zero, Nat.sub_zero]
  by_cases h : k ≤ xs.length
  · rw [Nat.min_eq_left h]
  · rw [Nat.min_eq_right (by omega), List.take_length, List.take_of_length_le (by omega)]
theorem cut_from {α : Type} (xs : List α) (k : Nat) : cut xs (some (k : Int)) none = xs.drop k := by
  unfold cut
  rw [HT.sIx_nat, HT.sIx_none]
  by_cases h : k ≤ xs.length
  · rw [Nat.min_eq_left h, List.take_of_length_le (by rw [List.length_drop]; exact Nat.le_refl _)]
  · rw [Nat.min_eq_right (by omega), List.drop_eq_nil_of_le (Nat.le_refl _), List.drop_eq_nil_of_le (by omega)]
    exact List.take_nil
theorem cut_mid {α : Type} (xs : List α) (k m : Nat) (h : k ≤ m) : cut xs (some (k : Int)) (some (m : Int)) = (xs.drop k).take (m - k) := by
  unfold cut
  rw [HT.sIx_nat, HT.sIx_nat]
  by_cases h1 : k ≤ xs.length
  · rw [Nat.min_eq_left h1]
    by_cases h2 : m ≤ xs.length
    · rw [Nat.min_eq_left h2]
    · rw [Nat.min_eq_right (by omega), List.take_of_length_le (by rw [List.length_drop]; exact Nat.le_refl _), List.take_of_length_le (by rw [List.length_drop]; omega)]
  · rw [Nat.min_eq_right (show xs.length ≤ k by omega), List.drop_eq_nil_of_le (Nat.le_refl _), List.drop_eq_nil_of_le (show xs.length ≤ k by omega), List.take_nil, List.take_nil]
theorem cut_len {α : Type} (xs : List α) (lo hi : Option Int) : (cut xs lo hi).length ≤ xs.length := by
  unfold cut
  rw [List.length_take, List.length_drop]
  omega
theorem rp_cut {K : PySem.W.Frag} {H : Hp} {vs : List V} {ds : List PyData} (h : RpAll K H vs ds) (lo hi : Option Int) : RpAll K H (cutV vs lo hi) (cut ds lo hi) := by
  unfold cutV cut
  rw [RpAll.len h]
  exact RpAll.take _ (RpAll.drop _ h)
def tPo (K : PySem.W.Frag) (env : En) (o : Option Int) : TO := fun σ H Q => EnvE K H σ env ∧ ∀ H', Same H H' → Q o H'
section
variable {X : Cx} {env : En} {e : Expr} {lo hi : Option Expr} {i j : Option Int} {pos p2 : Pos}
abbrev EvP (X : Cx) (env : En) (e : Option Expr) (o : Option Int) : Prop := PO X e (tPo X.K env o)
theorem evp_none : EvP X env none none := ⟨fun pins s σ H Q I q => po_none.run pins s σ H Q I (q.2 H (Same.refl H))⟩
theorem evp_some {i : Int} (he : Ev X env e (.int i)) : EvP X env (some e) (some i) := ⟨fun pins s σ H Q I q => (po_some he).run pins s σ H Q I ⟨q.1, fun v H' s' d => by
  cases d
  exact ⟨i, rfl, q.2 H' s'⟩⟩⟩
theorem ev_slS {l : List Nat} (he : Ev X env e (.str (SX.S l))) (hl : EvP X env lo i) (hh : EvP X env hi j) (hz : l.length ≤ 1000000) : Ev X env (.Subscript e (.Slice lo hi none p2) pos) (.str (SX.S (cut l i j))) :=
  wkE (pe_slice sl_str he hl hh) fun σ H Q ⟨hE, q⟩ => ⟨hE, fun v H1 s1 d1 => by
    cases d1
    refine ⟨hE.mono s1, fun H2 s2 => ⟨hE.mono (s1.trans s2), fun H3 s3 => ⟨_, rfl, by rw [SX.S_len]; exact Nat.le_trans hz (by decide), ?_⟩⟩⟩
    have e1 : cutS (SX.S l) i j = SX.S (cut l i j) := by
      unfold cutS cut
      rw [SX.S_len]
    rw [e1]
    exact q _ H3 (s1.trans (s2.trans s3)) (.str _)⟩
theorem evl_slL {ds : List PyData} (he : Ev X env e (.list ds)) (hl : EvP X env lo i) (hh : EvP X env hi j) : EvL X env (.Subscript e (.Slice lo hi none p2) pos) (cut ds i j) :=
  wkE (pe_slice sl_list he hl hh) fun σ H Q ⟨hE, q⟩ => ⟨hE, fun v H1 s1 d1 => by
    cases d1 with
    | lst hs ha =>
      refine ⟨hE.mono s1, fun H2 s2 => ⟨hE.mono (s1.trans s2), fun H3 s3 => ⟨_, _, rfl, (s2.trans s3).seq hs, fun p hp => ?_⟩⟩⟩
      exact q p _ _ (s1.trans (s2.trans (s3.trans (same_new hp)))) ((s1.trans (s2.trans s3)).free hp) upd_same (rp_cut (ha.mono (s2.trans (s3.trans (same_new hp)))) i j)⟩

/-! a text backwards -/
theorem rev_S (l : List Nat) (u : Tok) : Txt.sliceBy (SX.S l) none none (-1, u) = SX.S l.reverse := by
  refine TL.ext_tl ?_
  show (Txt.sliceBy (SX.S l) none none (-1, u)).cps.toList = (SX.S l.reverse).cps.toList
  rw [step_rev_list]
  apply List.ext_getElem
  · simp [Str.length]
  · intro i h1 h2
    have hi : i < l.length := by simpa [Str.length] using h1
    have hi2 : l.length - 1 - i < l.length := by omega
    simp [Str.length, Array.getD, List.getElem_reverse, hi2]
theorem pe_revS {te : TE} {k : Nat} {p1 p2 p3 : Pos} (he : PE X e te) : PE X (.Subscript e (.Slice none none (some (.UnaryOp .USub (.Constant (.int 1) k p1) p2)) p3) pos) (fun σ H Q => te σ H fun x H1 => ∃ l : List Nat, x = .str (SX.S l) ∧ l.length ≤ 1000000 ∧ Q (.str (SX.S l.reverse)) H1) := by
  refine ⟨fun pins s σ H Q I h => ?_⟩
  refine Subscript_ (thn (he.run pins s σ H _ I h) fun v s1 ⟨x, H1, I1, r1, q1⟩ => ?_)
  obtain ⟨l, ex, hz, q⟩ := q1
  subst ex
  obtain ⟨t, rfl⟩ := r1
  have hst : PO X (some (.UnaryOp .USub (.Constant (.int 1) k p1) p2)) (tPart (tUn (rU fun i => .int (-i)) (tC (.int 1)))) := po_some (pe_un un_neg pe_int)
  refine wpAny_Slice (thn (po_none.run pins s1 σ H1 (fun o H2 => o = none ∧ H2 = H1) I1 ⟨rfl, rfl⟩) fun vl s2 ⟨lo, H2, I2, pl, el, e2⟩ => ?_)
  subst el e2
  refine thn (po_none.run pins s2 σ H2 (fun o H3 => o = none ∧ H3 = H2) I2 ⟨rfl, rfl⟩) fun vu s3 ⟨u, H3, I3, pu, eu, e3⟩ => ?_
  subst eu e3
  refine thn (hst.run pins s3 σ H3 (fun o H4 => o = some (-1) ∧ H4 = H3) I3 ⟨1, rfl, -1, rfl, rfl, rfl⟩) fun vs s4 ⟨o, H4, I4, ps, eo, e4⟩ => ?_
  subst eo e4
  cases pl
  cases pu
  cases ps with
  | int i tk =>
    have I5 : Inv X pins σ H4 { s4 with heap := s4.heap.push { cls := .type "slice", data := .fields #[.none, .none, .int (-1) tk] } } := I4.kept (t' := s4.toks) fun b ob q => Heap.get?_push_of_some _ q
    show wpAny (model X.prog X.w) X.A (subscriptTail e (.Slice none none (some (.UnaryOp .USub (.Constant (.int 1) k p1) p2)) p3) (.str (SX.S l) t) (.ref s4.heap.objs.size)) (EP X pins σ Q) X.xe { s4 with heap := s4.heap.push { cls := .type "slice", data := .fields #[.none, .none, .int (-1) tk] } }
    refine tail_any (ops := [.ref s4.heap.objs.size, .str (SX.S l) t]) (typeIs_str _ _ _) PySem.F.slot_str_getitem.lookup ?_ (by with_unfolding_all rfl)
    refine wpAny_getItem_str_slice (l := none) (u := none) (st := some (-1, tk)) ⟨_, Heap.get?_push_size _ rfl, rfl, rfl⟩ rfl (post_val_or_str ⟨Nat.le_trans (Txt.sliceBy_le (SX.S l) none none (-1, tk) (show (-1 : Int) ≠ 0 by decide)) (by rw [SX.S_len]; exact Nat.le_trans hz (by decide)), fun t' c => ?_⟩)
    have e1 := rev_S l tk
    unfold Txt.sliceBy at e1
    rw [e1]
    exact ⟨.str _, H4, I5.tok _, ⟨_, rfl⟩, q⟩
theorem ev_revS {l : List Nat} {k : Nat} {p1 p2 p3 : Pos} (he : Ev X env e (.str (SX.S l))) (hz : l.length ≤ 1000000) : Ev X env (.Subscript e (.Slice none none (some (.UnaryOp .USub (.Constant (.int 1) k p1) p2)) p3) pos) (.str (SX.S l.reverse)) :=
  wkE (pe_revS he) fun σ H Q ⟨hE, q⟩ => ⟨hE, fun v H1 s1 d1 => by
    cases d1
    exact ⟨l, rfl, hz, q _ H1 s1 (.str _)⟩⟩
theorem evl_revL {ds : List PyData} {k : Nat} {p1 p2 p3 : Pos} (he : Ev X env e (.list ds)) : EvL X env (.Subscript e (.Slice none none (some (.UnaryOp .USub (.Constant (.int 1) k p1) p2)) p3) pos) ds.reverse :=
  wkE (pe_revL he) fun σ H Q ⟨hE, q⟩ => ⟨hE, fun v H1 s1 d1 => by
    cases d1 with
    | lst hs ha => exact ⟨_, _, rfl, hs, fun p hp => q p _ _ (s1.trans (same_new hp)) (s1.free hp) upd_same (RpAll.reverse (ha.mono (same_new hp)))⟩⟩

/-! ### strip of signs -/
theorem takeWhile_all {p : Nat → Bool} : ∀ {l : List Nat}, (∀ c ∈ l, p c = true) → l.takeWhile p = l
  | [], _ => rfl
  | c :: l, h => by rw [List.takeWhile_cons, if_pos (h c (List.mem_cons_self ..)), takeWhile_all fun d m => h d (List.mem_cons_of_mem _ m)]
theorem strip_all {l y : List Nat} (h : ∀ c ∈ l, c ∈ y) : Txt.stripChars (SX.S l) (SX.S y) = SX.S [] := by
  have hp : ∀ c ∈ l, (SX.S y).cps.contains c = true := fun c hc => by
    have := h c hc
    simpa using this
  have h1 : stripLo (SX.S y).cps.contains true (SX.S l) = l.length := by
    unfold stripLo
    rw [if_pos rfl]
    show (l.toArray.toList.takeWhile _).length = _
    rw [List.toList_toArray, takeWhile_all hp]
  have h2 : stripHi (SX.S y).cps.contains true (SX.S l) l.length = l.length := by
    unfold stripHi
    rw [if_pos rfl, SX.S_len]
    show l.length - ((l.toArray.toList.drop l.length).reverse.takeWhile _).length = _
    rw [List.toList_toArray, List.drop_length]
    rfl
  unfold Txt.stripChars Txt.stripBy
  by_cases hs : stripSame (SX.S y).cps.contains true true (SX.S l) = true
  · rw [if_pos hs]
    unfold stripSame at hs
    rw [h1] at hs
    rw [Bool.and_eq_true] at hs
    have : l.length = 0 := by simpa using hs.1
    rw [List.eq_nil_of_length_eq_zero this]
  · rw [if_neg hs]
    unfold stripped
    rw [h1, h2]
    refine TL.ext_tl ?_
    show (l.toArray.extract l.length l.length).toList = []
    simp
theorem mt_strip1 {l y : List Nat} (h : ∀ c ∈ l, c ∈ y) (hz : l.length ≤ 1000000) : MtD X "str.strip" (.str (SX.S l)) [.str (SX.S y)] (.str (SX.S [])) := ⟨_, mt_stripChars, fun H v us Q d1 d2 q => by
  cases d1
  cases d2 with
  | cons a b =>
    cases b
    cases a
    refine ⟨_, _, rfl, rfl, by rw [SX.S_len]; exact Nat.le_trans hz (by decide), ?_⟩
    rw [strip_all h]
    exact q _ H (Same.refl H) (.str _)⟩

/-! ### {..}[k], the dict made for the look -/
theorem merge_new : ∀ (more acc : List (Key × V)), ((acc ++ more).map (·.1)).Nodup → mergeK acc more = acc ++ more
  | [], acc, _ => (List.append_nil acc).symm
  | p :: more, acc, h => by
    show mergeK (putK acc p.1 p.2) more = acc ++ p :: more
    have hn : valV acc p.1 = none := by
      cases q : valV acc p.1 with
      | none => rfl
      | some v =>
        rw [List.map_append, List.nodup_append] at h
        exact absurd rfl (h.2.2 p.1 (valV_in q) p.1 (by simp))
    rw [putK_new _ hn, merge_new more _ (by simpa using h)]
    simp
def PPd (X : Cx) (env : En) (pos : Pos) (keys : List (Option Expr)) (values : List Expr) (kd : List (Str × PyData)) : Prop := ∃ trs, PPs X pos keys values trs ∧ ∀ σ H Q, EnvE X.K H σ env → (∀ ps H', Same H H' → Paired (fun p q => p.1 = V.str q.1 ∧ Rp X.K H' p.2 q.2) ps kd → Q ps H') → tPairs trs σ H Q
theorem paired_mono {K : PySem.W.Frag} {H H' : Hp} (e : Same H H') : ∀ {ps : List (V × V)} {kd : List (Str × PyData)}, Paired (fun p q => p.1 = V.str q.1 ∧ Rp K H p.2 q.2) ps kd → Paired (fun p q => p.1 = V.str q.1 ∧ Rp K H' p.2 q.2) ps kd
  | _, _, .nil => .nil
  | _, _, .cons h t => .cons ⟨h.1, h.2.mono e⟩ (paired_mono e t)
theorem ppd_nil : PPd X env pos [] [] [] := ⟨[], pps_nil, fun σ H Q _ q => q [] H (Same.refl H) .nil⟩
theorem ppd_cons {k : Str} {j : Nat} {pk : Pos} {v : Expr} {ks : List (Option Expr)} {vs : List Expr} {d : PyData} {kd : List (Str × PyData)} (hv : Ev X env v d) (hr : PPd X env pos ks vs kd) : PPd X env pos (some (.Constant (.str k) j pk) :: ks) (v :: vs) ((k, d) :: kd) := by
  obtain ⟨trs, h, ht⟩ := hr
  refine ⟨_, pps_cons (ev_str (env := env)) hv h, fun σ H Q hE q => ⟨hE, fun u H1 s1 d1 => ⟨hE.mono s1, fun w H2 s2 d2 => ht σ H2 _ (hE.mono (s1.trans s2)) fun ps H3 s3 d3 => q _ H3 (s1.trans (s2.trans s3)) (.cons ⟨?_, d2.mono s3⟩ d3)⟩⟩⟩
  cases d1
  rfl
theorem disp_key {K : PySem.W.Frag} {H2 : Hp} {ps : List (V × V)} {kd : List (Str × PyData)} (h : Paired (fun p q => p.1 = V.str q.1 ∧ Rp K H2 p.2 q.2) ps kd) : ∃ kvs : List (Key × V), ps = kvs.map (fun kv => (kV kv.1, kv.2)) ∧ kvs.map (·.1) = kd.map (fun p => Sum.inr p.1) ∧ kvs.length = kd.length ∧ (∀ k d, kd.lookup k = some d → ∃ v, valV kvs (Sum.inr k) = some v ∧ Rp K H2 v d ∧ d ∈ kd.map (·.2)) := by
  induction h with
  | nil => exact ⟨[], rfl, rfl, rfl, fun k d z => by cases z⟩
  | @cons a b as bs h t ih =>
    obtain ⟨kvs, e1, e2, e3, e4⟩ := ih
    obtain ⟨a1, a2⟩ := a
    obtain ⟨b1, b2⟩ := b
    obtain ⟨h1, h2⟩ := h
    simp only at h1 h2
    refine ⟨(Sum.inr b1, a2) :: kvs, by rw [List.map_cons, ← e1, h1]; rfl, by rw [List.map_cons, e2]; rfl, by simp [e3], fun k d hk => ?_⟩
    rw [List.lookup_cons] at hk
    by_cases e : k = b1
    · subst e
      rw [beq_self_eq_true] at hk
      cases hk
      exact ⟨a2, valV_pos rfl, h2, by simp⟩
    · have : (k == b1) = false := by simpa using e
      rw [this] at hk
      obtain ⟨v, h5, h6, h7⟩ := e4 k d hk
      exact ⟨v, by rw [valV_neg (fun z => e (Sum.inr.inj z).symm)]; exact h5, h6, by rw [List.map_cons]; exact List.mem_cons_of_mem _ h7⟩

theorem ev_disp {keys : List (Option Expr)} {values : List Expr} {idx : Expr} {kd : List (Str × PyData)} {k : Str} {d : PyData} {pd : Pos} {j : Nat} (hr : Room j X.A) (h : PPd X env pd keys values kd) (hi : Ev X env idx (.str k)) (hd : kd.lookup k = some d) (hf : fzs (kd.map (·.2)) = true) (hn : (kd.map (·.1)).Nodup)
    (hall : keys.all (·.isSome) = true := by rfl) (hl : keys.length = values.length := by rfl) (h0 : keys ≠ [] := by exact fun z => by cases z) (h15 : keys.length ≤ 15 := by decide) (hkl : kd.length = keys.length := by rfl) (hs : NoSl idx := by exact fun _ _ => rfl) :
    Ev X env (.Subscript (.Dict keys values pd) idx pos) d := by
  obtain ⟨trs, hp, ht⟩ := h
  refine wkE (pe_dget (hu_of hr) (pe_disp hp hall hl h0 h15) hi hs) fun σ H Q ⟨hE, q⟩ p hpn => ?_
  refine ht σ _ _ (hE.mono (same_new hpn)) fun ps H2 s2 d2 => ⟨s2 _ _ upd_same, ?_⟩
  obtain ⟨kvs, e1, e2, e3, e4⟩ := disp_key d2
  refine ⟨kvs, e1, by rw [e3, hkl]; exact h15, ?_⟩
  have nd : (kvs.map (·.1)).Nodup := by
    rw [e2]
    have : (kd.map fun p => (Sum.inr p.1 : Key)) = (kd.map (·.1)).map Sum.inr := by rw [List.map_map]; rfl
    rw [this]
    exact List.Pairwise.map _ (fun a b hab => fun z => hab (Sum.inr.inj z)) hn
  have em : mergeK [] kvs = kvs := by
    have := merge_new kvs [] (by simpa using nd)
    simpa using this
  rw [em]
  have S3 : Same H (upd H2 p (.dK kvs)) := fun b o e => by
    rw [upd_ne (ne_of_none e hpn)]
    exact s2 _ _ (same_new hpn _ _ e)
  refine ⟨hE.mono S3, fun y H4 s4 d4 => ?_⟩
  cases d4
  obtain ⟨v, h5, h6, h7⟩ := e4 k d hd
  refine ⟨p, v, rfl, ?_, q v H4 (S3.trans s4) ?_⟩
  · have := DGet.k (H := H4) (a := p) (kvs := kvs) (k := Sum.inr k) (s4 _ _ upd_same)
    rw [h5] at this
    exact this
  · exact (dkeep (keep_upd (s2 _ _ upd_same) (fun xs z => by cases z)) _ _ (fzs_mem hf h7) h6).mono s4
end
/-! a display of texts' keys in a slot -/
def qFix (kd : List (Str × PyData)) : Fix := ⟨fun K H v => ∃ l kvs, v = .ref l ∧ H l = some (.dK kvs) ∧ ∀ k d, kd.lookup k = some d → ∃ u, valV kvs (Sum.inr k) = some u ∧ Rp K H u d, fun ⟨l, kvs, e, h, g⟩ s => ⟨l, kvs, e, s _ _ h, fun k d z => let ⟨u, a, b⟩ := g k d z; ⟨u, a, b.mono s⟩⟩⟩
section
variable {X : Cx} {H0 : Hp} {env : En} {D : Ends} {rest body : List Stmt} {pos : Pos}
theorem run_setQ (i : Nat) {x : Str} {keys : List (Option Expr)} {values : List Expr} {kd : List (Str × PyData)} {pd pos' : Pos} (hN : X.N.Nodup) (hi : X.N[i]? = some x) (hx : Loc X.env.scope x) (h : PPd X env pd keys values kd) (hf : noOwn env = true) (hfz : fzs (kd.map (·.2)) = true) (hn : (kd.map (·.1)).Nodup)
    (k : Run X H0 (env.set i (some (.g (qFix kd)))) rest D)
    (hall : keys.all (·.isSome) = true := by rfl) (hl : keys.length = values.length := by rfl) (h0 : keys ≠ [] := by exact fun z => by cases z) (h15 : keys.length ≤ 15 := by decide) (hkl : kd.length = keys.length := by rfl)
    (hs : swapsWith (.Dict keys values pd) (some (.Name x pos')) pos.line X.env = pure false := by rfl) (hf' : X.fn x = true ∨ X.env.scope.names.lookup x = some .local := by first | exact .inl rfl | exact .inr rfl) :
    Run X H0 env (.Assign [.Name x pos'] (.Dict keys values pd) pos :: rest) D := by
  obtain ⟨trs, hp, ht⟩ := h
  refine run_cons (ps_set hN hi hx (pe_disp hp hall hl h0 h15) hs hf') fun B σ H S p hpn => ?_
  refine ht σ _ _ (S.e.mono (same_new hpn)) fun ps H2 s2 d2 => ⟨s2 _ _ upd_same, ?_⟩
  obtain ⟨kvs, e1, e2, e3, e4⟩ := disp_key d2
  refine ⟨kvs, e1, by rw [e3, hkl]; exact h15, ?_⟩
  have nd : (kvs.map (·.1)).Nodup := by
    rw [e2]
    have : (kd.map fun p => (Sum.inr p.1 : Key)) = (kd.map (·.1)).map Sum.inr := by rw [List.map_map]; rfl
    rw [this]
    exact List.Pairwise.map _ (fun a b hab => fun z => hab (Sum.inr.inj z)) hn
  have em : mergeK [] kvs = kvs := by
    have := merge_new kvs [] (by simpa using nd)
    simpa using this
  rw [em]
  have S3 : Same H (upd H2 p (.dK kvs)) := fun b o e => by
    rw [upd_ne (ne_of_none e hpn)]
    exact s2 _ _ (same_new hpn _ _ e)
  refine k _ _ _ ((S.all hf S3).put (s := .g (qFix kd)) ⟨p, kvs, rfl, upd_same, fun k d z => ?_⟩ fun z => by cases z)
  obtain ⟨v, h5, h6, h7⟩ := e4 k d z
  exact ⟨v, h5, dkeep (keep_upd (s2 _ _ upd_same) (fun xs z => by cases z)) _ _ (fzs_mem hfz h7) h6⟩
theorem ev_qget {x : Str} {i j : Nat} {kd : List (Str × PyData)} {idx : Expr} {k : Str} {d : PyData} {px : Pos} (hr : Room j X.A) (hN : X.N[i]? = some x) (hv : Vis X.env.scope x) (he : env[i]? = some (some (.g (qFix kd)))) (hi : Ev X env idx (.str k)) (hd : kd.lookup k = some d)
    (hs : NoSl idx := by exact fun _ _ => rfl) (hb : (x == ("__debug__" : Str)) = false := by decide) (hcd : (x == ("__classdict__" : Str)) = false := by decide) : Ev X env (.Subscript (.Name x px) idx pos) d :=
  wkE (pe_dget (hu_of hr) (pe_var hN hv hb hcd) hi hs) fun σ H Q ⟨hE, q⟩ => by
    obtain ⟨v, h1, l, kvs, rfl, h3, h4⟩ := hE i _ he
    refine ⟨_, h1, hE, fun y H4 s4 d4 => ?_⟩
    cases d4
    obtain ⟨u, h5, h6⟩ := h4 k d hd
    refine ⟨l, u, rfl, ?_, q u H4 s4 (h6.mono s4)⟩
    have := DGet.k (H := H4) (a := l) (kvs := kvs) (k := Sum.inr k) (s4 _ _ h3)
    rw [h5] at this
    exact this
end
end Sw

/-! the plain mathematics: steps, places -/
namespace Sw
open PySem
inductive Dr where
  | n | w | s | e
  deriving DecidableEq
def Dr.code : Dr → Nat
  | .n => 110
  | .w => 119
  | .s => 115
  | .e => 101
def Dr.ix : Dr → Nat
  | .n => 0
  | .w => 1
  | .s => 2
  | .e => 3
def Dr.of : Nat → Dr
  | 0 => .n
  | 1 => .w
  | 2 => .s
  | _ => .e
def Dr.dx : Dr → Int
  | .e => 1
  | .w => -1
  | _ => 0
def Dr.dy : Dr → Int
  | .n => 1
  | .s => -1
  | _ => 0
abbrev Wk := List Dr
abbrev Pt := Int × Int
def cps (w : Wk) : List Nat := w.map Dr.code
/-- a walk as a text -/
def W (w : Wk) : PyData := .str (SX.S (cps w))
/-- one step's text -/
def L1 (d : Dr) : PyData := .str (SX.S [d.code])
def ptD (p : Pt) : PyData := .tuple [.int p.1, .int p.2]
def go (p : Pt) (d : Dr) : Pt := (p.1 + d.dx, p.2 + d.dy)
def walkFrom (p : Pt) : Wk → List Pt
  | [] => [p]
  | d :: r => p :: walkFrom (go p d) r
def pls0 (w : Wk) : List Pt := walkFrom (0, 0) w
def turnD (k : Int) (d : Dr) : Dr := Dr.of (((d.ix : Int) + k) % 4).toNat
theorem cps_len (w : Wk) : (cps w).length = w.length := by simp [cps]
theorem code_inj {a b : Dr} (h : a.code = b.code) : a = b := by cases a <;> cases b <;> first | rfl | cases h
theorem cps_inj {a b : Wk} (h : cps a = cps b) : a = b := by
  unfold cps at h
  exact List.map_inj_right (fun x y e => code_inj e) |>.mp h
def goAll (p : Pt) (w : Wk) : Pt := w.foldl go p
theorem walkFrom_len : ∀ (w : Wk) (p : Pt), (walkFrom p w).length = w.length + 1
  | [], _ => rfl
  | d :: r, p => by simp [walkFrom, walkFrom_len r]
theorem walkFrom_get : ∀ (w : Wk) (p : Pt) (i : Nat), i ≤ w.length → (walkFrom p w)[i]? = some (goAll p (w.take i))
  | [], p, i, h => by
    have : i = 0 := by simpa using h
    subst this
    rfl
  | d :: r, p, 0, h => rfl
  | d :: r, p, i + 1, h => by
    show (walkFrom (go p d) r)[i]? = _
    rw [walkFrom_get r (go p d) i (by simpa using h)]
    rfl
end Sw

/-! names by search, written texts -/
namespace Sw
open PySem PySem.Spec PyProof.Rows L2
def nmIx (x : Str) : List Str → Nat → Option Nat
  | [], _ => none
  | y :: r, n => if (y == x) = true then some n else nmIx x r (n + 1)
theorem nmIx_ok {x : Str} : ∀ {N : List Str} {k i : Nat}, nmIx x N k = some i → k ≤ i ∧ N[i - k]? = some x
  | [], k, i, h => by cases h
  | y :: r, k, i, h => by
    unfold nmIx at h
    split at h
    · cases h
      rename_i e
      have : y = x := by simpa using e
      subst this
      simp
    · have := nmIx_ok h
      refine ⟨by omega, ?_⟩
      have e : i - k = (i - (k + 1)) + 1 := by omega
      rw [e]
      simpa using this.2
theorem nm0 {x : Str} {N : List Str} {i : Nat} (h : nmIx x N 0 = some i) : N[i]? = some x := (nmIx_ok h).2
section
variable {X : Cx} {H0 : Hp} {env : En} {D : Ends} {rest body : List Stmt} {pos : Pos}
theorem ev_nm {x : Str} {i : Nat} {s : SV} {d : PyData} (hN : nmIx x X.N 0 = some i) (hv : Vis X.env.scope x) (he : env[i]? = some (some s)) (hd : svd s = some d) (hb : (x == ("__debug__" : Str)) = false := by decide)
    (hcd : (x == ("__classdict__" : Str)) = false := by decide) : Ev X env (.Name x pos) d := ev_name i (nm0 hN) hv he hd hb hcd
theorem ev_strS {x : Str} {l : List Nat} {j} (h : x = SX.S l) : Ev X env (.Constant (.str x) j pos) (.str (SX.S l)) := h ▸ ev_str
end
section
variable {X : Cx} {H0 : Hp} {env : En} {D : Ends} {rest body : List Stmt} {pos : Pos}
theorem rs_F {i : Nat} {x : Str} {e : Expr} {d : PyData} {pos' : Pos} (hi : nmIx x X.N 0 = some i) (hN : X.N.Nodup) (hx : Loc X.env.scope x) (he : Ev X env e d) (hf : fz d = true) (k : Run X H0 (env.set i (some (.d d))) rest D)
    (hs : swapsWith e (some (.Name x pos')) pos.line X.env = pure false := by rfl) (hf' : X.fn x = true ∨ X.env.scope.names.lookup x = some .local := by first | exact .inl rfl | exact .inr rfl) :
    Run X H0 env (.Assign [.Name x pos'] e pos :: rest) D := run_setF i hN (nm0 hi) hx he hf k hs hf'
theorem rs_B {i : Nat} {x : Str} {e : Expr} {d : PyData} {pos' : Pos} (hi : nmIx x X.N 0 = some i) (hN : X.N.Nodup) (hx : Loc X.env.scope x) (he : Ev X env e d) (hf : noOwn env = true) (k : Run X H0 (env.set i (some (.d d))) rest D)
    (hs : swapsWith e (some (.Name x pos')) pos.line X.env = pure false := by rfl) (hf' : X.fn x = true ∨ X.env.scope.names.lookup x = some .local := by first | exact .inl rfl | exact .inr rfl) :
    Run X H0 env (.Assign [.Name x pos'] e pos :: rest) D := run_setB i hN (nm0 hi) hx he hf k hs hf'
theorem rs_L {i : Nat} {x : Str} {e : Expr} {ds : List PyData} {pos' : Pos} (hi : nmIx x X.N 0 = some i) (hN : X.N.Nodup) (hx : Loc X.env.scope x) (he : EvL X env e ds) (hf : fzs ds = true) (k : Run X H0 (env.set i (some (.l ds))) rest D)
    (hs : swapsWith e (some (.Name x pos')) pos.line X.env = pure false := by rfl) (hf' : X.fn x = true ∨ X.env.scope.names.lookup x = some .local := by first | exact .inl rfl | exact .inr rfl) :
    Run X H0 env (.Assign [.Name x pos'] e pos :: rest) D := run_setL i hN (nm0 hi) hx he hf k hs hf'
theorem rs_M {i : Nat} {x : Str} {pos' pos2 : Pos} (hi : nmIx x X.N 0 = some i) (hN : X.N.Nodup) (hx : Loc X.env.scope x) (k : Run X H0 (env.set i (some (.m []))) rest D)
    (hs : swapsWith (.Dict [] [] pos2) (some (.Name x pos')) pos.line X.env = pure false := by rfl) (hf' : X.fn x = true ∨ X.env.scope.names.lookup x = some .local := by first | exact .inl rfl | exact .inr rfl) :
    Run X H0 env (.Assign [.Name x pos'] (.Dict [] [] pos2) pos :: rest) D := run_setM i hN (nm0 hi) hx k hs hf'
theorem rs_app {i : Nat} {x : Str} {e : Expr} {d : PyData} {ds : List PyData} {p apos cpos : Pos} (hi : nmIx x X.N 0 = some i) (hv : Vis X.env.scope x) (he' : env[i]? = some (some (.l ds))) (he : Ev X env e d) (hf : fz d = true) (hz : ds.length ≤ 1000000) (k : Run X H0 (env.set i (some (.l (ds ++ [d])))) rest D)
    (hd : (x == ("__debug__" : Str)) = false := by decide) (hcd : (x == ("__classdict__" : Str)) = false := by decide)
    (hs : swapsWith (.Call (.Attribute (.Name x p) "append" apos) [e] [] cpos) none pos.line X.env = pure false := by rfl)
    (hse : starEach [e] X.env = (false, eval e X.env) :: starEach [] X.env := by rfl)
    (hbase : attributeBase (.Name x p) "append" X.env (eval (.Name x p) X.env) = eval (.Name x p) X.env := by rfl)
    (hfew : ((backTo cpos (starEach [e] X.env)).all (fun x => !x.1) && (backToKw cpos (keywordEach [] X.env)).all (fun x => x.1.isSome)
      && decide ([e].length + ([] : List Keyword).length + (if ([] : List Keyword).isEmpty then 0 else 1) < 30)) = true := by rfl)
    (hline : (apos.endLine == cpos.line) = true := by rfl) (hplain : (backTo cpos (starEach [] X.env)).any (·.1) = false := by rfl) :
    Run X H0 env (.Expr (.Call (.Attribute (.Name x p) "append" apos) [e] [] cpos) pos :: rest) D := run_append i (nm0 hi) hv he' he hf hz k hd hcd hs hse hbase hfew hline hplain
theorem rs_pop {i : Nat} {x : Str} {ds : List PyData} {p apos cpos : Pos} (hi : nmIx x X.N 0 = some i) (hv : Vis X.env.scope x) (he : env[i]? = some (some (.l ds))) (hz : ds ≠ []) (k : Run X H0 (env.set i (some (.l ds.dropLast))) rest D)
    (hd : (x == ("__debug__" : Str)) = false := by decide) (hcd : (x == ("__classdict__" : Str)) = false := by decide)
    (hs : swapsWith (.Call (.Attribute (.Name x p) "pop" apos) [] [] cpos) none pos.line X.env = pure false := by rfl)
    (hbase : attributeBase (.Name x p) "pop" X.env (eval (.Name x p) X.env) = eval (.Name x p) X.env := by rfl)
    (hline : (apos.endLine == cpos.line) = true := by rfl) :
    Run X H0 env (.Expr (.Call (.Attribute (.Name x p) "pop" apos) [] [] cpos) pos :: rest) D := run_pop i (nm0 hi) hv he hz k hd hcd hs hbase hline
theorem rs_un2 {i j : Nat} {x y : Str} {px py pt : Pos} {kt : Nat} {e : Expr} {a b : PyData} (hi : nmIx x X.N 0 = some i) (hj : nmIx y X.N 0 = some j) (hN : X.N.Nodup) (hx : Loc X.env.scope x) (hy : Loc X.env.scope y) (he : Ev X env e (.tuple [a, b])) (hf : fz (.tuple [a, b]) = true)
    (k : Run X H0 ((env.set i (some (.d a))).set j (some (.d b))) rest D) (hc : X.calm = true := by rfl)
    (hs : swapsWithSole [.Tuple [.Name x px, .Name y py] kt pt] e pos.line X.env = pure false := by rfl) (hw : swappedStores [.Tuple [.Name x px, .Name y py] kt pt] e X.env = pure none := by rfl)
    (hfx : X.fn x = true ∨ X.env.scope.names.lookup x = some .local := by first | exact .inl rfl | exact .inr rfl) (hfy : X.fn y = true ∨ X.env.scope.names.lookup y = some .local := by first | exact .inl rfl | exact .inr rfl)
    (h1 : (assignEach [.Tuple [.Name x px, .Name y py] kt pt] X.env).map (·.2) = [assign (.Tuple [.Name x px, .Name y py] kt pt) X.env] := by rfl)
    (h2 : (assignEach [.Name x px, .Name y py] X.env).map (·.2) = assign (.Name x px) X.env :: (assignEach [.Name y py] X.env).map (·.2) := by rfl)
    (h3 : (assignEach [.Name y py] X.env).map (·.2) = assign (.Name y py) X.env :: (assignEach [] X.env).map (·.2) := by rfl)
    (hn : (assignEach [.Name x px, .Name y py] X.env).length = 2 := by rfl) (hst : (assignEach [.Name x px, .Name y py] X.env).findIdx? (·.1) = none := by rfl) :
    Run X H0 env (.Assign [.Tuple [.Name x px, .Name y py] kt pt] e pos :: rest) D := run_un2 i j hc hN (nm0 hi) (nm0 hj) hx hy he hf k hs hw hfx hfy h1 h2 h3 hn hst
/-- a for over a name's items, a target of one name -/
theorem rs_for {x : Str} {px : Pos} {iter : Expr} {n : Nat} {item : Nat → PyData} {j : Nat} (E : Nat → En) (hj : nmIx x X.N 0 = some j) (hN : X.N.Nodup) (hx : Loc X.env.scope x) (hp : PassesOwn (model X.prog X.w) X.A X.env X.xe) (hI : ItS X H0 env (.Name x px) iter n item)
    (h0 : Le (E 0) env) (hit : ∀ i, i < n → fz (item i) = true)
    (turn : ∀ (i : Nat) (Hl : Hp) (D' : Ends), i < n → Same H0 Hl → D'.nx = NX X Hl (E (i + 1)) → D'.rt = D.rt → Run X Hl ((E i).set j (some (.d (item i)))) body D')
    (done : Run X H0 (E n) rest D) (hc : X.calm = true := by rfl) (hfo : ∀ x, foldedSetIterable iter X.env x = pure x := by intro _; rfl)
    (hf' : X.fn x = true ∨ X.env.scope.names.lookup x = some .local := by first | exact .inl rfl | exact .inr rfl) : Run X H0 env (.For (.Name x px) iter body [] pos :: rest) D :=
  run_for E hp hc hI (pg_name hN (nm0 hj) hx hf') (gs_name j) h0 (fun i hi => ⟨hit i hi, trivial⟩) turn done hfo
theorem rs_retN {i : Nat} {x : Str} {ds : List PyData} {px : Pos} (hi : nmIx x X.N 0 = some i) (hv : Vis X.env.scope x) (he : env[i]? = some (some (.l ds))) (h : RtL X.K H0 D ds) (hd : (x == ("__debug__" : Str)) = false := by decide) (hcd : (x == ("__classdict__" : Str)) = false := by decide) :
    Run X H0 env (.Return (some (.Name x px)) pos :: rest) D := run_retN i (nm0 hi) hv he h hd hcd
/-- [elt for x in iter] -/
theorem el_comp {x : Str} {px : Pos} {iter elt : Expr} {scope sc : Scope} {N ps : List Str} {n : Nat} {item : Nat → PyData} {j : Nat} (S : FnScope N ps sc) (v : Nat → PyData) (hj : nmIx x X.N 0 = some j) (hN : X.N.Nodup) (hok : blkC N sc scope [(x, j)] = true) (hI : ItE X env (.Name x px) iter n item)
    (hg : ∀ (s : Shared) (H : Hp) (C : Addr) (cl : List (Str × Addr)) (fp : List Addr), Loc (X.blk s H scope (compEnvC scope cl C X.env) fp).env.scope x ∧ ((X.blk s H scope (compEnvC scope cl C X.env) fp).fn x = true ∨ (X.blk s H scope (compEnvC scope cl C X.env) fp).env.scope.names.lookup x = some .local))
    (hfz : ∀ i, i < n → fz (v i) = true) (hlen : n ≤ 1000000)
    (he : ∀ (s : Shared) (H : Hp) (C : Addr) (cl : List (Str × Addr)) (fp : List Addr) i, i < n → Ev (X.blk s H scope (compEnvC scope cl C X.env) fp) ((env.set j none).set j (some (.d (item i)))) elt (v i))
    (hc : X.calm = true := by rfl) (hel : X.N.length = env.length := by rfl) (hfo : ∀ x, foldedSetIterable iter X.env x = pure x := by intro _; rfl) (hnn : X.N = N := by rfl) (hss : X.env.scope = sc := by rfl) :
    EvL X env (.ListComp elt [⟨.Name x px, iter, [], 0⟩] scope pos) ((List.range n).map v) :=
  evl_comp [(x, j)] v hc hN (hnn ▸ hss ▸ blkOk_by hok) hI (fun s H C cl fp => pg_name hN (nm0 hj) (hg s H C cl fp).1 (hg s H C cl fp).2) (ge_name j (by simp)) (fun _ _ => trivial) hfz hlen he hel hfo
end
/-! ### a def as the top has left it -/
structure Df (K : PySem.W.Frag) (mg : Str → Option Value) (x : Str) (st : Stmt) (ps : List Str) : Prop where
  ex : ∃ f fd, Fun K x x st f fd ∧ mg x = some (.ref f) ∧ Binds K fd ps []
section
variable {P : Program} {w : World} {K : PySem.W.Frag} {mg : Str → Option Value} {base : Heap}
theorem cdD {x : Str} {st : Stmt} {N ps : List Str} {k : Nat} {R : List PyData → PyData → Prop} (F : Df K mg x st ps) (S : FnScope N ps (defScope st)) (hl : ∀ ds r, R ds r → ds.length = ps.length)
    (body : ∀ (f : Addr) (cdv : Value) (A : Around) (outer : List Env) (s : Shared) (H : Hp) (E : XK), Room k (CxD P w K mg base N x st f cdv A outer s H E).A → (CxD P w K mg base N x st f cdv A outer s H E).N.Nodup → ∀ (ds : List PyData) (r : PyData) (D : Ends), R ds r → RtD K H D r → (r = .none → ∀ σ H', Same H H' → D.nx σ H') →
      Run (CxD P w K mg base N x st f cdv A outer s H E) H (env0 N.length ds) (defBody st) D) : Cd P w K mg base (k + 1) x (spD K R) := by
  obtain ⟨f, fd, hF, hm, hb⟩ := F.ex
  exact ⟨f, fd, ps, fnD hF S hl (fun cdv A outer s H E hr => body f cdv A outer s H E hr S.nd), hm, hF.kp, hb⟩
theorem cdL {x : Str} {st : Stmt} {N ps : List Str} {k : Nat} {R : List PyData → List PyData → Prop} (F : Df K mg x st ps) (S : FnScope N ps (defScope st)) (hl : ∀ ds r, R ds r → ds.length = ps.length)
    (body : ∀ (f : Addr) (cdv : Value) (A : Around) (outer : List Env) (s : Shared) (H : Hp) (E : XK), Room k (CxD P w K mg base N x st f cdv A outer s H E).A → (CxD P w K mg base N x st f cdv A outer s H E).N.Nodup → ∀ (ds : List PyData) (r : List PyData) (D : Ends), R ds r → RtL K H D r →
      Run (CxD P w K mg base N x st f cdv A outer s H E) H (env0 N.length ds) (defBody st) D) : Cd P w K mg base (k + 1) x (spL K R) := by
  obtain ⟨f, fd, hF, hm, hb⟩ := F.ex
  exact ⟨f, fd, ps, fnL hF S hl (fun cdv A outer s H E hr => body f cdv A outer s H E hr S.nd), hm, hF.kp, hb⟩
/-- the law itself, its function object named -/
theorem fnD1 {x : Str} {st : Stmt} {N ps : List Str} {k : Nat} {R : List PyData → PyData → Prop} {f : Addr} {fd : FuncData} (F : Fun K x x st f fd) (S : FnScope N ps (defScope st)) (hl : ∀ ds r, R ds r → ds.length = ps.length)
    (body : ∀ (f : Addr) (cdv : Value) (A : Around) (outer : List Env) (s : Shared) (H : Hp) (E : XK), Room k (CxD P w K mg base N x st f cdv A outer s H E).A → (CxD P w K mg base N x st f cdv A outer s H E).N.Nodup → ∀ (ds : List PyData) (r : PyData) (D : Ends), R ds r → RtD K H D r → (r = .none → ∀ σ H', Same H H' → D.nx σ H') →
      Run (CxD P w K mg base N x st f cdv A outer s H E) H (env0 N.length ds) (defBody st) D) : FnOk P w K mg base CX0 (k + 1) f fd ps (spD K R) :=
  fnD F S hl (fun cdv A outer s H E hr => body f cdv A outer s H E hr S.nd)
/-- a def's end without return -/
theorem run_fall {X : Cx} {H0 : Hp} {env : En} {D : Ends} (hN : ∀ σ H', Same H0 H' → D.nx σ H') : Run X H0 env [] D := run_end fun B σ H S => hN σ H (S.e0.trans S.e1)
end
/-- what every law promises -/
def RLaw : List PyData → PyData → Prop := fun ds r => ∃ ns : List Int, ns.length ≤ 63 ∧ ds = [.list (ns.map PyData.int)] ∧ r = .bool true
theorem spLaw_of {K : PySem.W.Frag} {H : Hp} {a : Addr} {ns : List Int} (hl : ns.length ≤ 63) (hS : SqL K H a (ns.map V.int)) : spD K RLaw [.ref a] H (fun v _ => v = .bl true) fun _ _ _ => False :=
  ⟨_, _, .cons (.lst hS (RpAll.ints ns)) .nil, ⟨ns, hl, rfl, rfl⟩, fun v H' _ r => by cases r; rfl⟩
/-- the names of builtins are the builtins' own -/
structure Blt (mg : Str → Option Value) : Prop where
  isinstance : mg "isinstance" = none
  int : mg "int" = none
  bool : mg "bool" = none
  str : mg "str" = none
  list : mg "list" = none
  tuple : mg "tuple" = none
  range : mg "range" = none
  len : mg "len" = none
  sum : mg "sum" = none
  abs : mg "abs" = none
  min : mg "min" = none
  all : mg "all" = none
  any : mg "any" = none
  sorted : mg "sorted" = none
  set : mg "set" = none
  enumerate : mg "enumerate" = none
  zip : mg "zip" = none
  reversed : mg "reversed" = none
theorem b_int : bootBuiltins "int" = some (.type "int") := by decide +kernel
theorem b_bool : bootBuiltins "bool" = some (.type "bool") := by decide +kernel
theorem b_str : bootBuiltins "str" = some (.type "str") := by decide +kernel
theorem b_list : bootBuiltins "list" = some (.type "list") := by decide +kernel
theorem b_tuple : bootBuiltins "tuple" = some (.type "tuple") := by decide +kernel
theorem b_range : bootBuiltins "range" = some (.type "range") := by decide +kernel
theorem b_set : bootBuiltins "set" = some (.type "set") := by decide +kernel
theorem b_enumerate : bootBuiltins "enumerate" = some (.type "enumerate") := by decide +kernel
theorem b_zip : bootBuiltins "zip" = some (.type "zip") := by decide +kernel
theorem b_reversed : bootBuiltins "reversed" = some (.type "reversed") := by decide +kernel
theorem b_isinstance : bootBuiltins "isinstance" = some (.builtin "isinstance") := by decide +kernel
theorem b_len : bootBuiltins "len" = some (.builtin "len") := by decide +kernel
theorem b_sum : bootBuiltins "sum" = some (.builtin "sum") := by decide +kernel
theorem b_abs : bootBuiltins "abs" = some (.builtin "abs") := by decide +kernel
theorem b_min : bootBuiltins "min" = some (.builtin "min") := by decide +kernel
theorem b_all : bootBuiltins "all" = some (.builtin "all") := by decide +kernel
theorem b_any : bootBuiltins "any" = some (.builtin "any") := by decide +kernel
theorem b_sorted : bootBuiltins "sorted" = some (.builtin "sorted") := by decide +kernel
theorem k_int_int : kitB "int" "int" = some true := by decide +kernel
theorem k_int_bool : kitB "int" "bool" = some false := by decide +kernel
theorem k_int_str : kitB "int" "str" = some false := by decide +kernel
theorem k_int_list : kitB "int" "list" = some false := by decide +kernel
theorem k_int_tuple : kitB "int" "tuple" = some false := by decide +kernel
theorem k_bool_int : kitB "bool" "int" = some true := by decide +kernel
theorem k_bool_bool : kitB "bool" "bool" = some true := by decide +kernel
theorem k_bool_str : kitB "bool" "str" = some false := by decide +kernel
theorem k_bool_list : kitB "bool" "list" = some false := by decide +kernel
theorem k_bool_tuple : kitB "bool" "tuple" = some false := by decide +kernel
theorem k_str_int : kitB "str" "int" = some false := by decide +kernel
theorem k_str_bool : kitB "str" "bool" = some false := by decide +kernel
theorem k_str_str : kitB "str" "str" = some true := by decide +kernel
theorem k_str_list : kitB "str" "list" = some false := by decide +kernel
theorem k_str_tuple : kitB "str" "tuple" = some false := by decide +kernel
theorem k_list_int : kitB "list" "int" = some false := by decide +kernel
theorem k_list_bool : kitB "list" "bool" = some false := by decide +kernel
theorem k_list_str : kitB "list" "str" = some false := by decide +kernel
theorem k_list_list : kitB "list" "list" = some true := by decide +kernel
theorem k_list_tuple : kitB "list" "tuple" = some false := by decide +kernel
theorem k_tuple_int : kitB "tuple" "int" = some false := by decide +kernel
theorem k_tuple_bool : kitB "tuple" "bool" = some false := by decide +kernel
theorem k_tuple_str : kitB "tuple" "str" = some false := by decide +kernel
theorem k_tuple_list : kitB "tuple" "list" = some false := by decide +kernel
theorem k_tuple_tuple : kitB "tuple" "tuple" = some true := by decide +kernel
theorem k_NoneType_int : kitB "NoneType" "int" = some false := by decide +kernel
theorem k_NoneType_bool : kitB "NoneType" "bool" = some false := by decide +kernel
theorem k_NoneType_str : kitB "NoneType" "str" = some false := by decide +kernel
theorem k_NoneType_list : kitB "NoneType" "list" = some false := by decide +kernel
theorem k_NoneType_tuple : kitB "NoneType" "tuple" = some false := by decide +kernel
theorem ty_int {i : Int} : tyD (.int i) = "int" := rfl
theorem ty_bool {i : Bool} : tyD (.bool i) = "bool" := rfl
theorem ty_str {i : Str} : tyD (.str i) = "str" := rfl
theorem ty_none : tyD .none = "NoneType" := rfl
theorem ty_list {i : List PyData} : tyD (.list i) = "list" := rfl
theorem ty_tuple {i : List PyData} : tyD (.tuple i) = "tuple" := rfl
theorem ty_W {i : Wk} : tyD (W i) = "str" := rfl
theorem ty_ptD {i : Pt} : tyD (ptD i) = "tuple" := rfl
theorem s_ : Str.ofString "" = SX.S [] := rfl
theorem s_n : Str.ofString "n" = SX.S [110] := rfl
theorem s_w : Str.ofString "w" = SX.S [119] := rfl
theorem s_s : Str.ofString "s" = SX.S [115] := rfl
theorem s_e : Str.ofString "e" = SX.S [101] := rfl
theorem s_ns : Str.ofString "ns" = SX.S [110, 115] := rfl
theorem s_nwse : Str.ofString "nwse" = SX.S [110, 119, 115, 101] := rfl
theorem s_nesw : Str.ofString "nesw" = SX.S [110, 101, 115, 119] := rfl
theorem ofT {p : Prop} [Decidable p] (h : decide p = true) : p := of_decide_eq_true h
theorem ofF {p : Prop} [Decidable p] (h : decide p = false) : ¬ p := of_decide_eq_false h
end Sw

/-! walks as texts: rules for them -/
namespace Sw
open PySem PySem.Spec PyProof.Rows L2
theorem map_getD {α β : Type} (w : List α) (d : α) (g : α → β) : (List.range w.length).map (fun i => g (w.getD i d)) = w.map g := by
  apply List.ext_getElem
  · simp
  · intro i h1 h2
    have hi : i < w.length := by simpa using h1
    simp [List.getD_eq_getElem?_getD, hi]
theorem cps_getD (w : Wk) (i : Nat) (h : i < w.length) : (cps w).getD i 0 = (w.getD i .n).code := by
  unfold cps
  simp [List.getD_eq_getElem?_getD, h]
theorem flat_cps (w : Wk) : (w.map fun d => [d.code]).flatten = cps w := by
  induction w with
  | nil => rfl
  | cons d r ih => simp only [List.map_cons, List.flatten_cons, ih]; rfl
section
variable {X : Cx} {H0 : Hp} {env : En} {tg e : Expr} {pos : Pos}
theorem ItS.congr {iter : Expr} {n : Nat} {item item' : Nat → PyData} (h : ItS X H0 env tg iter n item) (he : ∀ i, i < n → item i = item' i) : ItS X H0 env tg iter n item' := by
  obtain ⟨wi, hi, hw⟩ := h
  exact ⟨wi, hi, fun B σ H R S q => hw B σ H R S fun J H1 Bi G Yv s1 S1 W hG hY => q J H1 Bi G Yv s1 S1 W hG fun i H' x H'' hlt sB hy => by
    rw [← he i hlt]
    exact hY i H' x H'' hlt sB hy⟩
theorem ItE.congr {iter : Expr} {n : Nat} {item item' : Nat → PyData} (h : ItE X env tg iter n item) (he : ∀ i, i < n → item i = item' i) : ItE X env tg iter n item' := by
  obtain ⟨wi, hi, hw⟩ := h
  exact ⟨wi, hi, fun σ H R S q => hw σ H R S fun J H1 G Yv s1 W hG hY => q J H1 G Yv s1 W hG fun i H' x H'' hlt sB hy => by
    rw [← he i hlt]
    exact hY i H' x H'' hlt sB hy⟩
theorem its_W {w : Wk} (he : Ev X env e (W w)) : ItS X H0 env tg e w.length (fun i => L1 (w.getD i .n)) := by
  have h := its_str (H0 := H0) (tg := tg) he
  rw [cps_len] at h
  exact h.congr fun i hi => by rw [cps_getD w i hi]; rfl
theorem ite_W {w : Wk} (he : Ev X env e (W w)) : ItE X env tg e w.length (fun i => L1 (w.getD i .n)) := by
  have h := ite_str (tg := tg) he
  rw [cps_len] at h
  exact h.congr fun i hi => by rw [cps_getD w i hi]; rfl
theorem ev_joinW {j : Nat} {apos p : Pos} {w : Wk} (he : Ev X env e (.list (w.map L1))) (h : w.length ≤ 1000000)
    (hs : starEach [e] X.env = [(false, eval e X.env)] := by rfl) (hline : (apos.endLine == pos.line) = true := by rfl) : Ev X env (.Call (.Attribute (.Constant (.str "") j p) "join" apos) [e] [] pos) (W w) := by
  have e1 : w.map L1 = (w.map fun d => [d.code]).map fun l => PyData.str (SX.S l) := by rw [List.map_map]; rfl
  rw [e1] at he
  have := ev_join (pos := pos) (apos := apos) (j := j) (p := p) he (by rw [flat_cps, cps_len]; exact h) hs hline
  rw [flat_cps] at this
  exact this
theorem ev_lenW {w : Wk} (h : w.length ≤ 1000000) : CallD X (.builtin "len") [W w] (.int (w.length : Int)) := by
  have := call_lenS (X := X) (l := cps w) (by rw [cps_len]; exact h)
  rwa [cps_len] at this
theorem bin_addW {a b : Wk} (h : a.length + b.length ≤ 1000000) : Bin X .Add (W a) (W b) (W (a ++ b)) := by
  have := bin_addS (X := X) (a := cps a) (b := cps b) (by rw [cps_len, cps_len]; exact h)
  unfold W cps at *
  rwa [← List.map_append] at this
theorem cmp_eqW {a b : Wk} : Cmp X .Eq (W a) (W b) (decide (a = b)) := by
  have := cmp_eqS (X := X) (a := cps a) (b := cps b)
  have e : decide (cps a = cps b) = decide (a = b) := by
    by_cases h : a = b
    · subst h; simp
    · rw [decide_eq_false h, decide_eq_false (fun z => h (cps_inj z))]
  rwa [e] at this
theorem cmp_neW {a b : Wk} : Cmp X .NotEq (W a) (W b) (!decide (a = b)) := by
  have := cmp_neS (X := X) (a := cps a) (b := cps b)
  have e : decide (cps a = cps b) = decide (a = b) := by
    by_cases h : a = b
    · subst h; simp
    · rw [decide_eq_false h, decide_eq_false (fun z => h (cps_inj z))]
  rwa [e] at this
theorem cmp_eqL {a b : Dr} : Cmp X .Eq (L1 a) (L1 b) (decide (a = b)) := by
  have := cmp_eqW (X := X) (a := [a]) (b := [b])
  have e : decide ([a] = [b]) = decide (a = b) := by cases a <;> cases b <;> rfl
  rwa [e] at this
theorem cmp_neL {a b : Dr} : Cmp X .NotEq (L1 a) (L1 b) (!decide (a = b)) := by
  have := cmp_neW (X := X) (a := [a]) (b := [b])
  have e : decide ([a] = [b]) = decide (a = b) := by cases a <;> cases b <;> rfl
  rwa [e] at this
theorem cut_map {α β : Type} (f : α → β) (xs : List α) (lo hi : Option Int) : cut (xs.map f) lo hi = (cut xs lo hi).map f := by
  unfold cut
  rw [List.length_map, List.map_take, List.map_drop]
theorem ev_slW {w : Wk} {lo hi : Option Expr} {i j : Option Int} {p2 : Pos} (he : Ev X env e (W w)) (hl : EvP X env lo i) (hh : EvP X env hi j) (hz : w.length ≤ 1000000) : Ev X env (.Subscript e (.Slice lo hi none p2) pos) (W (cut w i j)) := by
  have := ev_slS (pos := pos) (p2 := p2) he hl hh (by rw [cps_len]; exact hz)
  unfold W cps at *
  rwa [cut_map] at this
theorem ev_revW {w : Wk} {k : Nat} {p1 p2 p3 : Pos} (he : Ev X env e (W w)) (hz : w.length ≤ 1000000) : Ev X env (.Subscript e (.Slice none none (some (.UnaryOp .USub (.Constant (.int 1) k p1) p2)) p3) pos) (W w.reverse) := by
  have := ev_revS (pos := pos) (p1 := p1) (p2 := p2) (p3 := p3) (k := k) he (by rw [cps_len]; exact hz)
  unfold W cps at *
  rwa [← List.map_reverse] at this
theorem ix_W {w : Wk} {i : Int} {d : Dr} (h : atI w i = some d) (hz : w.length ≤ 1000000) : Ix X (W w) (.int i) (L1 d) := by
  refine ix_S (l := cps w) (c := d.code) ?_ (by rw [cps_len]; exact hz)
  unfold atI at h ⊢
  rw [cps_len]
  cases q : ixN w.length i with
  | none => rw [q] at h; cases h
  | some j =>
    rw [q] at h
    show (cps w)[j]? = _
    unfold cps
    rw [List.getElem?_map, show w[j]? = some d from h]
    rfl
theorem mt_stripW {w : Wk} (hz : w.length ≤ 1000000) : MtD X "str.strip" (W w) [.str (SX.S [110, 119, 115, 101])] (.str (SX.S [])) := by
  refine mt_strip1 (fun c hc => ?_) (by rw [cps_len]; exact hz)
  obtain ⟨d, _, rfl⟩ := List.mem_map.mp hc
  cases d <;> decide
def cnt (c : Dr) (w : Wk) : Nat := (w.filter (· = c)).length
theorem mt_countW {w : Wk} {c : Dr} : MtD X "str.count" (W w) [L1 c] (.int (cnt c w : Nat)) := by
  have := mt_count1 (X := X) (l := cps w) (c := c.code)
  have e : ((cps w).filter (· == c.code)).length = cnt c w := by
    unfold cps cnt
    rw [List.filter_map, List.length_map]
    congr 1
    apply List.filter_congr
    intro d _
    show (d.code == c.code) = decide (d = c)
    cases d <;> cases c <;> rfl
  rw [e] at this
  exact this
theorem cmp_eqLn {a : Dr} : Cmp X .Eq (L1 a) (.str (SX.S [110])) (decide (a = .n)) := cmp_eqL (b := .n)
theorem cmp_neLn {a : Dr} : Cmp X .NotEq (L1 a) (.str (SX.S [110])) (!decide (a = .n)) := cmp_neL (b := .n)
theorem mt_countWn {w : Wk} : MtD X "str.count" (W w) [.str (SX.S [110])] (.int (cnt .n w : Nat)) := mt_countW (c := .n)
theorem cmp_eqLw {a : Dr} : Cmp X .Eq (L1 a) (.str (SX.S [119])) (decide (a = .w)) := cmp_eqL (b := .w)
theorem cmp_neLw {a : Dr} : Cmp X .NotEq (L1 a) (.str (SX.S [119])) (!decide (a = .w)) := cmp_neL (b := .w)
theorem mt_countWw {w : Wk} : MtD X "str.count" (W w) [.str (SX.S [119])] (.int (cnt .w w : Nat)) := mt_countW (c := .w)
theorem cmp_eqLs {a : Dr} : Cmp X .Eq (L1 a) (.str (SX.S [115])) (decide (a = .s)) := cmp_eqL (b := .s)
theorem cmp_neLs {a : Dr} : Cmp X .NotEq (L1 a) (.str (SX.S [115])) (!decide (a = .s)) := cmp_neL (b := .s)
theorem mt_countWs {w : Wk} : MtD X "str.count" (W w) [.str (SX.S [115])] (.int (cnt .s w : Nat)) := mt_countW (c := .s)
theorem cmp_eqLe {a : Dr} : Cmp X .Eq (L1 a) (.str (SX.S [101])) (decide (a = .e)) := cmp_eqL (b := .e)
theorem cmp_neLe {a : Dr} : Cmp X .NotEq (L1 a) (.str (SX.S [101])) (!decide (a = .e)) := cmp_neL (b := .e)
theorem mt_countWe {w : Wk} : MtD X "str.count" (W w) [.str (SX.S [101])] (.int (cnt .e w : Nat)) := mt_countW (c := .e)
theorem cmp_eqW0 {w : Wk} : Cmp X .Eq (W w) (.str (SX.S [])) (decide (w = [])) := cmp_eqW (b := [])
theorem cmp_neW0 {w : Wk} : Cmp X .NotEq (W w) (.str (SX.S [])) (!decide (w = [])) := cmp_neW (b := [])
theorem cmp_inL {a : Dr} {l : List Nat} : Cmp X .In (L1 a) (.str (SX.S l)) (decide (a.code ∈ l)) := cmp_inS
theorem mt_indexW {d : Dr} : MtD X "str.index" (.str (SX.S [110, 119, 115, 101])) [L1 d] (.int (d.ix : Nat)) := by
  refine mt_index1 (i := d.ix) ?_ ?_
  · cases d <;> rfl
  · intro j hj
    cases d with
    | n => exact absurd hj (Nat.not_lt_zero _)
    | w =>
      have : j = 0 := by show j = 0; have : j < 1 := hj; omega
      subst this
      decide
    | s =>
      have h : j = 0 ∨ j = 1 := by have : j < 2 := hj; omega
      rcases h with rfl | rfl <;> decide
    | e =>
      have h : j = 0 ∨ j = 1 ∨ j = 2 := by have : j < 3 := hj; omega
      rcases h with rfl | rfl | rfl <;> decide
theorem ix_lett {k : Int} {d : Dr} : Ix X (.str (SX.S [110, 119, 115, 101])) (.int (((d.ix : Nat) + k) % 4)) (L1 (turnD k d)) := by
  refine ix_S (l := [110, 119, 115, 101]) (c := (turnD k d).code) ?_ (by decide)
  unfold turnD
  have h1 : 0 ≤ ((d.ix : Int) + k) % 4 := Int.emod_nonneg _ (by decide)
  have h2 : ((d.ix : Int) + k) % 4 < 4 := Int.emod_lt_of_pos _ (by decide)
  generalize ((d.ix : Int) + k) % 4 = m at h1 h2
  have h : m = 0 ∨ m = 1 ∨ m = 2 ∨ m = 3 := by omega
  rcases h with rfl | rfl | rfl | rfl <;> rfl
end
/-! where a walk ends -/
theorem goAll_x : ∀ (w : Wk) (p : Pt), (goAll p w).1 = p.1 + (cnt .e w - cnt .w w : Int) ∧ (goAll p w).2 = p.2 + (cnt .n w - cnt .s w : Int)
  | [], p => by simp [goAll, cnt]
  | d :: r, p => by
    have ih := goAll_x r (go p d)
    have e : goAll p (d :: r) = goAll (go p d) r := rfl
    rw [e, ih.1, ih.2]
    cases d <;> simp [cnt, go, Dr.dx, Dr.dy] <;> omega
theorem goAll_end (w : Wk) : goAll (0, 0) w = ((cnt .e w : Int) - cnt .w w, (cnt .n w : Int) - cnt .s w) := by
  have h := goAll_x w (0, 0)
  refine Prod.ext ?_ ?_
  · rw [h.1]; simp
  · rw [h.2]; simp
theorem walkFrom_last : ∀ (w : Wk) (p : Pt), (walkFrom p w).getLast? = some (goAll p w)
  | [], p => rfl
  | d :: r, p => by
    have ih := walkFrom_last r (go p d)
    show (p :: walkFrom (go p d) r).getLast? = some (goAll (go p d) r)
    have hne : walkFrom (go p d) r ≠ [] := fun z => by
      have := walkFrom_len r (go p d)
      rw [z] at this
      cases this
    rw [List.getLast?_cons, ih]
    rfl
theorem walkFrom_snoc : ∀ (w : Wk) (p : Pt) (d : Dr), walkFrom p (w ++ [d]) = walkFrom p w ++ [go (goAll p w) d]
  | [], p, d => rfl
  | c :: r, p, d => by
    show p :: walkFrom (go p c) (r ++ [d]) = p :: walkFrom (go p c) r ++ [go (goAll (go p c) r) d]
    rw [walkFrom_snoc r (go p c) d]
    rfl
theorem take_getD {α : Type} (w : List α) (d : α) (i : Nat) (h : i < w.length) : w.take (i + 1) = w.take i ++ [w.getD i d] := by
  rw [List.take_add_one, List.getD_eq_getElem?_getD, List.getElem?_eq_getElem h]
  rfl
end Sw

/-! zip of a list and a text; enumerate of a text, of a list -/
namespace Sw
open PySem PySem.Spec PyProof.Rows L2
def ItzS (K : PySem.W.Frag) (a : Addr) (z : Str) : It :=
  ⟨fun i H => ∃ (xs : List V) (x : V), SqL K H a xs ∧ xs[i]? = some x ∧ i < z.cps.size,
    fun i H v H' => ∃ T x c, v = .ref T ∧ H T = none ∧ H' = upd H T (.tup [x, .str ⟨#[c]⟩]) ∧ (∀ xs, SqL K H a xs → xs[i]? = some x) ∧ z.cps[i]? = some c,
    fun i H => ∃ xs : List V, SqL K H a xs ∧ i = min xs.length z.cps.size⟩
theorem sep_new {m a : Nat} (h : a < m) : ZipSep2 (m + 4) (m + 2) (m + 3) m (m + 1) [m, a] [m + 1] := by
  have two : ∀ c : Nat, c ≠ m → c ≠ a → c ∉ [m, a] := fun c h1 h2 hm => by
    rcases List.mem_cons.mp hm with e | e
    · exact h1 e
    · rcases List.mem_cons.mp e with e | e
      · exact h2 e
      · cases e
  have one : ∀ c : Nat, c ≠ m + 1 → c ∉ [m + 1] := fun c h1 hm => by
    rcases List.mem_cons.mp hm with e | e
    · exact h1 e
    · cases e
  have ne : ∀ c d : Nat, c < d → c ≠ d := fun c d h => Nat.ne_of_lt h
  have gt : ∀ c d : Nat, d < c → c ≠ d := fun c d h => Nat.ne_of_gt h
  exact ⟨ne _ _ (by omega), ne _ _ (by omega), ne _ _ (by omega), gt _ _ (by omega), List.mem_cons_self .., two _ (gt _ _ (by omega)) (gt _ _ (by omega)), two _ (gt _ _ (by omega)) (gt _ _ (by omega)), gt _ _ (by omega), List.mem_cons_self .., one _ (gt _ _ (by omega)), one _ (gt _ _ (by omega)), one _ (ne _ _ (by omega)), two _ (gt _ _ (by omega)) (gt _ _ (by omega))⟩
theorem turn_zipS {P : Program} {w : World} {K : PySem.W.Frag} {elts : List Expr} {kk : Nat} {tpos : Pos} {a z TI TO i1 i2 : Addr} {x : Str} {t : Tok} (S : ZipSep2 z TI TO i1 i2 [i1, a] [i2]) (hne : a ≠ i1) :
    Turn P w K (.Tuple elts kk tpos) (ItzS K a x) [z, TI, TO, i1, i2] z (fun i h => IsZip h z TI TO .none ∧ IsTupOf2 h TI (.ref i1) (.ref i2) ∧ (∃ a1 a2, IsTupOf2 h TO a1 a2) ∧ h.IsListIter i1 a i ∧ h.IsStrIter i2 (strIterType x) x t i) where
  mem := by simp
  obj := fun i h st c hc => by
    obtain ⟨hz, hTI, ⟨x, y, hTO⟩, ⟨o1, e1, _, d1⟩, ⟨o2, e2, _, d2⟩⟩ := st
    have e' : c = z ∨ c = TI ∨ c = TO ∨ c = i1 ∨ c = i2 := by simpa using hc
    rcases e' with q | q | q | q | q
    · rw [q]; exact ⟨_, hz, fun v q => nomatch q⟩
    · rw [q]; exact ⟨_, hTI, fun v q => nomatch q⟩
    · rw [q]; exact ⟨_, hTO, fun v q => nomatch q⟩
    · rw [q]; exact ⟨o1, e1, fun v q => by rw [d1] at q; cases q⟩
    · rw [q]; exact ⟨o2, e2, fun v q => by rw [d2] at q; cases q⟩
  keep := fun i h h' st k => by
    obtain ⟨hz, hTI, ⟨x, y, hTO⟩, h1, h2⟩ := st
    obtain ⟨o2, e2, r2⟩ := h2
    exact ⟨k z (by simp) _ hz, k TI (by simp) _ hTI, ⟨x, y, k TO (by simp) _ hTO⟩, h1.at fun o q => k i1 (by simp) o q, ⟨o2, k i2 (by simp) _ e2, r2⟩⟩
  item := by
    intro X hP hw hK hc i pins s σ H E I hf st hg
    subst hP hw hK
    obtain ⟨hz, hTI, hTO, h1, h2⟩ := st
    obtain ⟨xs, y, hqx, hy, hi⟩ := hg
    obtain ⟨its, rv, p, _⟩ := I.list hqx
    obtain ⟨u, hu, ru⟩ := rv.get hy
    have hd : X.A.handled = none := I.ok.hd hc
    have W := GoesN.zip2 (prog := X.prog) (w := X.w) (A := X.A) (elts := elts) (x1 := kk) (pos := tpos) S (Draws.list (A := X.A.in1) hd i1 a hne its.toArray) (Draws.text (A := X.A.in1) hd i2 x t)
    have hlt : i < min its.toArray.size x.cps.size := by
      have : i < its.length := (List.getElem?_eq_some_iff.mp hu).1
      simp
      omega
    refine W.goes i s (fun v s2 => ∃ x' H', Inv X pins σ H' s2 ∧ RelV x' v ∧ (ItzS X.K a x).yld i H x' H' ∧ _ ∧ ∀ b ∈ [z, TI, TO, i1, i2], H' b = none) E hlt ⟨hz, hTI, hTO, ⟨h1, p.isList⟩, h2⟩ fun v h' tk hY st' hk htk => ?_
    obtain ⟨T, u1, u2, rfl, hT, hu1, ⟨c, t2, hc2, rfl⟩, hIT⟩ := hY
    have e1 : u1 = u := by
      have : its[i]? = some u1 := by simpa using hu1
      rw [hu] at this
      exact (Option.some.inj this).symm
    subst e1
    obtain ⟨o, ho, hoc, n, hod⟩ := hIT
    have new : ObjOk X.prog X.w (upd H T (.tup [y, .str ⟨#[c]⟩])) h' T (.tup [y, .str ⟨#[c]⟩]) :=
      ⟨by show 2 ≤ sizeLine; decide, [u1, .str ⟨#[c]⟩ t2], .cons ru (.cons ⟨_, rfl⟩ .nil), ⟨o, ho, hoc, n, hod⟩⟩
    have I1 : Inv X pins σ (upd H T (.tup [y, .str ⟨#[c]⟩])) { s with heap := h', toks := tk } :=
      I.turnedNew (t' := tk) (ch := [z, TI, TO, i1, i2]) (fun b ob hb q => hk b ob (fun m => hb (by
        have e' : b = z ∨ b = TO ∨ b = i1 ∨ b = i2 := by simpa using m
        rcases e' with q | q | q | q <;> simp [q])) q) hf hT new
    refine ⟨.ref T, _, I1, rfl, ⟨T, y, c, rfl, I.hok.fresh hT, rfl, fun l hl => by rw [I.list_inj hl hqx]; exact hy, hc2⟩, ⟨st'.1, st'.2.1, st'.2.2.1, st'.2.2.2.1.1, st'.2.2.2.2⟩, fun b hb => ?_⟩
    have hbl : b ≠ T := fun z => by
      subst z
      obtain ⟨o', ho'⟩ : ∃ o', s.heap.get? b = some o' := by
        have e' : b = z ∨ b = TI ∨ b = TO ∨ b = i1 ∨ b = i2 := by simpa using hb
        obtain ⟨o1, e1, _⟩ := h1
        obtain ⟨o2, e2, _⟩ := h2
        obtain ⟨a1, a2, hTO⟩ := hTO
        rcases e' with q | q | q | q | q
        · rw [q]; exact ⟨_, hz⟩
        · rw [q]; exact ⟨_, hTI⟩
        · rw [q]; exact ⟨_, hTO⟩
        · rw [q]; exact ⟨o1, e1⟩
        · rw [q]; exact ⟨o2, e2⟩
      exact absurd (Heap.lt_size ho') (Nat.not_lt.mpr hT)
    rw [upd_ne hbl]
    exact (hf b hb).1
  done := by
    intro X hP hw hK hc i pins s σ H E I hf st hg
    subst hP hw hK
    obtain ⟨hz, hTI, hTO, h1, h2⟩ := st
    obtain ⟨xs, hqx, hend⟩ := hg
    obtain ⟨its, rv, p, _⟩ := I.list hqx
    have l1 := rv.length
    have hd : X.A.handled = none := I.ok.hd hc
    have W := GoesN.zip2 (prog := X.prog) (w := X.w) (A := X.A) (elts := elts) (x1 := kk) (pos := tpos) S (Draws.list (A := X.A.in1) hd i1 a hne its.toArray) (Draws.text (A := X.A.in1) hd i2 x t)
    have e : i = min its.toArray.size x.cps.size := by simp; omega
    refine W.stops s (fun s1 => Inv X pins σ H s1) E (by rw [← e]; exact ⟨hz, hTI, hTO, ⟨h1, p.isList⟩, h2⟩) fun h' tk hk htk => ?_
    exact I.turnedL (t' := tk) (ch := [z, TI, TO, i1, i2]) (fun b ob hb q => hk b ob (fun m => hb (by
        have e' : b = z ∨ b = TO ∨ b = i1 ∨ b = i2 := by simpa using m
        rcases e' with q | q | q | q <;> simp [q])) q) hf
  self := fun A i s Q E st h => wpAny_pyIter_zip st.1 h
def iZipS (K : PySem.W.Frag) (ta : TA) : TI := fun σ H R => ta σ H fun vs H1 => ∃ a x xs, vs = [.ref a, .str x] ∧ SqL K H1 a xs ∧ R (ItzS K a x) H1
theorem pi_zipS {X : Cx} {e e2 : Expr} {ta : TA} {p pos tpos : Pos} {elts : List Expr} {kk : Nat} (hg : Gl X "zip") (hm : X.mg "zip" = none) (ha : PA X [e, e2] ta)
    (hs : starEach [e, e2] X.env = (false, eval e X.env) :: starEach [e2] X.env := by rfl) (hpl : (backTo pos (starEach [e2] X.env)).any (·.1) = false := by rfl) :
    PI X (.Tuple elts kk tpos) (.Call (.Name "zip" p) [e, e2] [] pos) (iZipS X.K ta) := by
  refine ⟨fun pins s σ H R I h => ?_⟩
  refine Call_ (ld_blt I hg hm PyProof.Rows.boot_zip (PyProof.Rows.callWith_type1 (thn (ha.run pos pins s σ H _ I h) fun us s1 ⟨vs, H1, I1, r1, q1⟩ => ?_) hs hpl))
  obtain ⟨a, x, xs, ex, hqx, q⟩ := q1
  subst ex
  cases r1 with
  | cons r rr =>
    cases rr with
    | cons r' rr =>
      cases rr
      cases r
      obtain ⟨t, rfl⟩ := r'
      obtain ⟨its, rv, p1, _⟩ := I1.list hqx
      have la : a < s1.heap.objs.size := p1.lt
      refine zip_begins2 (begins_list a its.toArray) (begins_text x t) p1.isList trivial fun h' hz hTI hTO h1 h2 hsz hk => wpAny_pyIter_zip hz ?_
      have I2 : Inv X pins σ H1 { s1 with heap := h' } := I1.kept (t' := s1.toks) hk
      have S : ZipSep2 (s1.heap.objs.size + 4) (s1.heap.objs.size + 2) (s1.heap.objs.size + 3) s1.heap.objs.size (s1.heap.objs.size + 1) [s1.heap.objs.size, a] [s1.heap.objs.size + 1] := by
        exact sep_new la
      refine ⟨s1.heap.objs.size + 4, [s1.heap.objs.size + 4, s1.heap.objs.size + 2, s1.heap.objs.size + 3, s1.heap.objs.size, s1.heap.objs.size + 1], _, _, H1, rfl, I2, turn_zipS S (Nat.ne_of_lt la) (x := x) (t := t), ⟨hz, hTI, ⟨_, _, hTO⟩, ⟨_, h1, rfl, rfl⟩, ⟨_, h2, rfl, rfl⟩⟩, fun c hcm => ?_, q⟩
      have e' : c = s1.heap.objs.size + 4 ∨ c = s1.heap.objs.size + 2 ∨ c = s1.heap.objs.size + 3 ∨ c = s1.heap.objs.size ∨ c = s1.heap.objs.size + 1 := by simpa using hcm
      have hle : s1.heap.objs.size ≤ c := by
        rcases e' with z | z | z | z | z
        · rw [z]; exact Nat.le_add_right _ _
        · rw [z]; exact Nat.le_add_right _ _
        · rw [z]; exact Nat.le_add_right _ _
        · rw [z]; exact Nat.le_refl _
        · rw [z]; exact Nat.le_add_right _ _
      exact I1.fpOk hle (I1.hok.fresh hle)

/-! enumerate(text) -/
def IteS (z : Str) : It :=
  ⟨fun i _ => i < z.cps.size, fun i H v H' => ∃ T c, v = .ref T ∧ H T = none ∧ H' = upd H T (.tup [.int (i : Nat), .str ⟨#[c]⟩]) ∧ z.cps[i]? = some c, fun i _ => i = z.cps.size⟩
theorem turn_enumS {P : Program} {w : World} {K : PySem.W.Frag} {elts : List Expr} {kk : Nat} {tpos : Pos} {e it : Addr} {x : Str} {t : Tok} (hne : e ≠ it) :
    Turn P w K (.Tuple elts kk tpos) (IteS x) [e, it] e (fun i h => (∃ old, IsEnum h e it (0 + (i : Int)) old) ∧ h.IsStrIter it (strIterType x) x t i) where
  mem := by simp
  obj := fun i h st b hb => by
    obtain ⟨⟨old, he⟩, ⟨o, ho, hc, hd⟩⟩ := st
    have e' : b = e ∨ b = it := by simpa using hb
    rcases e' with z | z
    · rw [z]; exact ⟨_, he, fun v q => nomatch q⟩
    · rw [z]; exact ⟨o, ho, fun v q => by rw [hd] at q; cases q⟩
  keep := fun i h h' st k => let ⟨⟨old, he⟩, ⟨o, ho, r⟩⟩ := st; ⟨⟨old, k e (by simp) _ he⟩, ⟨o, k it (by simp) _ ho, r⟩⟩
  item := by
    intro X hP hw hK hc i pins s σ H E I hf st hg
    subst hP hw hK
    have hd : X.A.handled = none := I.ok.hd hc
    have W := GoesN.enumFrom (prog := X.prog) (w := X.w) (A := X.A) (elts := elts) (x1 := kk) (pos := tpos) 0 (Draws.text (A := X.A.in1) hd it x t) e hne (by simpa using hne) (by simp)
    refine W.goes i s (fun v s2 => ∃ x' H', Inv X pins σ H' s2 ∧ RelV x' v ∧ (IteS x).yld i H x' H' ∧ _ ∧ ∀ b ∈ [e, it], H' b = none) E hg st fun v h' tk hY st' hk htk => ?_
    obtain ⟨T, t1, u, rfl, hT, ⟨c, t2, hc2, rfl⟩, hIT⟩ := hY
    obtain ⟨o, ho, hoc, n, hod⟩ := hIT
    rw [Int.zero_add] at hod
    have new : ObjOk X.prog X.w (upd H T (.tup [.int (i : Nat), .str ⟨#[c]⟩])) h' T (.tup [.int (i : Nat), .str ⟨#[c]⟩]) :=
      ⟨by show 2 ≤ sizeLine; decide, [.int i t1, .str ⟨#[c]⟩ t2], .cons ⟨_, rfl⟩ (.cons ⟨_, rfl⟩ .nil), ⟨o, ho, hoc, n, hod⟩⟩
    have I1 : Inv X pins σ (upd H T (.tup [.int (i : Nat), .str ⟨#[c]⟩])) { s with heap := h', toks := tk } :=
      I.turnedNew (t' := tk) (ch := [e, it]) (fun b ob hb q => hk b ob hb q) hf hT new
    refine ⟨.ref T, _, I1, rfl, ⟨T, c, rfl, I.hok.fresh hT, rfl, hc2⟩, st', fun b hb => ?_⟩
    have hbl : b ≠ T := fun z => by
      subst z
      obtain ⟨o', ho'⟩ : ∃ o', s.heap.get? b = some o' := by
        have e' : b = e ∨ b = it := by simpa using hb
        obtain ⟨⟨old, he⟩, ⟨o2, e2, _⟩⟩ := st
        rcases e' with q | q
        · rw [q]; exact ⟨_, he⟩
        · rw [q]; exact ⟨_, e2⟩
      exact absurd (Heap.lt_size ho') (Nat.not_lt.mpr hT)
    rw [upd_ne hbl]
    exact (hf b hb).1
  done := by
    intro X hP hw hK hc i pins s σ H E I hf st hg
    subst hP hw hK
    have hd : X.A.handled = none := I.ok.hd hc
    have W := GoesN.enumFrom (prog := X.prog) (w := X.w) (A := X.A) (elts := elts) (x1 := kk) (pos := tpos) 0 (Draws.text (A := X.A.in1) hd it x t) e hne (by simpa using hne) (by simp)
    have hg' : i = x.cps.size := hg
    subst hg'
    exact W.stops s (fun s1 => Inv X pins σ H s1) E st fun h' tk hk htk => I.turnedL (t' := tk) (ch := [e, it]) (fun b ob hb q => hk b ob hb q) hf
  self := fun A i s Q E st h => let ⟨⟨_, he⟩, _⟩ := st; wpAny_pyIter_enum he h
def iEnumS (ta : TA) : TI := fun σ H R => ta σ H fun vs H1 => ∃ x, vs = [.str x] ∧ R (IteS x) H1
theorem pi_enumS {X : Cx} {e : Expr} {ta : TA} {p pos tpos : Pos} {elts : List Expr} {kk : Nat} (hg : Gl X "enumerate") (hm : X.mg "enumerate" = none) (ha : PA X [e] ta) (hs : starEach [e] X.env = [(false, eval e X.env)] := by rfl) :
    PI X (.Tuple elts kk tpos) (.Call (.Name "enumerate" p) [e] [] pos) (iEnumS ta) := by
  refine ⟨fun pins s σ H R I h => ?_⟩
  refine Call_ (ld_blt I hg hm b_enumerate (PyProof.Rows.callWith_type1 (thn (ha.run pos pins s σ H _ I h) fun us s1 ⟨vs, H1, I1, r1, q1⟩ => ?_) hs rfl))
  obtain ⟨x, ex, q⟩ := q1
  subst ex
  cases r1 with
  | cons r rr =>
    cases rr
    obtain ⟨t, rfl⟩ := r
    refine call_enumerate_str fun h' he hit hsz hk => wpAny_pyIter_enum he ?_
    have I2 : Inv X pins σ H1 { s1 with heap := h' } := I1.kept (t' := s1.toks) hk
    refine ⟨s1.heap.objs.size + 1, [s1.heap.objs.size + 1, s1.heap.objs.size], _, _, H1, rfl, I2, turn_enumS (Nat.succ_ne_self _) (x := x) (t := t), ⟨⟨.none, he⟩, hit⟩, fun b hb => ?_, q⟩
    have e' : b = s1.heap.objs.size + 1 ∨ b = s1.heap.objs.size := by simpa using hb
    have hle : s1.heap.objs.size ≤ b := by
      rcases e' with z | z
      · rw [z]; exact Nat.le_add_right _ _
      · rw [z]; exact Nat.le_refl _
    exact I1.fpOk hle (I1.hok.fresh hle)

/-! the loops' rules -/
section
variable {K : PySem.W.Frag} {a : Addr} {xs : List V} {z : Str}
def sgn (z : Str) (i : Nat) : Option V := z.cps[i]?.map fun c => V.str ⟨#[c]⟩
theorem walk_zipS : Walk (ItzS K a z) (min xs.length z.cps.size) (fun H => SqL K H a xs) (YPair (fun i => xs[i]?) (sgn z)) := by
  refine ⟨fun i _ hi q => ?_, fun _ q => ⟨xs, q, rfl⟩, fun i H v H' _ q y => ?_⟩
  · have h1 : i < xs.length := by omega
    exact ⟨xs, xs[i], q, by simp [h1], by omega⟩
  · obtain ⟨T, x, c, h1, h2, h3, h4, h5⟩ := y
    exact ⟨T, x, .str ⟨#[c]⟩, h1, h2, h3, h4 xs q, by unfold sgn; rw [h5]; rfl⟩
theorem walk_enumS : Walk (IteS z) z.cps.size (fun _ => True) (YPair (fun i => some (.int (i : Nat))) (sgn z)) := by
  refine ⟨fun i _ hi _ => hi, fun _ _ => rfl, fun i H v H' _ _ y => ?_⟩
  obtain ⟨T, c, h1, h2, h3, h4⟩ := y
  exact ⟨T, .int (i : Nat), .str ⟨#[c]⟩, h1, h2, h3, rfl, by unfold sgn; rw [h4]; rfl⟩
theorem pair_ok {f g : Nat → Option V} {i : Nat} {H H' : Hp} {x : V} {d e : PyData} (y : YPair f g i H x H') (hf : ∀ u, f i = some u → Rp K H u d) (hg : ∀ u, g i = some u → Rp K H u e) : Same H H' ∧ Rp K H' x (.tuple [d, e]) := by
  obtain ⟨T, u, v, rfl, hT, rfl, h1, h2⟩ := y
  exact ⟨same_new hT, .tup upd_same (.cons ((hf u h1).mono (same_new hT)) (.cons ((hg v h2).mono (same_new hT)) .nil))⟩
theorem sgn_ok {H : Hp} {l : List Nat} {i : Nat} {u : V} (h : sgn (SX.S l) i = some u) : Rp K H u (.str (SX.S [l.getD i 0])) := by
  unfold sgn at h
  cases q : (SX.S l).cps[i]? with
  | none => rw [q] at h; cases h
  | some c =>
    rw [q] at h
    cases h
    exact rp_sign q
theorem get_ok {H : Hp} {ds : List PyData} {i : Nat} {u : V} (d1 : RpAll K H xs ds) (h : xs[i]? = some u) : Rp K H u (ds.getD i .none) := by
  obtain ⟨d, hd, r⟩ := RpAll.get' d1 h
  rw [getD_at hd]
  exact r
end
section
variable {X : Cx} {H0 : Hp} {env : En} {e e2 : Expr} {elts : List Expr} {kk : Nat} {p pos tpos : Pos}
theorem its_zipS {ds : List PyData} {l : List Nat} (hg : Gl X "zip") (hm : X.mg "zip" = none) (he : EvL X env e ds) (he2 : Ev X env e2 (.str (SX.S l))) (hf : fzs ds = true)
    (hs : starEach [e, e2] X.env = (false, eval e X.env) :: starEach [e2] X.env := by rfl) (hs2 : starEach [e2] X.env = (false, eval e2 X.env) :: starEach [] X.env := by rfl) (hpl : (backTo pos (starEach [e2] X.env)).any (·.1) = false := by rfl) :
    ItS X H0 env (.Tuple elts kk tpos) (.Call (.Name "zip" p) [e, e2] [] pos) (min ds.length l.length) (fun i => .tuple [ds.getD i .none, .str (SX.S [l.getD i 0])]) :=
  ⟨_, pi_zipS hg hm (pa_cons he (ea_cons he2 ea_nil hs2) hs) hs hpl, fun B σ H R S q => ⟨S.e, fun a vs H1 s1 hl h1 d1 => ⟨S.e.mono s1, fun us H2 s2 d2 => by
    cases d2 with
    | cons r rr =>
      cases rr
      cases r
      have s12 := s1.trans s2
      have hb : hide B H H2 a = some (.lst vs) := by
        rw [hide_at (by rw [hl]; exact id)]
        exact s2 _ _ h1
      have W := walk_zipS (K := X.K) (a := a) (xs := vs) (z := SX.S l)
      rw [RpAll.len d1, show (SX.S l).cps.size = l.length from SX.S_len l] at W
      refine ⟨a, _, vs, rfl, .of (s2 _ _ h1), q _ H2 (hide B H H2) _ _ s12 (S.hide s12) W (fun H' s => SqL.of (K := X.K) (s _ _ hb)) fun i H' x H'' hi sB hy => ?_⟩
      exact pair_ok hy (fun u hu => (get_ok (dkeeps (hide_keep s12) _ _ hf (d1.mono s2)) hu).mono sB) fun u hu => sgn_ok hu⟩⟩⟩
theorem its_enumS {l : List Nat} (hg : Gl X "enumerate") (hm : X.mg "enumerate" = none) (he : Ev X env e (.str (SX.S l))) (hs : starEach [e] X.env = [(false, eval e X.env)] := by rfl) :
    ItS X H0 env (.Tuple elts kk tpos) (.Call (.Name "enumerate" p) [e] [] pos) l.length (fun i => .tuple [.int (i : Nat), .str (SX.S [l.getD i 0])]) :=
  ⟨_, pi_enumS hg hm (ea_cons he ea_nil hs) hs, fun B σ H R S q => ⟨S.e, fun us H1 s1 d1 => by
    cases d1 with
    | cons r rr =>
      cases rr
      cases r
      have W := walk_enumS (z := SX.S l)
      rw [show (SX.S l).cps.size = l.length from SX.S_len l] at W
      refine ⟨_, rfl, q _ H1 B _ _ s1 (S.grow s1) W (fun _ _ => trivial) fun i H' x H'' hi sB hy => ?_⟩
      exact pair_ok hy (fun u hu => by cases hu; exact .int _) fun u hu => sgn_ok hu⟩⟩
theorem its_enumN {ds : List PyData} (hg : Gl X "enumerate") (hm : X.mg "enumerate" = none) (he : EvL X env e ds) (hf : fzs ds = true) (hs : starEach [e] X.env = [(false, eval e X.env)] := by rfl) (hs2 : starEach [e] X.env = (false, eval e X.env) :: starEach [] X.env := by rfl) :
    ItS X H0 env (.Tuple elts kk tpos) (.Call (.Name "enumerate" p) [e] [] pos) ds.length (fun i => .tuple [.int (i : Nat), ds.getD i .none]) :=
  ⟨_, pi_enum hg hm (pa_cons he ea_nil hs2) hs, fun B σ H R S q => ⟨S.e, fun a vs H1 s1 hl h1 d1 => ⟨S.e.mono s1, fun us H2 s2 d2 => by
    cases d2
    have s12 := s1.trans s2
    have hb : hide B H H2 a = some (.lst vs) := by
      rw [hide_at (by rw [hl]; exact id)]
      exact s2 _ _ h1
    have W := walk_enum (K := X.K) (a := a) (xs := vs)
    rw [RpAll.len d1] at W
    refine ⟨a, vs, rfl, .of (s2 _ _ h1), q _ H2 (hide B H H2) _ _ s12 (S.hide s12) W (fun H' s => SqL.of (K := X.K) (s _ _ hb)) fun i H' x H'' hi sB hy => ?_⟩
    exact pair_ok hy (fun u hu => by cases hu; exact .int _) fun u hu => (get_ok (dkeeps (hide_keep s12) _ _ hf (d1.mono s2)) hu).mono sB⟩⟩⟩
/-- enumerate(x), x a slot's data list -/
theorem its_enumV (j : Nat) {x : Str} {px : Pos} {ds : List PyData} (hg : Gl X "enumerate") (hm : X.mg "enumerate" = none) (hN : X.N[j]? = some x) (hv : Vis X.env.scope x) (hj : env[j]? = some (some (.d (.list ds)))) (hb : (x == ("__debug__" : Str)) = false := by decide) (hcd : (x == ("__classdict__" : Str)) = false := by decide)
    (hs : starEach [.Name x px] X.env = [(false, eval (.Name x px) X.env)] := by rfl) (hs2 : starEach [.Name x px] X.env = (false, eval (.Name x px) X.env) :: starEach [] X.env := by rfl) :
    ItS X H0 env (.Tuple elts kk tpos) (.Call (.Name "enumerate" p) [.Name x px] [] pos) ds.length (fun i => .tuple [.int (i : Nat), ds.getD i .none]) :=
  ⟨_, pi_enum hg hm (pa_cons (pe_var hN hv hb hcd) (ea_nil (env := env)) hs2) hs, fun B σ H R S q => by
    obtain ⟨v, h1, h2⟩ := S.sl j _ hj
    have h2 : Rp X.K B v (.list ds) := by
      rcases h2 with h | h
      · exact h
      · exact absurd h.1 (by simp [fz])
    cases h2 with
    | lst hs ha =>
      rename_i a vs
      refine ⟨_, h1, S.e, fun us H2 s2 d2 => ?_⟩
      cases d2
      have W := walk_enum (K := X.K) (a := a) (xs := vs)
      rw [RpAll.len ha] at W
      refine ⟨a, vs, rfl, (S.e1.trans s2).seq hs, q _ H2 B _ _ s2 (S.grow s2) W (fun H' s => s.seq hs) fun i H' x H'' hi sB hy => ?_⟩
      exact pair_ok hy (fun u hu => by cases hu; exact .int _) fun u hu => (get_ok ha hu).mono sB⟩
end
section
variable {X : Cx} {H0 : Hp} {env : En} {D : Ends} {rest body : List Stmt} {pos : Pos}
/-- for a, b in .. -/
theorem rs_for2 {x y : Str} {px py pt : Pos} {kt : Nat} {iter : Expr} {n : Nat} {u v : Nat → PyData} {i j : Nat} (E : Nat → En) (hi : nmIx x X.N 0 = some i) (hj : nmIx y X.N 0 = some j) (hN : X.N.Nodup) (hx : Loc X.env.scope x) (hy : Loc X.env.scope y) (hp : PassesOwn (model X.prog X.w) X.A X.env X.xe)
    (hI : ItS X H0 env (.Tuple [.Name x px, .Name y py] kt pt) iter n (fun i => .tuple [u i, v i]))
    (h0 : Le (E 0) env) (hit : ∀ i, i < n → fz (u i) = true ∧ fz (v i) = true)
    (turn : ∀ (m : Nat) (Hl : Hp) (D' : Ends), m < n → Same H0 Hl → D'.nx = NX X Hl (E (m + 1)) → D'.rt = D.rt → Run X Hl (((E m).set i (some (.d (u m)))).set j (some (.d (v m)))) body D')
    (done : Run X H0 (E n) rest D) (hc : X.calm = true := by rfl) (hfo : ∀ x, foldedSetIterable iter X.env x = pure x := by intro _; rfl)
    (hfx : X.fn x = true ∨ X.env.scope.names.lookup x = some .local := by first | exact .inl rfl | exact .inr rfl) (hfy : X.fn y = true ∨ X.env.scope.names.lookup y = some .local := by first | exact .inl rfl | exact .inr rfl)
    (h2 : (assignEach [.Name x px, .Name y py] X.env).map (·.2) = assign (.Name x px) X.env :: (assignEach [.Name y py] X.env).map (·.2) := by rfl)
    (h3 : (assignEach [.Name y py] X.env).map (·.2) = assign (.Name y py) X.env :: (assignEach [] X.env).map (·.2) := by rfl)
    (hn : (assignEach [.Name x px, .Name y py] X.env).length = 2 := by rfl) (hst : (assignEach [.Name x px, .Name y py] X.env).findIdx? (·.1) = none := by rfl) : Run X H0 env (.For (.Tuple [.Name x px, .Name y py] kt pt) iter body [] pos :: rest) D :=
  run_for E hp hc hI (pg_tup hc (pgs_cons (pg_name hN (nm0 hi) hx hfx) (pgs_cons (pg_name hN (nm0 hj) hy hfy) pgs_nil h3) h2) hn hst) (gs_tup2 (gs_name i) (gs_name j)) h0 (fun m hm => ⟨by have := hit m hm; simp [fz, fzs, this.1, this.2], ⟨_, _, rfl, trivial, trivial⟩⟩) turn done hfo
/-- for (a, b), c in .. -/
theorem rs_for21 {x y z : Str} {px py pz pt pt2 : Pos} {kt kt2 : Nat} {iter : Expr} {n : Nat} {u v w : Nat → PyData} {i j l : Nat} (E : Nat → En) (hi : nmIx x X.N 0 = some i) (hj : nmIx y X.N 0 = some j) (hl : nmIx z X.N 0 = some l) (hN : X.N.Nodup) (hx : Loc X.env.scope x) (hy : Loc X.env.scope y) (hz : Loc X.env.scope z) (hp : PassesOwn (model X.prog X.w) X.A X.env X.xe)
    (hI : ItS X H0 env (.Tuple [.Tuple [.Name x px, .Name y py] kt pt, .Name z pz] kt2 pt2) iter n (fun i => .tuple [.tuple [u i, v i], w i]))
    (h0 : Le (E 0) env) (hit : ∀ i, i < n → fz (u i) = true ∧ fz (v i) = true ∧ fz (w i) = true)
    (turn : ∀ (m : Nat) (Hl : Hp) (D' : Ends), m < n → Same H0 Hl → D'.nx = NX X Hl (E (m + 1)) → D'.rt = D.rt → Run X Hl ((((E m).set i (some (.d (u m)))).set j (some (.d (v m)))).set l (some (.d (w m)))) body D')
    (done : Run X H0 (E n) rest D) (hc : X.calm = true := by rfl) (hfo : ∀ x, foldedSetIterable iter X.env x = pure x := by intro _; rfl)
    (hfx : X.fn x = true ∨ X.env.scope.names.lookup x = some .local := by first | exact .inl rfl | exact .inr rfl) (hfy : X.fn y = true ∨ X.env.scope.names.lookup y = some .local := by first | exact .inl rfl | exact .inr rfl) (hfz : X.fn z = true ∨ X.env.scope.names.lookup z = some .local := by first | exact .inl rfl | exact .inr rfl)
    (h2 : (assignEach [.Name x px, .Name y py] X.env).map (·.2) = assign (.Name x px) X.env :: (assignEach [.Name y py] X.env).map (·.2) := by rfl)
    (h3 : (assignEach [.Name y py] X.env).map (·.2) = assign (.Name y py) X.env :: (assignEach [] X.env).map (·.2) := by rfl)
    (hn : (assignEach [.Name x px, .Name y py] X.env).length = 2 := by rfl) (hst : (assignEach [.Name x px, .Name y py] X.env).findIdx? (·.1) = none := by rfl)
    (g2 : (assignEach [.Tuple [.Name x px, .Name y py] kt pt, .Name z pz] X.env).map (·.2) = assign (.Tuple [.Name x px, .Name y py] kt pt) X.env :: (assignEach [.Name z pz] X.env).map (·.2) := by rfl)
    (g3 : (assignEach [.Name z pz] X.env).map (·.2) = assign (.Name z pz) X.env :: (assignEach [] X.env).map (·.2) := by rfl)
    (gn : (assignEach [.Tuple [.Name x px, .Name y py] kt pt, .Name z pz] X.env).length = 2 := by rfl) (gst : (assignEach [.Tuple [.Name x px, .Name y py] kt pt, .Name z pz] X.env).findIdx? (·.1) = none := by rfl) : Run X H0 env (.For (.Tuple [.Tuple [.Name x px, .Name y py] kt pt, .Name z pz] kt2 pt2) iter body [] pos :: rest) D :=
  run_for E hp hc hI (pg_tup hc (pgs_cons (pg_tup hc (pgs_cons (pg_name hN (nm0 hi) hx hfx) (pgs_cons (pg_name hN (nm0 hj) hy hfy) pgs_nil h3) h2) hn hst) (pgs_cons (pg_name hN (nm0 hl) hz hfz) pgs_nil g3) g2) gn gst) (gs_tup2 (gs_tup2 (gs_name i) (gs_name j)) (gs_name l)) h0 (fun m hm => ⟨by have := hit m hm; simp [fz, fzs, this.1, this.2], ⟨_, _, rfl, ⟨_, _, rfl, trivial, trivial⟩, trivial⟩⟩) turn done hfo
/-- for a, (b, c) in .. -/
theorem rs_for12 {x y z : Str} {px py pz pt pt2 : Pos} {kt kt2 : Nat} {iter : Expr} {n : Nat} {u v w : Nat → PyData} {i j l : Nat} (E : Nat → En) (hi : nmIx x X.N 0 = some i) (hj : nmIx y X.N 0 = some j) (hl : nmIx z X.N 0 = some l) (hN : X.N.Nodup) (hx : Loc X.env.scope x) (hy : Loc X.env.scope y) (hz : Loc X.env.scope z) (hp : PassesOwn (model X.prog X.w) X.A X.env X.xe)
    (hI : ItS X H0 env (.Tuple [.Name x px, .Tuple [.Name y py, .Name z pz] kt pt] kt2 pt2) iter n (fun i => .tuple [u i, .tuple [v i, w i]]))
    (h0 : Le (E 0) env) (hit : ∀ i, i < n → fz (u i) = true ∧ fz (v i) = true ∧ fz (w i) = true)
    (turn : ∀ (m : Nat) (Hl : Hp) (D' : Ends), m < n → Same H0 Hl → D'.nx = NX X Hl (E (m + 1)) → D'.rt = D.rt → Run X Hl ((((E m).set i (some (.d (u m)))).set j (some (.d (v m)))).set l (some (.d (w m)))) body D')
    (done : Run X H0 (E n) rest D) (hc : X.calm = true := by rfl) (hfo : ∀ x, foldedSetIterable iter X.env x = pure x := by intro _; rfl)
    (hfx : X.fn x = true ∨ X.env.scope.names.lookup x = some .local := by first | exact .inl rfl | exact .inr rfl) (hfy : X.fn y = true ∨ X.env.scope.names.lookup y = some .local := by first | exact .inl rfl | exact .inr rfl) (hfz : X.fn z = true ∨ X.env.scope.names.lookup z = some .local := by first | exact .inl rfl | exact .inr rfl)
    (h2 : (assignEach [.Name y py, .Name z pz] X.env).map (·.2) = assign (.Name y py) X.env :: (assignEach [.Name z pz] X.env).map (·.2) := by rfl)
    (h3 : (assignEach [.Name z pz] X.env).map (·.2) = assign (.Name z pz) X.env :: (assignEach [] X.env).map (·.2) := by rfl)
    (hn : (assignEach [.Name y py, .Name z pz] X.env).length = 2 := by rfl) (hst : (assignEach [.Name y py, .Name z pz] X.env).findIdx? (·.1) = none := by rfl)
    (g2 : (assignEach [.Name x px, .Tuple [.Name y py, .Name z pz] kt pt] X.env).map (·.2) = assign (.Name x px) X.env :: (assignEach [.Tuple [.Name y py, .Name z pz] kt pt] X.env).map (·.2) := by rfl)
    (g3 : (assignEach [.Tuple [.Name y py, .Name z pz] kt pt] X.env).map (·.2) = assign (.Tuple [.Name y py, .Name z pz] kt pt) X.env :: (assignEach [] X.env).map (·.2) := by rfl)
    (gn : (assignEach [.Name x px, .Tuple [.Name y py, .Name z pz] kt pt] X.env).length = 2 := by rfl) (gst : (assignEach [.Name x px, .Tuple [.Name y py, .Name z pz] kt pt] X.env).findIdx? (·.1) = none := by rfl) : Run X H0 env (.For (.Tuple [.Name x px, .Tuple [.Name y py, .Name z pz] kt pt] kt2 pt2) iter body [] pos :: rest) D :=
  run_for E hp hc hI (pg_tup hc (pgs_cons (pg_name hN (nm0 hi) hx hfx) (pgs_cons (pg_tup hc (pgs_cons (pg_name hN (nm0 hj) hy hfy) (pgs_cons (pg_name hN (nm0 hl) hz hfz) pgs_nil h3) h2) hn hst) pgs_nil g3) g2) gn gst) (gs_tup2 (gs_name i) (gs_tup2 (gs_name j) (gs_name l))) h0 (fun m hm => ⟨by have := hit m hm; simp [fz, fzs, this.1, this.2], ⟨_, _, rfl, trivial, ⟨_, _, rfl, trivial, trivial⟩⟩⟩) turn done hfo
end
end Sw

/-! sorted -/
namespace Sw
open PySem PySem.Spec PyProof.Rows L2
open PySem.W (EachIs AllAlike Sortable dataLe alike)
noncomputable def srt (ds : List PyData) : List PyData := ds.mergeSort (dataLe false id)
section
variable {K : PySem.W.Frag} {H : Hp}
theorem each_zip : ∀ {xs : List V} {us : List Value} {ds : List PyData}, Vals xs us → xs.length = ds.length → EachIs (fun (u : Value) (b : V × PyData) => RelV b.1 u) us (xs.zip ds)
  | _, _, [], .nil, _ => .nil
  | _, _, _ :: _, .cons h t, e => .cons h (each_zip t (by simpa using e))
  | _, _, _ :: _, .nil, e => by simp at e
  | _, _, [], .cons _ _, e => by simp at e
theorem vals_each : ∀ {us : List Value} {bs : List (V × PyData)}, EachIs (fun (u : Value) (b : V × PyData) => RelV b.1 u) us bs → Vals (bs.map (·.1)) us
  | _, _, .nil => .nil
  | _, _, .cons h t => .cons h (vals_each t)
theorem rp_zip : ∀ {xs : List V} {ds : List PyData}, RpAll K H xs ds → ∀ b ∈ xs.zip ds, Rp K H b.1 b.2
  | _, _, .nil, b, hb => by simp at hb
  | _, _, .cons h t, b, hb => by
    rw [List.zip_cons_cons, List.mem_cons] at hb
    rcases hb with rfl | hb
    · exact h
    · exact rp_zip t b hb
theorem rp_of_zip : ∀ {bs : List (V × PyData)}, (∀ b ∈ bs, Rp K H b.1 b.2) → RpAll K H (bs.map (·.1)) (bs.map (·.2))
  | [], _ => .nil
  | b :: bs, h => .cons (h b (List.mem_cons_self ..)) (rp_of_zip fun c hc => h c (List.mem_cons_of_mem _ hc))
theorem each_with {R S : Value → V × PyData → Prop} : ∀ {us : List Value} {bs : List (V × PyData)}, EachIs R us bs → (∀ b ∈ bs, ∀ u, R u b → S u b) → EachIs S us bs
  | _, _, .nil, _ => .nil
  | _, _, .cons h t, w => .cons (w _ (List.mem_cons_self ..) _ h) (each_with t fun b hb => w b (List.mem_cons_of_mem _ hb))
theorem rp_perm {xs : List V} {ds : List PyData} (h : RpAll K H xs ds) : ∃ ys : List V, ys.length = xs.length ∧ RpAll K H ys (srt ds) ∧ ys = ((xs.zip ds).mergeSort (dataLe false (·.2))).map (·.1) := by
  have hl := RpAll.len h
  refine ⟨_, ?_, ?_, rfl⟩
  · rw [List.length_map, List.length_mergeSort, List.length_zip]
    omega
  · have hm : ∀ b ∈ (xs.zip ds).mergeSort (dataLe false (·.2)), Rp K H b.1 b.2 := fun b hb => rp_zip h b (List.mem_mergeSort.mp hb)
    have r := rp_of_zip hm
    have e : ((xs.zip ds).mergeSort (dataLe false (·.2))).map (·.2) = srt ds := by
      unfold srt
      have h2 := List.map_mergeSort (r := dataLe false (fun b : V × PyData => b.2)) (s := dataLe false id) (f := fun b : V × PyData => b.2) (l := xs.zip ds) (fun a _ b _ => rfl)
      rw [List.map_snd_zip (by omega)] at h2
      exact h2
    rwa [e] at r
end
section
variable {X : Cx} {pins : List (Addr × Obj)} {σ : L2.St} {H : Hp} {s : Shared}
/-- sorted(r), r's items laid in a row first -/
theorem sorted_core {r : Value} {xs : List V} {ds : List PyData} {Q : VK} (I : Inv X pins σ H s) (hd : RpAll X.K H xs ds) (hal : AllAlike ds) (hk : Sortable ds) (hL : ds.length ≤ sizeLine) (hu : ∀ d ∈ ds, X.A.units + 2 + d.depth < cLine)
    (hcol : ∀ (R : List Value → Shared → Prop) (E : Value → Shared → Prop), (∀ h' tk us, (∀ b o, s.heap.get? b = some o → h'.get? b = some o) → Vals xs us → R us { s with heap := h', toks := tk }) → wpAny (model X.prog X.w) X.A.in1 (collect r) R E s)
    (q : ∀ ys p, RpAll X.K H ys (srt ds) → H p = none → Q (.ref p) (upd H p (.lst ys))) :
    wpAny (model X.prog X.w) X.A (call (.builtin "sorted") [r]) (EP X pins σ Q) X.xe s := by
  refine Calls.call_function_entry PyProof.Rows.kind_sorted PyProof.Rows.plain_sorted PyProof.Rows.entry_sorted (PyProof.Rows.args_sorted1 _) ?_
  unfold Builtin.«sorted»
  refine wpAny_bind (m := checkCount "sorted" 1 1 _) (wpAny_pure ?_)
  refine wpAny_bind (hcol _ _ fun h' tk us hkp hv => ?_)
  have I1 : Inv X pins σ H { s with heap := h', toks := tk } := I.kept hkp
  have hl : us.length = ds.length := by rw [← hv.length, RpAll.len hd]
  refine wpAny_bind (wpAny_newList ?_ (by rw [hl]; exact hL))
  have hoL : (h'.push (seqObj "list" us.toArray 0)).get? h'.objs.size = some (seqObj "list" us.toArray 0) := Heap.get?_push_size _ rfl
  show wpAny _ _ _ _ _ { s with heap := h'.push (seqObj "list" us.toArray 0), toks := tk }
  have ez := each_zip hv (RpAll.len hd)
  have hz2 : (xs.zip ds).map (·.2) = ds := List.map_snd_zip (by rw [RpAll.len hd]; exact Nat.le_refl _)
  have hr0 : EachIs (fun (u : Value) (b : V × PyData) => ∃ as, Reads h' u b.2 as) us (xs.zip ds) := each_with ez fun b hb u hu => Dp.reads I1 b.2 b.1 u (rp_dp _ _ (rp_zip hd b hb)) hu
  have old : ∀ b o, h'.get? b = some o → (PySem.W.sortingHeap (h'.push (seqObj "list" us.toArray 0)) h'.objs.size us).get? b = some o := fun b o e =>
    PySem.W.sortingHeap_old (Nat.ne_of_lt (Heap.lt_size e)) (Heap.get?_push_of_some _ e)
  have hr1 : EachIs (fun (u : Value) (b : V × PyData) => ∃ as, Reads (PySem.W.sortingHeap (h'.push (seqObj "list" us.toArray 0)) h'.objs.size us) u b.2 as) us (xs.zip ds) := hr0.mono fun _ _ ⟨as, r⟩ => ⟨as, PyProof.Rows.Reads.keeps old r⟩
  have hal2 : AllAlike ((xs.zip ds).map (·.2)) := by rw [hz2]; exact hal
  have hk2 : Sortable ((xs.zip ds).map (·.2)) := by rw [hz2]; exact hk
  have S := PySem.W.SortsAt.data (prog := X.prog) (w := X.w) (A := X.A.in1.in1) (s := { s with heap := PySem.W.sortingHeap (h'.push (seqObj "list" us.toArray 0)) h'.objs.size us, toks := tk }) (PySem.W.each_map (R := fun v d => ∃ as, Reads (PySem.W.sortingHeap (h'.push (seqObj "list" us.toArray 0)) h'.objs.size us) v d as) (fun b : V × PyData => b.2) hr1) hal2 hk2 (by rw [hz2]; exact hu)
  refine wpAny_bind (wpAny_holding (wpAny_call_entry PyProof.Rows.slot_list_sort ⟨_, hoL, rfl⟩ PyProof.Rows.entry_list_sort
    (PySem.W.list_sort_vals (s := { s with heap := h'.push (seqObj "list" us.toArray 0), toks := tk }) hoL S (by rw [hl]; exact hL) ⟨_, rfl, ?_⟩) (PyProof.Rows.args_list_sort _)))
  have ho := PySem.W.sortVals_data (h' := PySem.W.sortingHeap (h'.push (seqObj "list" us.toArray 0)) h'.objs.size us) (enc := fun b : V × PyData => b.2) false ez hr1 hal2
  generalize PySem.W.sortVals _ false us us = out at ho ⊢
  have hvo := vals_each ho
  obtain ⟨ys, yl, yr, ye⟩ := rp_perm hd
  rw [← ye] at hvo
  obtain ⟨e', he'⟩ := PyProof.Rows.sortedHeap_at (vs := us) (out := out.toArray) hoL
  have hlen : ys.length ≤ sizeLine := by rw [yl, RpAll.len hd]; exact hL
  refine wpAny_pure ⟨_, rfl, .ref h'.objs.size, upd H h'.objs.size (.lst ys), I1.laid (t' := tk) (fun b u e => ?_) (Nat.le_refl _)
    (show ObjOk X.prog X.w _ _ _ (.lst ys) from ⟨hlen, out, e', hvo, he'⟩), rfl, q ys _ yr (I1.hok.fresh (Nat.le_refl _))⟩
  have hb : b < h'.objs.size := Heap.lt_size e
  rw [PyProof.Rows.sortedHeap_old (Nat.ne_of_lt hb) (by rw [size_push']; exact Nat.lt_succ_of_lt hb)]
  exact Heap.get?_push_of_some _ e
end
section
variable {X : Cx} {k : Nat}
theorem room_depth (hr : Room k X.A) {d : PyData} (h : d.depth ≤ 60) : X.A.units + 2 + d.depth < cLine := by
  have := hr.units
  omega
theorem call_sortedL {ds : List PyData} (hr : Room k X.A) (hal : AllAlike ds) (hk : Sortable ds) (hL : ds.length ≤ 1000000) (hu : ∀ d ∈ ds, d.depth ≤ 60) : CallL X (.builtin "sorted") [.list ds] (srt ds) := by
  refine ⟨fun vs H Q => ∃ a xs, vs = [.ref a] ∧ SqL X.K H a xs ∧ RpAll X.K H xs ds ∧ ∀ ys p, RpAll X.K H ys (srt ds) → H p = none → Q (.ref p) (upd H p (.lst ys)), ?_, ?_⟩
  · intro pins s σ H vs us Q I r h
    obtain ⟨a, xs, rfl, hs, hx, q⟩ := h
    obtain ⟨its, rv, hl, hz⟩ := I.list hs
    obtain ⟨u, rfl, ru⟩ := vals1 r
    obtain rfl : u = Value.ref a := ru
    have hL2 : its.length ≤ sizeLine := by
      rw [← rv.length]
      exact hz
    exact sorted_core I hx hal hk (by rw [← RpAll.len hx]; exact hz) (fun d hd => room_depth hr (hu d hd)) (fun R E hR => collect_list hl.isList (hR _ s.toks its (fun b o e => by
      rw [Heap.get?_update_ne _ _ _ _ (Nat.ne_of_lt (Heap.lt_size e))]
      exact Heap.get?_push_of_some _ e) rv) hL2) q
  · intro H vs Q d q
    cases d with
    | cons a b =>
      cases b
      cases a with
      | lst hs ha =>
        exact ⟨_, _, rfl, hs, ha, fun ys p hy hp => q p ys _ (same_new hp) hp upd_same (hy.mono (same_new hp))⟩
theorem call_sortedS {l : List Nat} (hr : Room k X.A) (hc : X.calm = true) (hL : l.length ≤ 1000000) : CallL X (.builtin "sorted") [.str (SX.S l)] (srt (l.map fun c => .str (SX.S [c]))) := by
  refine ⟨fun vs H Q => vs = [.str (SX.S l)] ∧ ∀ ys p, RpAll X.K H ys (srt (l.map fun c => .str (SX.S [c]))) → H p = none → Q (.ref p) (upd H p (.lst ys)), ?_, ?_⟩
  · intro pins s σ H vs us Q I r h
    obtain ⟨rfl, q⟩ := h
    obtain ⟨u, rfl, ru⟩ := vals1 r
    obtain ⟨t, rfl⟩ := ru
    have hx : RpAll X.K H ((l.map fun c => SX.S [c]).map V.str) (l.map fun c => .str (SX.S [c])) := by
      have := RpAll.strs (K := X.K) (H := H) (l.map fun c => SX.S [c])
      rw [List.map_map (f := fun c => SX.S [c]) (g := PyData.str)] at this
      exact this
    have hd : X.A.in1.handled = none := I.ok.hd hc
    have hsz : l.length ≤ sizeLine := Nat.le_trans hL (by decide)
    refine sorted_core I hx (fun d hd d' hd' => ?_) (.inr fun d hd => ?_) (by rw [List.length_map]; exact hsz) (fun d hd => room_depth hr ?_) (fun R E hR => ?_) q
    · obtain ⟨c, _, rfl⟩ := List.mem_map.mp hd
      obtain ⟨c', _, rfl⟩ := List.mem_map.mp hd'
      rfl
    · obtain ⟨c, _, rfl⟩ := List.mem_map.mp hd
      exact ⟨(fun z => by cases z), fun xs z => by cases z⟩
    · obtain ⟨c, _, rfl⟩ := List.mem_map.mp hd
      simp [PyData.depth]
    · refine wpAny_collect_str hd (SX.S l) t (fun s' acc hk hg hdr ho hit => ?_) (by rw [show (SX.S l).cps.size = l.length from SX.S_len l]; exact hsz)
      obtain ⟨h1, h2⟩ := hit
      have es : s' = { s with heap := s'.heap, toks := s'.toks } := by
        cases s'
        cases s
        simp only at hg hdr ho
        subst hg hdr ho
        rfl
      rw [es]
      refine hR _ _ _ hk ?_
      have key : ∀ (m : List Nat) (as : List Value), as.length = m.length → (∀ (j : Nat) (v : Value), as[j]? = some v → ∃ c u, m[j]? = some c ∧ v = .str ⟨#[c]⟩ u) → Vals ((m.map fun c => SX.S [c]).map V.str) as := by
        intro m
        induction m with
        | nil =>
          intro as e _
          rw [List.length_nil] at e
          rw [List.eq_nil_of_length_eq_zero e]
          exact .nil
        | cons c m ih =>
          intro as e h
          cases as with
          | nil => simp at e
          | cons a as =>
            obtain ⟨c', u, e1, e2⟩ := h 0 a rfl
            have e1' : c = c' := by simpa using e1
            subst e1' e2
            exact .cons ⟨u, rfl⟩ (ih as (by simpa using e) fun j v hj => by
              obtain ⟨c', u, e1, e2⟩ := h (j + 1) v (by simpa using hj)
              exact ⟨c', u, by simpa using e1, e2⟩)
      refine key l acc.toList (by rw [Array.length_toList, h1]; exact SX.S_len l) fun j v hj => ?_
      obtain ⟨c, u, e1, e2⟩ := h2 j v (by rw [← Array.getElem?_toList]; exact hj)
      exact ⟨c, u, by simpa using e1, e2⟩
  · intro H vs Q d q
    cases d with
    | cons a b =>
      cases b
      cases a
      exact ⟨rfl, fun ys p hy hp => q p ys _ (same_new hp) hp upd_same (hy.mono (same_new hp))⟩
end
section
variable {X : Cx} {env : En} {e : Expr} {es : List Expr} {pos p : Pos}
theorem evl_callB {x : Str} {id : String} {ds zs : List PyData} (hc : CallL X (.builtin id) ds zs) (hg : Gl X x) (hm : X.mg x = none) (hv : bootBuiltins x = some (.builtin id)) (ha : EvA X env (e :: es) ds)
    (hn : x ≠ "__name__" := by decide) (hdb : (x == ("__debug__" : Str)) = false := by decide)
    (hs : starEach (e :: es) X.env = (false, eval e X.env) :: starEach es X.env := by rfl) (hpl : (backTo pos (starEach es X.env)).any (·.1) = false := by rfl) : EvL X env (.Call (.Name x p) (e :: es) [] pos) zs := by
  obtain ⟨r, ho, hd⟩ := hc
  exact wkE (pe_callB ho hg hm hv ha hn hdb hs hpl) fun σ H Q ⟨he, q⟩ => ⟨he, fun vs H1 s1 d1 => hd H1 vs Q d1 fun l us H2 s2 hl h2 d2 => q l us H2 (s1.trans s2) (s1.free hl) h2 d2⟩
end
end Sw

/-! in a list; range with a step; more of texts -/
namespace Sw
open PySem PySem.Spec PyProof.Rows L2
section
variable {X : Cx}
theorem any_eqv {d : PyData} {ds : List PyData} (h : pl 9 d = true) (g : pls 8 ds = true) : (ds.any fun z => PyData.eqv z d) = true ↔ d ∈ ds := by
  have key : ∀ es : List PyData, pls 8 es = true → ((es.any fun z => PyData.eqv z d) = true ↔ d ∈ es) := by
    intro es
    induction es with
    | nil => simp
    | cons e es ih =>
      intro hg
      simp only [pls, Bool.and_eq_true] at hg
      rw [List.any_cons, Bool.or_eq_true, ih hg.2, List.mem_cons, pl_eqv e d 8 9 hg.1 h]
      exact or_congr_left eq_comm
  exact key ds g
theorem cmp_inD {d : PyData} {ds : List PyData} {b : Bool} {k : Nat} (hr : Room k X.A) (h : pl 9 d = true) (g : pl 9 (.list ds) = true) (hb : b = true ↔ d ∈ ds) : Cmp X .In d (.list ds) b := ⟨_, op_inD (by have := hr.un; omega), fun H v u Q d1 d2 q => by
  refine ⟨d, ds, rp_dp _ _ d1, rp_dp _ _ d2, pl_shaped h (by decide), pl_shaped g (by decide), ?_⟩
  have e1 : (ds.any fun z => PyData.eqv z d) = b := by
    rw [Bool.eq_iff_iff, any_eqv h g, hb]
  rw [e1]
  exact q _ H (Same.refl H) (.bl _)⟩
end
section
variable {X : Cx} {H0 : Hp} {env : En} {e e2 e3 tg : Expr} {p pos : Pos}
theorem rgC_of {i j c : Int} (h : 0 < c ∧ c < 1000000) (hi : -1000000000 ≤ i ∧ i ≤ 1000000000) (hj : -1000000000 ≤ j ∧ j ≤ 1000000000) : ∃ n : Nat, RgC i j c n ∧ (∀ m : Nat, m < n → i + m * c < j) ∧ n ≤ (j - i).toNat := by
  have e : Builtin.Range.rangeSize i j c = if i < j then (j - i - 1) / c + 1 else 0 := by
    unfold Builtin.Range.rangeSize
    rw [if_pos h.1]
  have hq : i < j → 0 ≤ (j - i - 1) / c ∧ (j - i - 1) / c ≤ j - i - 1 := fun hlt => by
    have h1 : 0 ≤ (j - i - 1) / c := Int.ediv_nonneg (by omega) (by omega)
    have h2 : (j - i - 1) / c ≤ j - i - 1 := Int.ediv_le_self _ (by omega)
    exact ⟨h1, h2⟩
  by_cases hlt : i < j
  · obtain ⟨q1, q2⟩ := hq hlt
    refine ⟨((j - i - 1) / c + 1).toNat, ⟨by omega, by omega, ?_, ?_⟩, fun m hm => ?_, by omega⟩
    · unfold Builtin.Range.small
      rw [e, if_pos hlt]
      simp only [Builtin.Range.rangeFitsLong, Bool.and_eq_true, Bool.or_eq_true, decide_eq_true_eq, beq_iff_eq, show c > 0 from h.1, if_true]
      have : (j - i - 1) / c * c ≤ j - i - 1 := Int.ediv_mul_le _ (by omega)
      have h3 : 0 ≤ (j - i - 1) / c * c := Int.mul_nonneg q1 (by omega)
      have h4 : ((j - i - 1) / c + 1) * c = (j - i - 1) / c * c + c := by rw [Int.add_mul, Int.one_mul]
      refine ⟨⟨?_, ?_⟩, ?_⟩ <;> omega
    · rw [e, if_pos hlt]
      omega
    · have h5 : (m : Int) ≤ (j - i - 1) / c := by omega
      have h6 : (m : Int) * c ≤ (j - i - 1) / c * c := Int.mul_le_mul_of_nonneg_right h5 (by omega)
      have h7 : (j - i - 1) / c * c ≤ j - i - 1 := Int.ediv_mul_le _ (by omega)
      omega
  · refine ⟨0, ⟨by omega, by omega, ?_, ?_⟩, fun m hm => absurd hm (Nat.not_lt_zero _), Nat.zero_le _⟩
    · unfold Builtin.Range.small
      rw [e, if_neg hlt]
      simp only [Builtin.Range.rangeFitsLong, Bool.and_eq_true, Bool.or_eq_true, decide_eq_true_eq, beq_iff_eq, show c > 0 from h.1, if_true]
      refine ⟨⟨?_, ?_⟩, ?_⟩ <;> omega
    · rw [e, if_neg hlt]
      rfl
theorem its_range3 {i j c : Int} {n : Nat} (hg : Gl X "range") (hm : X.mg "range" = none) (he : Ev X env e (.int i)) (he2 : Ev X env e2 (.int j)) (he3 : Ev X env e3 (.int c)) (hn : RgC i j c n)
    (hs : starEach [e, e2, e3] X.env = (false, eval e X.env) :: starEach [e2, e3] X.env := by rfl) (hs2 : starEach [e2, e3] X.env = (false, eval e2 X.env) :: starEach [e3] X.env := by rfl) (hs3 : starEach [e3] X.env = (false, eval e3 X.env) :: starEach [] X.env := by rfl) (hpl : (backTo pos (starEach [e2, e3] X.env)).any (·.1) = false := by rfl) :
    ItS X H0 env tg (.Call (.Name "range" p) [e, e2, e3] [] pos) n (fun m => .int (i + (m : Nat) * c)) := ⟨_, pi_range3 hg hm (ea_cons he (ea_cons he2 (ea_cons he3 ea_nil hs3) hs2) hs) hs hpl, fun B σ H R S q => ⟨S.e, fun vs H1 s1 d1 => by
  cases d1 with
  | cons a b =>
    cases b with
    | cons b d =>
      cases d with
      | cons d x =>
        cases x
        cases a
        cases b
        cases d
        refine ⟨i, j, c, n, rfl, hn, q _ H1 B _ _ s1 (S.grow s1) walk_rangeC (fun _ _ => trivial) fun m H' x H'' hi sB hy => ?_⟩
        obtain ⟨rfl, rfl⟩ := hy
        exact ⟨Same.refl _, .int _⟩⟩⟩
end
end Sw

namespace Sw
open PySem PySem.Spec PyProof.Rows L2
local macro_rules | `(tactic| walk_at "vis") => `(tactic| first | exact .inl rfl | exact .inr (.inl rfl) | exact .inr (.inr rfl))
local macro_rules | `(tactic| walk_at "loc") => `(tactic| first | exact .inl rfl | exact .inr rfl)
local macro_rules | `(tactic| walk_at "str") => `(tactic| first | with_reducible exact s_ | with_reducible exact s_n | with_reducible exact s_w | with_reducible exact s_s | with_reducible exact s_e | with_reducible exact s_ns | with_reducible exact s_nwse | with_reducible exact s_nesw)
local macro_rules | `(tactic| walk_at "len") => `(tactic| first | omega | (simp; done) | (simp; omega))
local macro_rules | `(tactic| walk_at "bin") => `(tactic| first | with_reducible exact bin_addI | with_reducible exact bin_subI | with_reducible exact bin_modI (by omega) | with_reducible exact bin_addW (by walk_at "len"))
local macro_rules | `(tactic| walk_at "cmp") => `(tactic| first | with_reducible exact cmp_eqI | with_reducible exact cmp_neI | with_reducible exact cmp_eqW | with_reducible exact cmp_neW | with_reducible exact cmp_eqLn | with_reducible exact cmp_eqLw | with_reducible exact cmp_eqLs | with_reducible exact cmp_eqLe | with_reducible exact cmp_neLn | with_reducible exact cmp_neLw | with_reducible exact cmp_neLs | with_reducible exact cmp_neLe | with_reducible exact cmp_eqW0 | with_reducible exact cmp_neW0 | with_reducible exact cmp_eqL | with_reducible exact cmp_neL | with_reducible exact cmp_eqS | with_reducible exact cmp_neS | with_reducible exact cmp_ltI | with_reducible exact cmp_leI | with_reducible exact cmp_gtI | with_reducible exact cmp_geI | with_reducible exact cmp_inL | with_reducible exact cmp_inS)
local macro_rules | `(tactic| walk_at "mark") => `(tactic| first | exact nomark _ | rfl)
local macro_rules | `(tactic| walk_at "ea") => `(tactic| first | with_reducible exact ea_nil | (refine' ea_cons ?e ?r; (case e => walk_at "ev"); (case r => walk_at "ea")))
local macro_rules | `(tactic| walk_at "el") => `(tactic| first
  | (refine' evl_call (by assumption) (by assumption) (by decide) rfl ?a ?r; (case a => walk_at "ea"); (case r => walk_at "rel"))
  | (refine' evl_lst ?a ?l; (case a => walk_at "ea"); (case l => simp)))
local macro_rules | `(tactic| walk_at "ev") => `(tactic| first
  | with_reducible exact ev_int
  | (refine' ev_nm rfl ?v rfl rfl; (case v => walk_at "vis"))
  | (refine' ev_strS ?h; (case h => walk_at "str"))
  | (refine' ev_tup ?a ?l; (case a => walk_at "ea"); (case l => simp))
  | (refine' ev_bin ?a ?b ?r; (case a => walk_at "ev"); (case b => walk_at "ev"); (case r => walk_at "bin"))
  | (refine' ev_un ?a ?r; (case a => walk_at "ev"); (case r => exact un_negI))
  | (refine' ev_call (by assumption) (by assumption) (by decide) rfl ?a ?r; (case a => walk_at "ea"); (case r => walk_at "rel"))
  | (refine' ev_callB ?c rfl ?m ?b ?a; (case b => walk_at "boot"); (case a => walk_at "ea"); (case m => walk_at "blt"); (case c => walk_at "call"))
  | (refine' ev_isi ?e rfl ?m rfl ?n ?b ?t ?k; (case b => walk_at "boot"); (case e => walk_at "ev"); (case m => walk_at "blt"); (case n => walk_at "blt"); (case t => walk_at "ty"); (case k => walk_at "kit"))
  | (refine' ev_m1 PySem.F.slot_str_count PySem.F.type_str_count ?m ?t ?o ?e; (case o => walk_at "ev"); (case t => walk_at "ty"); (case e => walk_at "ev"); (case m => first | with_reducible exact mt_countWn | with_reducible exact mt_countWw | with_reducible exact mt_countWs | with_reducible exact mt_countWe))
  | (refine' ev_m1 PySem.F.slot_str_index PySem.F.type_str_index ?m ?t ?o ?e; (case o => walk_at "ev"); (case t => walk_at "ty"); (case e => walk_at "ev"); (case m => exact mt_indexW))
  | (refine' ev_m1 PySem.F.slot_str_strip PySem.F.type_str_strip ?m ?t ?o ?e; (case o => walk_at "ev"); (case t => walk_at "ty"); (case e => walk_at "ev"); (case m => exact mt_stripW (by walk_at "len")))
  | (refine' ev_ix ?a ?b ?r; (case a => walk_at "ev"); (case b => walk_at "ev"); (case r => walk_at "ix"))
  | (refine' EvL.d ?a; (case a => walk_at "el"))
  | exact ev_globS rfl (by assumption)
  | with_reducible exact ev_bl | with_reducible exact ev_non)
local macro_rules | `(tactic| walk_at "blt") => `(tactic| first
  | exact Blt.isinstance (by assumption) | exact Blt.int (by assumption) | exact Blt.bool (by assumption) | exact Blt.str (by assumption) | exact Blt.list (by assumption) | exact Blt.tuple (by assumption) | exact Blt.range (by assumption) | exact Blt.len (by assumption) | exact Blt.sum (by assumption) | exact Blt.abs (by assumption) | exact Blt.min (by assumption) | exact Blt.all (by assumption) | exact Blt.any (by assumption) | exact Blt.sorted (by assumption) | exact Blt.set (by assumption) | exact Blt.enumerate (by assumption) | exact Blt.zip (by assumption) | exact Blt.reversed (by assumption))
local macro_rules | `(tactic| walk_at "call") => `(tactic| first | exact ev_lenW (by walk_at "len") | exact call_lenL | exact call_lenT | exact call_absI | exact call_minI rfl | exact call_sumI rfl)
local macro_rules | `(tactic| walk_at "et") => `(tactic| (refine' EvT.is ?a ?b; (case a => walk_at "et0"); (case b => rfl)))
local macro_rules | `(tactic| walk_at "evg") => `(tactic| (refine' Ev.is ?a ?b; (case a => walk_at "ev"); (case b => rfl)))
local macro_rules | `(tactic| walk_at "et0") => `(tactic| first
  | (refine' et_not ?a; (case a => walk_at "et0"))
  | (refine' et_cmp ?a ?b ?r ?m; (case a => walk_at "ev"); (case b => walk_at "ev"); (case r => walk_at "cmp"); (case m => walk_at "mark"))
  | (refine' et_val ?a ?h; (case a => walk_at "ev"); (case h => (intro _; rfl))))
local macro_rules | `(tactic| walk_at "boot") => `(tactic| first | with_reducible exact b_int | with_reducible exact b_bool | with_reducible exact b_str | with_reducible exact b_list | with_reducible exact b_tuple | with_reducible exact b_range | with_reducible exact b_set | with_reducible exact b_enumerate | with_reducible exact b_zip | with_reducible exact b_reversed | with_reducible exact b_isinstance | with_reducible exact b_len | with_reducible exact b_sum | with_reducible exact b_abs | with_reducible exact b_min | with_reducible exact b_all | with_reducible exact b_any | with_reducible exact b_sorted)
local macro_rules | `(tactic| walk_at "ix") => `(tactic| first | exact ix_lett)
local macro_rules | `(tactic| walk_at "kit") => `(tactic| first | with_reducible exact k_int_int | with_reducible exact k_int_bool | with_reducible exact k_int_str | with_reducible exact k_int_list | with_reducible exact k_int_tuple | with_reducible exact k_bool_int | with_reducible exact k_bool_bool | with_reducible exact k_bool_str | with_reducible exact k_bool_list | with_reducible exact k_bool_tuple | with_reducible exact k_str_int | with_reducible exact k_str_bool | with_reducible exact k_str_str | with_reducible exact k_str_list | with_reducible exact k_str_tuple | with_reducible exact k_list_int | with_reducible exact k_list_bool | with_reducible exact k_list_str | with_reducible exact k_list_list | with_reducible exact k_list_tuple | with_reducible exact k_tuple_int | with_reducible exact k_tuple_bool | with_reducible exact k_tuple_str | with_reducible exact k_tuple_list | with_reducible exact k_tuple_tuple | with_reducible exact k_NoneType_int | with_reducible exact k_NoneType_bool | with_reducible exact k_NoneType_str | with_reducible exact k_NoneType_list | with_reducible exact k_NoneType_tuple)
local macro_rules | `(tactic| walk_at "ty") => `(tactic| first | with_reducible exact ty_int | with_reducible exact ty_W | with_reducible exact ty_ptD | with_reducible exact ty_bool | with_reducible exact ty_str | with_reducible exact ty_list | with_reducible exact ty_tuple | with_reducible exact ty_none)
local macro_rules | `(tactic| walk_at "rel") => `(tactic| first | exact ⟨_, by walk_at "len", rfl, rfl⟩ | exact ⟨_, _, by walk_at "len", rfl, rfl⟩ | exact ⟨_, rfl, rfl⟩ | exact ⟨_, _, rfl, rfl⟩)
def topS (i : Nat) : Stmt := PySem.Challenge.pw_squarewalk_k05_whole_between.main.body.getD i (.Pass ⟨0, 0, 0, 0⟩)
abbrev s_asked_walk : Stmt := topS 6
theorem sc_asked_walk : FnScope ["walk"] ["walk"] (defScope s_asked_walk) := ⟨rfl, rfl, rfl, by decide +kernel, rfl, by decide +kernel, by decide +kernel⟩
abbrev s_stepped : Stmt := topS 7
theorem sc_stepped : FnScope ["place", "letter", "x", "y"] ["place", "letter"] (defScope s_stepped) := ⟨rfl, rfl, rfl, by decide +kernel, rfl, by decide +kernel, by decide +kernel⟩
abbrev s_walked : Stmt := topS 8
theorem sc_walked : FnScope ["walk", "found", "letter"] ["walk"] (defScope s_walked) := ⟨rfl, rfl, rfl, by decide +kernel, rfl, by decide +kernel, by decide +kernel⟩
abbrev s_end : Stmt := topS 9
theorem sc_end : FnScope ["walk"] ["walk"] (defScope s_end) := ⟨rfl, rfl, rfl, by decide +kernel, rfl, by decide +kernel, by decide +kernel⟩
abbrev s_asked_closed : Stmt := topS 10
theorem sc_asked_closed : FnScope ["walk"] ["walk"] (defScope s_asked_closed) := ⟨rfl, rfl, rfl, by decide +kernel, rfl, by decide +kernel, by decide +kernel⟩
abbrev s_turned : Stmt := topS 11
theorem sc_turned : FnScope ["walk", "by", "letter"] ["walk", "by"] (defScope s_turned) := ⟨rfl, rfl, rfl, by decide +kernel, rfl, by decide +kernel, by decide +kernel⟩
abbrev s_back : Stmt := topS 12
theorem sc_back : FnScope ["walk"] ["walk"] (defScope s_back) := ⟨rfl, rfl, rfl, by decide +kernel, rfl, by decide +kernel, by decide +kernel⟩
abbrev s_area_of : Stmt := topS 14
theorem sc_area_of : FnScope ["walk", "found", "x", "y", "letter"] ["walk"] (defScope s_area_of) := ⟨rfl, rfl, rfl, by decide +kernel, rfl, by decide +kernel, by decide +kernel⟩
abbrev s_area : Stmt := topS 15
theorem sc_area : FnScope ["walk"] ["walk"] (defScope s_area) := ⟨rfl, rfl, rfl, by decide +kernel, rfl, by decide +kernel, by decide +kernel⟩
abbrev s_between : Stmt := topS 16
theorem sc_between : FnScope ["one", "other"] ["one", "other"] (defScope s_between) := ⟨rfl, rfl, rfl, by decide +kernel, rfl, by decide +kernel, by decide +kernel⟩
abbrev s__law_walk : Stmt := topS 18
theorem sc__law_walk : FnScope ["_law_cells", "_law_cell"] ["_law_cells"] (defScope s__law_walk) := ⟨rfl, rfl, rfl, by decide +kernel, rfl, by decide +kernel, by decide +kernel⟩
abbrev s__law_places : Stmt := topS 19
theorem sc__law_places : FnScope ["_law_walk_here", "_law_found", "_law_letter", "_law_x", "_law_y", "_law_along", "_law_up"] ["_law_walk_here"] (defScope s__law_places) := ⟨rfl, rfl, rfl, by decide +kernel, rfl, by decide +kernel, by decide +kernel⟩
abbrev s__law_turned : Stmt := topS 20
theorem sc__law_turned : FnScope ["_law_walk_here", "_law_by", "_law_letter"] ["_law_walk_here", "_law_by"] (defScope s__law_turned) := ⟨rfl, rfl, rfl, by decide +kernel, rfl, by decide +kernel, by decide +kernel⟩
abbrev s__law_closed : Stmt := topS 21
theorem sc__law_closed : FnScope ["_law_script", "_law_walk_here", "_law_x", "_law_y", "_law_along", "_law_up"] ["_law_script"] (defScope s__law_closed) := ⟨rfl, rfl, rfl, by decide +kernel, rfl, by decide +kernel, by decide +kernel⟩
abbrev s__law_area : Stmt := topS 22
theorem sc__law_area : FnScope ["_law_walk_here", "_law_told", "_law_twice", "_law_at", "_law_x", "_law_y", "_law_along", "_law_up"] ["_law_walk_here"] (defScope s__law_area) := ⟨rfl, rfl, rfl, by decide +kernel, rfl, by decide +kernel, by decide +kernel⟩
abbrev s_law : Stmt := topS 23
theorem sc_law : FnScope ["_law_script", "_law_walk_here", "_law_other", "_law_middle", "_law_third", "_law_due", "_law_told", "_law_at", "_law_pair", "_law_swapped", "_law_change", "_law_loop"] ["_law_script"] (defScope s_law) := ⟨rfl, rfl, rfl, by decide +kernel, rfl, by decide +kernel, by decide +kernel⟩
/-! ### what the defs promise -/
def RIsNum : List PyData → PyData → Prop := fun ds r => ∃ i : Int, ds = [.int i] ∧ r = .bool true
def RAskW : List PyData → PyData → Prop := fun ds r => ∃ v : Wk, v.length ≤ 9000 ∧ ds = [W v] ∧ r = .none
def RAskN : List PyData → PyData → Prop := fun ds r => ∃ i : Int, ds = [.int i] ∧ r = .none
def RStepped : List PyData → PyData → Prop := fun ds r => ∃ p d, ds = [ptD p, L1 d] ∧ r = ptD (go p d)
def RWalked : List PyData → List PyData → Prop := fun ds r => ∃ v : Wk, v.length ≤ 9000 ∧ ds = [W v] ∧ r = (pls0 v).map ptD
def REnd : List PyData → PyData → Prop := fun ds r => ∃ v : Wk, v.length ≤ 9000 ∧ ds = [W v] ∧ r = ptD (goAll (0, 0) v)
def RAskC : List PyData → PyData → Prop := fun ds r => ∃ v : Wk, v.length ≤ 9000 ∧ goAll (0, 0) v = (0, 0) ∧ ds = [W v] ∧ r = .none
def RTurned : List PyData → PyData → Prop := fun ds r => ∃ (v : Wk) (k : Int), v.length ≤ 9000 ∧ ds = [W v, .int k] ∧ r = W (v.map (turnD k))
def mir : Dr → Dr
  | .e => .w
  | .w => .e
  | d => d
def RMir : List PyData → PyData → Prop := fun ds r => ∃ v : Wk, v.length ≤ 9000 ∧ ds = [W v] ∧ r = W (v.map mir)
def backW (v : Wk) : Wk := v.reverse.map (turnD 2)
def RBack : List PyData → PyData → Prop := fun ds r => ∃ v : Wk, v.length ≤ 9000 ∧ ds = [W v] ∧ r = W (backW v)
def rotW (v : Wk) (k : Int) : Wk := v.drop (k % (v.length : Int)).toNat ++ v.take (k % (v.length : Int)).toNat
def RBegun : List PyData → PyData → Prop := fun ds r => ∃ (v : Wk) (k : Int), v.length ≤ 9000 ∧ goAll (0, 0) v = (0, 0) ∧ ds = [W v, .int k] ∧ r = W (rotW v k)
theorem pl_ptD (p : Pt) : pl 9 (ptD p) = true := rfl
theorem ptD_inj {p q : Pt} (h : ptD p = ptD q) : p = q := by
  unfold ptD at h
  injection h with h
  injection h with h1 h2
  injection h2 with h2 _
  injection h1 with h1
  injection h2 with h2
  exact Prod.ext h1 h2
theorem fz_ptD (p : Pt) : fz (ptD p) = true := rfl
theorem fz_W (v : Wk) : fz (W v) = true := rfl
theorem atI_neg1 {α : Type} (xs : List α) (v : α) (h : xs.getLast? = some v) : atI xs (-1) = some v := by
  obtain ⟨ys, rfl⟩ : ∃ ys, xs = ys ++ [v] := by
    cases xs with
    | nil => cases h
    | cons a r => exact List.getLast?_eq_some_iff.mp h
  exact atI_last ys v
section
variable {P : Program} {w : World} {K : PySem.W.Frag} {mg : Str → Option Value} {base : Heap}
theorem ok_asked_walk (F : Df K mg "asked_walk" s_asked_walk ["walk"]) (hb : Blt mg) (hL : ∃ t, mg "LETTERS" = some (.str (SX.S [110, 119, 115, 101]) t)) : Cd P w K mg base 1 "asked_walk" (spD K RAskW) := by
  refine cdD F sc_asked_walk (fun ds r ⟨i, _, e, _⟩ => by rw [e]; rfl) fun f cdv A outer s H E hr nd ds r D ⟨v, hv, e1, e2⟩ hD hN => ?_
  subst e1 e2
  obtain ⟨t, ht⟩ := hL
  refine run_env (e' := [some (.d (W v))]) rfl ?_
  refine run_ifF0 (EvT.is (et_w (ew_or (by walk_at "et0") fun _ => ew_or1 (by walk_at "et0"))) rfl) ?_
  exact run_fall (hN rfl)
theorem ok_stepped (F : Df K mg "stepped" s_stepped ["place", "letter"]) : Cd P w K mg base 1 "stepped" (spD K RStepped) := by
  refine cdD F sc_stepped (fun ds r ⟨_, _, e, _⟩ => by rw [e]; rfl) fun f cdv A outer s H E hr nd ds r D ⟨p, d, e1, e2⟩ hD hN => ?_
  subst e1 e2
  refine run_env (e' := [some (.d (ptD p)), some (.d (L1 d)), none, none]) rfl ?_
  refine rs_un2 rfl rfl nd (.inl rfl) (.inl rfl) (a := .int p.1) (b := .int p.2) (by walk_at "ev") rfl ?_
  refine run_if (z := decide (d = .n)) (by walk_at "et") (fun z => ?_) (fun z => run_nx ?_)
  · have hD' : RtD K H D (ptD (p.1, p.2 + 1)) := by
      have e := ofT z
      subst e
      simpa [go, Dr.dx, Dr.dy, Int.sub_eq_add_neg] using hD
    exact run_ret (by walk_at "ev") hD'
  refine run_if (z := decide (d = .s)) (by walk_at "et") (fun z => ?_) (fun z2 => run_nx ?_)
  · have hD' : RtD K H D (ptD (p.1, p.2 - 1)) := by
      have e := ofT z
      subst e
      simpa [go, Dr.dx, Dr.dy, Int.sub_eq_add_neg] using hD
    exact run_ret (by walk_at "ev") hD'
  refine run_if (z := decide (d = .e)) (by walk_at "et") (fun z => ?_) (fun z3 => run_nx ?_)
  · have hD' : RtD K H D (ptD (p.1 + 1, p.2)) := by
      have e := ofT z
      subst e
      simpa [go, Dr.dx, Dr.dy, Int.sub_eq_add_neg] using hD
    exact run_ret (by walk_at "ev") hD'
  have hD' : RtD K H D (ptD (p.1 - 1, p.2)) := by
    have e : d = .w := by cases d <;> first | rfl | (revert z z2 z3; decide)
    subst e
    simpa [go, Dr.dx, Dr.dy, Int.sub_eq_add_neg] using hD
  exact run_ret (by walk_at "ev") hD'
theorem ok_walked (F : Df K mg "walked" s_walked ["walk"]) (c1 : Cd P w K mg base 1 "stepped" (spD K RStepped)) : Cd P w K mg base 2 "walked" (spL K RWalked) := by
  refine cdL F sc_walked (fun ds r ⟨_, _, e, _⟩ => by rw [e]; rfl) fun f cdv A outer s H E hr nd ds r D ⟨v, hv, e1, e2⟩ hD => ?_
  subst e1 e2
  refine run_env (e' := [some (.d (W v)), none, none]) rfl ?_
  refine rs_L (ds := [ptD (0, 0)]) rfl nd (.inl rfl) (by walk_at "el") rfl ?_
  refine rs_for (n := v.length) (item := fun i => L1 (v.getD i .n)) (fun i => [some (.d (W v)), some (.l ((pls0 (v.take i)).map ptD)), none]) rfl nd (.inl rfl) PassesOwn.never (its_W (by walk_at "ev")) (.keep rfl (.keep rfl (.skip .nil))) (fun i _ => rfl) (fun i Hl D' hi hs hn hrt => ?_) ?_
  · have e1 : pls0 (v.take (i + 1)) = pls0 (v.take i) ++ [go (goAll (0, 0) (v.take i)) (v.getD i .n)] := by
      rw [take_getD v .n i hi]
      exact walkFrom_snoc _ _ _
    have e2 : atI ((pls0 (v.take i)).map ptD) (-1) = some (ptD (goAll (0, 0) (v.take i))) := atI_neg1 _ _ (by
      rw [List.getLast?_map]
      unfold pls0
      rw [walkFrom_last]
      rfl)
    refine rs_app rfl (.inl rfl) rfl (d := ptD (go (goAll (0, 0) (v.take i)) (v.getD i .n))) (ev_call c1 hr (by decide) rfl (ea_cons (ev_ix (ev_nm rfl (.inl rfl) rfl rfl) (ev_un ev_int un_negI) (ix_L e2)) (ea_cons (by walk_at "ev") ea_nil)) ⟨_, _, rfl, rfl⟩) rfl (by rw [List.length_map]; unfold pls0; rw [walkFrom_len, List.length_take]; omega) ?_
    exact run_turn hn (.keep rfl (.keep (by rw [e1, List.map_append]; rfl) (.skip .nil)))
  · refine rs_retN rfl (.inl rfl) rfl ?_
    rw [List.take_length]
    exact hD
end
theorem lookup_mir (d : Dr) (h : ¬ (d = .n ∨ d = .s)) : ([(Str.ofString "e", PyData.str (SX.S [119])), (Str.ofString "w", PyData.str (SX.S [101]))] : List (Str × PyData)).lookup (SX.S [d.code]) = some (L1 (mir d)) := by
  cases d with
  | n => exact absurd (.inl rfl) h
  | s => exact absurd (.inr rfl) h
  | w => rfl
  | e => rfl
theorem in_ns (d : Dr) : decide (d.code ∈ [110, 115]) = decide (d = .n ∨ d = .s) := by cases d <;> rfl
section
variable {P : Program} {w : World} {K : PySem.W.Frag} {mg : Str → Option Value} {base : Heap}
theorem ok_end (F : Df K mg "end" s_end ["walk"]) (c1 : Cd P w K mg base 1 "asked_walk" (spD K RAskW)) : Cd P w K mg base 2 "end" (spD K REnd) := by
  refine cdD F sc_end (fun ds r ⟨_, _, e, _⟩ => by rw [e]; rfl) fun f cdv A outer s H E hr nd ds r D ⟨v, hv, e1, e2⟩ hD hN => ?_
  subst e1 e2
  refine run_env (e' := [some (.d (W v))]) rfl ?_
  refine run_expr (d := .none) (by walk_at "ev") ?_
  rw [goAll_end] at hD
  exact run_ret (by walk_at "evg") hD
theorem ok_asked_closed (F : Df K mg "asked_closed" s_asked_closed ["walk"]) (c1 : Cd P w K mg base 2 "end" (spD K REnd)) : Cd P w K mg base 3 "asked_closed" (spD K RAskC) := by
  refine cdD F sc_asked_closed (fun ds r ⟨_, _, _, e, _⟩ => by rw [e]; rfl) fun f cdv A outer s H E hr nd ds r D ⟨v, hv, hc, e1, e2⟩ hD hN => ?_
  subst e1 e2
  refine run_env (e' := [some (.d (W v))]) rfl ?_
  refine run_ifF0 (EvT.is (et_cmp (x := ptD (goAll (0, 0) v)) (y := ptD (0, 0)) (z := !true) (by walk_at "ev") (by walk_at "ev") (cmp_neD (b := true) hr rfl rfl ⟨fun _ => by rw [hc], fun _ => rfl⟩) (nomark _)) rfl) ?_
  exact run_fall (hN rfl)
theorem ok_turned (F : Df K mg "turned" s_turned ["walk", "by"]) (hb : Blt mg) (hL : ∃ t, mg "LETTERS" = some (.str (SX.S [110, 119, 115, 101]) t)) : Cd P w K mg base 1 "turned" (spD K RTurned) := by
  refine cdD F sc_turned (fun ds r ⟨_, _, _, e, _⟩ => by rw [e]; rfl) fun f cdv A outer s H E hr nd ds r D ⟨v, k, hv, e1, e2⟩ hD hN => ?_
  subst e1 e2
  obtain ⟨t, ht⟩ := hL
  refine run_env (e' := [some (.d (W v)), some (.d (.int k)), none]) rfl ?_
  refine run_ret (ev_joinW (w := v.map (turnD k)) (Ev.is (EvL.d (el_comp sc_turned (n := v.length) (fun i => L1 (turnD k (v.getD i .n))) rfl nd (by decide +kernel) (ite_W (by walk_at "ev")) (fun _ _ _ _ _ => ⟨.inl rfl, .inr rfl⟩) (fun i _ => rfl) (by omega) fun s' H' C cl fp i hi => ?_)) ?_) (by rw [List.length_map]; omega)) hD
  · walk_at "ev"
  · rw [List.map_map]
    exact congrArg PyData.list (map_getD v .n (fun d => L1 (turnD k d)))
theorem ok_back (F : Df K mg "back" s_back ["walk"]) (c3 : Cd P w K mg base 1 "turned" (spD K RTurned)) : Cd P w K mg base 2 "back" (spD K RBack) := by
  refine cdD F sc_back (fun ds r ⟨_, _, e, _⟩ => by rw [e]; rfl) fun f cdv A outer s H E hr nd ds r D ⟨v, hv, e1, e2⟩ hD hN => ?_
  subst e1 e2
  refine run_env (e' := [some (.d (W v))]) rfl ?_
  exact run_ret (ev_call c3 hr (by decide) rfl (ea_cons (ev_revW (by walk_at "ev") (by omega)) (ea_cons ev_int ea_nil)) ⟨_, _, by rw [List.length_reverse]; exact hv, rfl, rfl⟩) hD
end
/-! ### the law's own helpers -/
def lawD (c : Int) : Dr := match (c % 4).toNat with
  | 0 => .n
  | 1 => .e
  | 2 => .s
  | _ => .w
def lawW (ns : List Int) : Wk := ns.map lawD
def homeX (x : Int) : Wk := List.replicate x.natAbs (if 0 < x then .w else .e)
def homeY (y : Int) : Wk := List.replicate y.natAbs (if 0 < y then .s else .n)
def closedW (ns : List Int) : Wk := if ns.sum % 2 = 0 then lawW ns ++ homeY (goAll (0, 0) (lawW ns)).2 ++ homeX (goAll (0, 0) (lawW ns)).1 else lawW ns ++ homeX (goAll (0, 0) (lawW ns)).1 ++ homeY (goAll (0, 0) (lawW ns)).2
def RLWalk : List PyData → PyData → Prop := fun ds r => ∃ ns : List Int, ns.length ≤ 9000 ∧ ds = [.list (ns.map PyData.int)] ∧ r = W (lawW ns)
def RLClosed : List PyData → PyData → Prop := fun ds r => ∃ ns : List Int, ns.length ≤ 1000 ∧ ds = [.list (ns.map PyData.int)] ∧ r = W (closedW ns)
theorem lawW_len (ns : List Int) : (lawW ns).length = ns.length := List.length_map ..
theorem ix_nesw {X : Cx} {c : Int} : Ix X (.str (SX.S [110, 101, 115, 119])) (.int (c % 4)) (L1 (lawD c)) := by
  refine ix_S (l := [110, 101, 115, 119]) (c := (lawD c).code) ?_ (by decide)
  unfold lawD
  have h1 : 0 ≤ c % 4 := Int.emod_nonneg _ (by decide)
  have h2 : c % 4 < 4 := Int.emod_lt_of_pos _ (by decide)
  generalize c % 4 = m at h1 h2
  have h : m = 0 ∨ m = 1 ∨ m = 2 ∨ m = 3 := by omega
  rcases h with rfl | rfl | rfl | rfl <;> rfl
local macro_rules | `(tactic| walk_at "ix") => `(tactic| first | exact ix_lett | exact ix_nesw)
theorem getD_ints (ns : List Int) (i : Nat) (h : i < ns.length) : (ns.map PyData.int).getD i .none = .int (ns.getD i 0) := by
  simp [List.getD_eq_getElem?_getD, h]
theorem ite_ints {X : Cx} {env : En} {tg e : Expr} {ns : List Int} (he : Ev X env e (.list (ns.map PyData.int))) : ItE X env tg e ns.length (fun i => .int (ns.getD i 0)) := by
  have h := ite_list (tg := tg) he
  rw [List.length_map] at h
  exact h.congr fun i hi => getD_ints ns i hi
theorem rep1 (c : Nat) (n : Nat) : (List.replicate n [c]).flatten = List.replicate n c := by
  induction n with
  | zero => rfl
  | succ n ih => rw [List.replicate_succ, List.flatten_cons, ih, List.replicate_succ]; rfl
theorem bin_mulL {X : Cx} {d : Dr} {n : Int} (hn : n ≤ 10000) (hn0 : -10000 ≤ n) : Bin X .Mult (L1 d) (.int n) (W (List.replicate n.toNat d)) := by
  have h := bin_mulS (X := X) (l := [d.code]) (n := n) (by simp) hn hn0
  rw [rep1] at h
  unfold W cps
  rw [List.map_replicate]
  exact h
theorem abs_eq (x : Int) : (if x < 0 then -x else x).toNat = x.natAbs := by split <;> omega
theorem goAll_app (p : Pt) (a b : Wk) : goAll p (a ++ b) = goAll (goAll p a) b := List.foldl_append ..
theorem goAll_rep (d : Dr) : ∀ (n : Nat) (p : Pt), goAll p (List.replicate n d) = (p.1 + n * d.dx, p.2 + n * d.dy)
  | 0, p => by simp [goAll]
  | n + 1, p => by
    rw [List.replicate_succ]
    show goAll (go p d) (List.replicate n d) = _
    rw [goAll_rep d n]
    simp only [go]
    have e : ∀ x y : Int, x + y + (n : Int) * y = x + ((n + 1 : Nat) : Int) * y := fun x y => by
      rw [Int.natCast_add, Int.add_mul]
      omega
    exact Prod.ext (e _ _) (e _ _)
theorem goAll_homeX (p : Pt) : goAll p (homeX p.1) = (0, p.2) := by
  unfold homeX
  rw [goAll_rep]
  refine Prod.ext ?_ ?_
  · show p.1 + _ = 0
    split <;> simp [Dr.dx] <;> omega
  · show p.2 + _ = p.2
    split <;> simp [Dr.dy]
theorem goAll_homeY (p : Pt) : goAll p (homeY p.2) = (p.1, 0) := by
  unfold homeY
  rw [goAll_rep]
  refine Prod.ext ?_ ?_
  · show p.1 + _ = p.1
    split <;> simp [Dr.dx]
  · show p.2 + _ = 0
    split <;> simp [Dr.dy] <;> omega
theorem closed_end (ns : List Int) : goAll (0, 0) (closedW ns) = (0, 0) := by
  unfold closedW
  split
  · rw [goAll_app, goAll_app, goAll_homeY]
    exact goAll_homeX ((goAll (0, 0) (lawW ns)).1, 0)
  · rw [goAll_app, goAll_app, goAll_homeX]
    exact goAll_homeY (0, (goAll (0, 0) (lawW ns)).2)
theorem cnt_sum : ∀ (w : Wk), cnt .n w + cnt .w w + cnt .s w + cnt .e w = w.length
  | [] => rfl
  | d :: r => by
    have ih := cnt_sum r
    unfold cnt at *
    cases d <;> simp [List.filter_cons] <;> omega
theorem end_small (w : Wk) : (goAll (0, 0) w).1.natAbs + (goAll (0, 0) w).2.natAbs ≤ w.length := by
  rw [goAll_end]
  have := cnt_sum w
  simp only
  omega
theorem closed_len (ns : List Int) : (closedW ns).length ≤ 2 * ns.length := by
  have h := end_small (lawW ns)
  rw [lawW_len] at h
  unfold closedW homeX homeY
  split <;> simp [lawW_len] <;> omega
section
variable {P : Program} {w : World} {K : PySem.W.Frag} {mg : Str → Option Value} {base : Heap}
theorem ok__law_walk (F : Df K mg "_law_walk" s__law_walk ["_law_cells"]) : Cd P w K mg base 1 "_law_walk" (spD K RLWalk) := by
  refine cdD F sc__law_walk (fun ds r ⟨_, _, e, _⟩ => by rw [e]; rfl) fun f cdv A outer s H E hr nd ds r D ⟨ns, hn, e1, e2⟩ hD hN => ?_
  subst e1 e2
  refine run_env (e' := [some (.d (.list (ns.map PyData.int))), none]) rfl ?_
  refine run_ret (ev_joinW (w := lawW ns) (Ev.is (EvL.d (el_comp sc__law_walk (n := ns.length) (fun i => L1 (lawD (ns.getD i 0))) rfl nd (by decide +kernel) (ite_ints (by walk_at "ev")) (fun _ _ _ _ _ => ⟨.inl rfl, .inr rfl⟩) (fun i _ => rfl) (by omega) fun s' H' C cl fp i hi => ?_)) ?_) (by rw [lawW_len]; omega)) hD
  · walk_at "ev"
  · unfold lawW
    rw [List.map_map]
    exact congrArg PyData.list (map_getD ns 0 (fun d => L1 (lawD d)))
theorem ok__law_turned (F : Df K mg "_law_turned" s__law_turned ["_law_walk_here", "_law_by"]) : Cd P w K mg base 1 "_law_turned" (spD K RTurned) := by
  refine cdD F sc__law_turned (fun ds r ⟨_, _, _, e, _⟩ => by rw [e]; rfl) fun f cdv A outer s H E hr nd ds r D ⟨v, k, hv, e1, e2⟩ hD hN => ?_
  subst e1 e2
  refine run_env (e' := [some (.d (W v)), some (.d (.int k)), none]) rfl ?_
  refine run_ret (ev_joinW (w := v.map (turnD k)) (Ev.is (EvL.d (el_comp sc__law_turned (n := v.length) (fun i => L1 (turnD k (v.getD i .n))) rfl nd (by decide +kernel) (ite_W (by walk_at "ev")) (fun _ _ _ _ _ => ⟨.inl rfl, .inr rfl⟩) (fun i _ => rfl) (by omega) fun s' H' C cl fp i hi => ?_)) ?_) (by rw [List.length_map]; omega)) hD
  · walk_at "ev"
  · rw [List.map_map]
    exact congrArg PyData.list (map_getD v .n (fun d => L1 (turnD k d)))
end
def dvD (d : Dr) : PyData := .tuple [.int d.dx, .int d.dy]
def kdv : List (Str × PyData) := [(Str.ofString "n", .tuple [.int 0, .int 1]), (Str.ofString "e", .tuple [.int 1, .int 0]), (Str.ofString "s", .tuple [.int 0, .int (-1)]), (Str.ofString "w", .tuple [.int (-1), .int 0])]
theorem lookup_dv (d : Dr) : kdv.lookup (SX.S [d.code]) = some (dvD d) := by cases d <;> rfl
section
variable {P : Program} {w : World} {K : PySem.W.Frag} {mg : Str → Option Value} {base : Heap}
theorem ok__law_places (F : Df K mg "_law_places" s__law_places ["_law_walk_here"]) : Cd P w K mg base 1 "_law_places" (spL K RWalked) := by
  refine cdL F sc__law_places (fun ds r ⟨_, _, e, _⟩ => by rw [e]; rfl) fun f cdv A outer s H E hr nd ds r D ⟨v, hv, e1, e2⟩ hD => ?_
  subst e1 e2
  refine run_env (e' := [some (.d (W v)), none, none, none, none, none, none]) rfl ?_
  refine rs_L (ds := [ptD (0, 0)]) rfl nd (.inl rfl) (by walk_at "el") rfl ?_
  refine rs_for (n := v.length) (item := fun i => L1 (v.getD i .n)) (fun i => [some (.d (W v)), some (.l ((pls0 (v.take i)).map ptD)), none, none, none, none, none]) rfl nd (.inl rfl) PassesOwn.never (its_W (by walk_at "ev")) (.keep rfl (.keep rfl (.skip (.skip (.skip (.skip (.skip .nil))))))) (fun i _ => rfl) (fun i Hl D' hi hs hn hrt => ?_) ?_
  · have e1 : pls0 (v.take (i + 1)) = pls0 (v.take i) ++ [go (goAll (0, 0) (v.take i)) (v.getD i .n)] := by
      rw [take_getD v .n i hi]
      exact walkFrom_snoc _ _ _
    have e2 : atI ((pls0 (v.take i)).map ptD) (-1) = some (ptD (goAll (0, 0) (v.take i))) := atI_neg1 _ _ (by
      rw [List.getLast?_map]
      unfold pls0
      rw [walkFrom_last]
      rfl)
    generalize v.getD i .n = d at e1 ⊢
    generalize goAll (0, 0) (v.take i) = p at e1 e2
    refine rs_un2 rfl rfl nd (.inl rfl) (.inl rfl) (a := .int p.1) (b := .int p.2) (ev_ix (ev_nm rfl (.inl rfl) rfl rfl) (ev_un ev_int un_negI) (ix_L e2)) rfl ?_
    refine rs_un2 rfl rfl nd (.inl rfl) (.inl rfl) (a := .int d.dx) (b := .int d.dy) (ev_disp hr (kd := kdv) (ppd_cons (by walk_at "ev") (ppd_cons (by walk_at "ev") (ppd_cons (by walk_at "ev") (ppd_cons (by walk_at "ev") ppd_nil)))) (ev_nm rfl (.inl rfl) rfl rfl) (lookup_dv d) rfl (by decide)) rfl ?_
    refine rs_app rfl (.inl rfl) rfl (d := ptD (go p d)) (by walk_at "evg") rfl (by rw [List.length_map]; unfold pls0; rw [walkFrom_len, List.length_take]; omega) ?_
    exact run_turn hn (.keep rfl (.keep (by rw [e1, List.map_append]; rfl) (.skip (.skip (.skip (.skip (.skip .nil)))))))
  · refine rs_retN rfl (.inl rfl) rfl ?_
    rw [List.take_length]
    exact hD
theorem ok__law_closed (F : Df K mg "_law_closed" s__law_closed ["_law_script"]) (hb : Blt mg) (c1 : Cd P w K mg base 1 "_law_walk" (spD K RLWalk)) (c2 : Cd P w K mg base 1 "_law_places" (spL K RWalked)) : Cd P w K mg base 2 "_law_closed" (spD K RLClosed) := by
  refine cdD F sc__law_closed (fun ds r ⟨_, _, e, _⟩ => by rw [e]; rfl) fun f cdv A outer s H E hr nd ds r D ⟨ns, hv, e1, e2⟩ hD hN => ?_
  subst e1 e2
  refine run_env (e' := [some (.d (.list (ns.map PyData.int))), none, none, none, none, none]) rfl ?_
  have hl : (lawW ns).length = ns.length := lawW_len ns
  refine rs_F (d := W (lawW ns)) rfl nd (.inl rfl) (ev_call c1 hr (by decide) rfl (ea_cons (ev_nm rfl (.inl rfl) rfl rfl) ea_nil) ⟨ns, by omega, rfl, rfl⟩) rfl ?_
  have e2 : atI ((pls0 (lawW ns)).map ptD) (-1) = some (ptD (goAll (0, 0) (lawW ns))) := atI_neg1 _ _ (by
    rw [List.getLast?_map]
    unfold pls0
    rw [walkFrom_last]
    rfl)
  have hs := end_small (lawW ns)
  unfold closedW homeX homeY at hD
  generalize goAll (0, 0) (lawW ns) = p at *
  generalize hw : lawW ns = u at *
  refine rs_un2 rfl rfl nd (.inl rfl) (.inl rfl) (a := .int p.1) (b := .int p.2) (ev_ix (EvL.d (evl_call c2 hr (by decide) rfl (ea_cons (ev_nm rfl (.inl rfl) rfl rfl) ea_nil) ⟨u, by omega, rfl, rfl⟩)) (ev_un ev_int un_negI) (ix_L e2)) rfl ?_
  refine rs_F (d := W (List.replicate p.1.natAbs (if 0 < p.1 then .w else .e))) rfl nd (.inl rfl) ?_ rfl ?_
  · refine Ev.is (ev_bin (x := L1 (if 0 < p.1 then .w else .e)) (Ev.is (ev_if (z := decide (0 < p.1)) (x := L1 .w) (y := L1 .e) (by walk_at "et") (fun _ => ev_strS s_w) (fun _ => ev_strS s_e)) (by by_cases h : 0 < p.1 <;> simp [h])) (by walk_at "ev") (bin_mulL (by split <;> omega) (by split <;> omega))) ?_
    rw [abs_eq]
  refine rs_F (d := W (List.replicate p.2.natAbs (if 0 < p.2 then .s else .n))) rfl nd (.inl rfl) ?_ rfl ?_
  · refine Ev.is (ev_bin (x := L1 (if 0 < p.2 then .s else .n)) (Ev.is (ev_if (z := decide (0 < p.2)) (x := L1 .s) (y := L1 .n) (by walk_at "et") (fun _ => ev_strS s_s) (fun _ => ev_strS s_n)) (by by_cases h : 0 < p.2 <;> simp [h])) (by walk_at "ev") (bin_mulL (by split <;> omega) (by split <;> omega))) ?_
    rw [abs_eq]
  generalize hx : List.replicate p.1.natAbs (if 0 < p.1 then Dr.w else .e) = wx at hD ⊢
  generalize hy : List.replicate p.2.natAbs (if 0 < p.2 then Dr.s else .n) = wy at hD ⊢
  have lx : wx.length = p.1.natAbs := by rw [← hx, List.length_replicate]
  have ly : wy.length = p.2.natAbs := by rw [← hy, List.length_replicate]
  refine run_ret (Ev.is (ev_if (z := decide (ns.sum % 2 = 0)) (by walk_at "et") (fun _ => by walk_at "ev") (fun _ => by walk_at "ev")) ?_) hD
  by_cases h : ns.sum % 2 = 0 <;> simp [h]
end
/-! ### plain facts of walks -/
theorem turnD_congr {k j : Int} (h : k % 4 = j % 4) (d : Dr) : turnD k d = turnD j d := by
  unfold turnD
  have : ((d.ix : Int) + k) % 4 = ((d.ix : Int) + j) % 4 := by omega
  rw [this]
theorem turnD_mod (k : Int) : turnD (k % 4) = turnD k := funext fun d => turnD_congr (by omega) d
theorem mod4 (k : Int) : k % 4 = 0 ∨ k % 4 = 1 ∨ k % 4 = 2 ∨ k % 4 = 3 := by omega
theorem turnD_inv (k : Int) (d : Dr) : turnD (-k) (turnD k d) = d := by
  rcases mod4 k with h | h | h | h
  · rw [turnD_congr (j := 0) (by omega), turnD_congr (k := k) (j := 0) (by omega)]; cases d <;> rfl
  · rw [turnD_congr (j := 3) (by omega), turnD_congr (k := k) (j := 1) (by omega)]; cases d <;> rfl
  · rw [turnD_congr (j := 2) (by omega), turnD_congr (k := k) (j := 2) (by omega)]; cases d <;> rfl
  · rw [turnD_congr (j := 1) (by omega), turnD_congr (k := k) (j := 3) (by omega)]; cases d <;> rfl
theorem map_turn_inv (k : Int) (v : Wk) : (v.map (turnD k)).map (turnD (-k)) = v := by
  rw [List.map_map]
  have : turnD (-k) ∘ turnD k = id := funext fun d => turnD_inv k d
  rw [this, List.map_id]
def rotP (k : Int) (p : Pt) : Pt := match (k % 4).toNat with
  | 0 => p
  | 1 => (-p.2, p.1)
  | 2 => (-p.1, -p.2)
  | _ => (p.2, -p.1)
theorem rotP_congr {k j : Int} (h : k % 4 = j % 4) (p : Pt) : rotP k p = rotP j p := by
  unfold rotP
  rw [h]
theorem go_rot4 (k : Int) (h : k = 0 ∨ k = 1 ∨ k = 2 ∨ k = 3) (p : Pt) (d : Dr) : go (rotP k p) (turnD k d) = rotP k (go p d) := by
  rcases h with rfl | rfl | rfl | rfl <;> cases d <;> (refine Prod.ext ?_ ?_ <;> simp [go, rotP, turnD, Dr.ix, Dr.of, Dr.dx, Dr.dy] <;> omega)
theorem go_rot (k : Int) (p : Pt) (d : Dr) : go (rotP k p) (turnD k d) = rotP k (go p d) := by
  rw [← turnD_mod k, rotP_congr (k := k) (j := k % 4) (by omega), rotP_congr (k := k) (j := k % 4) (by omega)]
  exact go_rot4 _ (mod4 k) p d
theorem goAll_rot (k : Int) : ∀ (v : Wk) (p : Pt), goAll (rotP k p) (v.map (turnD k)) = rotP k (goAll p v)
  | [], p => rfl
  | d :: v, p => by
    show goAll (go (rotP k p) (turnD k d)) (v.map (turnD k)) = rotP k (goAll (go p d) v)
    rw [go_rot]
    exact goAll_rot k v (go p d)
theorem rotP_zero (k : Int) : rotP k (0, 0) = (0, 0) := by
  rw [rotP_congr (j := k % 4) (by omega)]
  rcases mod4 k with h | h | h | h <;> rw [h] <;> rfl
theorem goAll_rot0 (k : Int) (v : Wk) : goAll (0, 0) (v.map (turnD k)) = rotP k (goAll (0, 0) v) := by
  have := goAll_rot k v (0, 0)
  rwa [rotP_zero] at this
theorem backW_cons (d : Dr) (v : Wk) : backW (d :: v) = backW v ++ [turnD 2 d] := by simp [backW]
theorem go_opp (p : Pt) (d : Dr) : go (go p d) (turnD 2 d) = p := by
  cases d <;> (refine Prod.ext ?_ ?_ <;> simp [go, turnD, Dr.ix, Dr.of, Dr.dx, Dr.dy] <;> omega)
theorem goAll_back : ∀ (v : Wk) (p : Pt), goAll p (v ++ backW v) = p
  | [], p => rfl
  | d :: v, p => by
    rw [backW_cons]
    show goAll (go p d) (v ++ (backW v ++ [turnD 2 d])) = p
    rw [← List.append_assoc, goAll_app, goAll_back v (go p d)]
    exact go_opp p d
theorem backW_back (v : Wk) : backW (backW v) = v := by
  unfold backW
  rw [← List.map_reverse, List.reverse_reverse]
  exact map_turn_inv 2 v |> fun h => by
    have e : turnD (-2) = turnD 2 := funext fun d => turnD_congr (by decide) d
    rwa [e] at h
theorem backW_len (v : Wk) : (backW v).length = v.length := by simp [backW]
theorem mir_mir (v : Wk) : (v.map mir).map mir = v := by
  rw [List.map_map]
  have : mir ∘ mir = id := funext fun d => by cases d <;> rfl
  rw [this, List.map_id]
theorem rotW_len (v : Wk) (k : Int) : (rotW v k).length = v.length := by
  unfold rotW
  rw [List.length_append, List.length_drop, List.length_take]
  omega
theorem rotW_at (v : Wk) (k : Int) (i : Nat) (hi : i < v.length) : atI v (((i : Int) + k) % (v.length : Int)) = some ((rotW v k).getD i .n) := by
  have hl : (0 : Int) < v.length := by omega
  have h1 : 0 ≤ k % (v.length : Int) := Int.emod_nonneg _ (by omega)
  have h2 : k % (v.length : Int) < v.length := Int.emod_lt_of_pos _ hl
  obtain ⟨m, hm⟩ : ∃ m : Nat, k % (v.length : Int) = (m : Int) := ⟨_, (Int.toNat_of_nonneg h1).symm⟩
  have e : ((i : Int) + k) % (v.length : Int) = ((i : Int) + m) % (v.length : Int) := by
    rw [← hm, Int.add_emod_emod]
  rw [e]
  unfold rotW
  rw [hm, Int.toNat_natCast]
  have hm2 : m < v.length := by omega
  by_cases h : i + m < v.length
  · have e2 : ((i : Int) + m) % (v.length : Int) = ((i + m : Nat) : Int) := by
      rw [Int.emod_eq_of_lt (by omega) (by omega)]
      omega
    rw [e2, atI_nat, List.getD_eq_getElem?_getD, List.getElem?_append_left (by rw [List.length_drop]; omega), List.getElem?_drop, show m + i = i + m by omega, List.getElem?_eq_getElem h]
    exact List.getElem?_eq_getElem h
  · have e2 : ((i : Int) + m) % (v.length : Int) = ((i + m - v.length : Nat) : Int) := by
      have : ((i : Int) + m) = ((i + m - v.length : Nat) : Int) + v.length := by omega
      rw [this, Int.add_emod_right, Int.emod_eq_of_lt (by omega) (by omega)]
    have hlt : i + m - v.length < v.length := by omega
    rw [e2, atI_nat, List.getD_eq_getElem?_getD, List.getElem?_append_right (by rw [List.length_drop]; omega), List.length_drop, List.getElem?_take_of_lt (by omega), show i - (v.length - m) = i + m - v.length by omega, List.getElem?_eq_getElem hlt]
    exact List.getElem?_eq_getElem hlt
/-! tests that are known -/
section
variable {X : Cx} {env : En} {a b : Expr} {pos : Pos}
theorem ew_oF {rest : List Expr} (h1 : EvT X env a false) (h2 : EvW X env (.BoolOp .Or (b :: rest) pos) false) : EvW X env (.BoolOp .Or (a :: b :: rest) pos) false := ew_or (y := false) h1 fun _ => h2
theorem et_neF {x y : PyData} (ha : Ev X env a x) (hb : Ev X env b y) (hxy : x = y) (hs : Cmp X .NotEq x x false) (hm : behindInMarks .NotEq b = false := by exact nomark _) : EvT X env (.Compare a [.NotEq] [b] pos) false := by
  subst hxy
  exact et_cmp ha hb hs hm
theorem ev_eqT {x y : PyData} (ha : Ev X env a x) (hb : Ev X env b y) (hxy : x = y) (hs : Cmp X .Eq x x true) (hm : behindInMarks .Eq b = false := by exact nomark _) : Ev X env (.Compare a [.Eq] [b] pos) (.bool true) := by
  subst hxy
  exact ev_cmp ha hb hs hm
theorem et_notT {e : Expr} (h : EvT X env e true) : EvT X env (.UnaryOp .Not e pos) false := et_not h
theorem et_notV {e : Expr} (h : Ev X env e (.bool true)) (he : ∀ whole, isTrue e X.env whole = (do let v ← whole; standAt e.pos; holding [v] (truthy v)) := by intro _; rfl) : EvT X env (.UnaryOp .Not e pos) false := et_not (z := true) (et_val h he)
theorem ev_aT {rest : List Expr} {y : PyData} (h1 : Ev X env a (.bool true)) (h2 : Ev X env (.BoolOp .And (b :: rest) pos) y) : Ev X env (.BoolOp .And (a :: b :: rest) pos) y := ev_and (x := true) h1 fun _ => h2
theorem neW {w : Wk} : Cmp X .NotEq (W w) (W w) false := by
  have := cmp_neW (X := X) (a := w) (b := w)
  simpa using this
theorem eqW {w : Wk} : Cmp X .Eq (W w) (W w) true := by
  have := cmp_eqW (X := X) (a := w) (b := w)
  simpa using this
theorem neD {d : PyData} {k : Nat} (hr : Room k X.A) (h : pl 9 d = true) : Cmp X .NotEq d d false := cmp_neD (b := true) hr h h (by simp)
theorem eqD {d : PyData} {k : Nat} (hr : Room k X.A) (h : pl 9 d = true) : Cmp X .Eq d d true := cmp_eqD (b := true) hr h h (by simp)
end
theorem pl_pts (ps : List Pt) : pl 9 (.list (ps.map ptD)) = true := by
  show pls 8 (ps.map ptD) = true
  exact pls_map fun p => rfl
theorem pls0_last (v : Wk) : atI ((pls0 v).map ptD) (-1) = some (ptD (goAll (0, 0) v)) := atI_neg1 _ _ (by
  rw [List.getLast?_map]
  unfold pls0
  rw [walkFrom_last]
  rfl)
theorem pls0_len (v : Wk) : (pls0 v).length = v.length + 1 := walkFrom_len v _
local macro_rules | `(tactic| walk_at "ix") => `(tactic| first | exact ix_lett | exact ix_nesw)
local macro_rules | `(tactic| walk_at "le") => `(tactic| repeat first | exact .nil | refine .keep rfl ?_ | refine .skip ?_)
/-! ### thinning; the area by steps to the north and the south -/
def opp (d : Dr) : Dr := turnD 2 d
theorem opp_opp (d : Dr) : opp (opp d) = d := by cases d <;> rfl
theorem opp_iff {a b : Dr} : a = opp b ↔ b = opp a := ⟨fun h => by rw [h, opp_opp], fun h => by rw [h, opp_opp]⟩
/-- top first -/
def pushT (st : Wk) (d : Dr) : Wk := match st with
  | [] => [d]
  | t :: r => if t = opp d then r else d :: t :: r
/-- bottom first -/
def pushE (st : Wk) (d : Dr) : Wk := if st.getLast? = some (opp d) then st.dropLast else st ++ [d]
def thin (v : Wk) : Wk := v.foldl pushE []
theorem pushE_eq (st : Wk) (d : Dr) : pushE st d = (pushT st.reverse d).reverse := by
  rcases List.eq_nil_or_concat st with rfl | ⟨s, t, rfl⟩
  · rfl
  · unfold pushE
    rw [List.concat_eq_append, List.getLast?_append, List.reverse_append]
    show (if some t = some (opp d) then (s ++ [t]).dropLast else s ++ [t] ++ [d]) = (if t = opp d then s.reverse else d :: t :: s.reverse).reverse
    by_cases h : t = opp d
    · rw [if_pos h, if_pos (by rw [h]), List.dropLast_concat, List.reverse_reverse]
    · rw [if_neg h, if_neg (fun z => h (Option.some.inj z))]
      simp
theorem foldE_eq : ∀ (v st : Wk), v.foldl pushE st = (v.foldl pushT st.reverse).reverse
  | [], st => by simp
  | d :: v, st => by
    rw [List.foldl_cons, List.foldl_cons, foldE_eq v, pushE_eq, List.reverse_reverse]
theorem thin_eq (v : Wk) : thin v = (v.foldl pushT []).reverse := foldE_eq v []
def RedL (l : Wk) : Prop := ∀ (a b : Dr) (u w : Wk), l = u ++ a :: b :: w → b ≠ opp a
theorem RedL.nil : RedL [] := fun a b u w h => by cases u <;> cases h
theorem RedL.one (d : Dr) : RedL [d] := fun a b u w h => by
  cases u with
  | nil => cases h
  | cons c u =>
    injection h with _ h
    cases u <;> cases h
theorem RedL.tail {t : Dr} {r : Wk} (h : RedL (t :: r)) : RedL r := fun a b u w e => h a b (t :: u) w (by rw [e]; rfl)
theorem RedL.cons {t d : Dr} {r : Wk} (h : RedL (t :: r)) (n : t ≠ opp d) : RedL (d :: t :: r) := fun a b u w e => by
  cases u with
  | nil =>
    injection e with e1 e2
    injection e2 with e2 e3
    subst e1 e2
    exact n
  | cons c u =>
    injection e with _ e
    exact h a b u w e
theorem RedL.rev {l : Wk} (h : RedL l) : RedL l.reverse := fun a b u w e => by
  have e2 : l = w.reverse ++ b :: a :: u.reverse := by
    have := congrArg List.reverse e
    rw [List.reverse_reverse] at this
    rw [this]
    simp
  have := h b a _ _ e2
  exact fun z => this (opp_iff.mp z)
theorem RedL.push {s : Wk} (h : RedL s) (d : Dr) : RedL (pushT s d) := by
  cases s with
  | nil => exact .one d
  | cons t r =>
    show RedL (if t = opp d then r else d :: t :: r)
    split
    · exact h.tail
    · exact h.cons (by assumption)
theorem push_opp {s : Wk} (h : RedL s) (d : Dr) : pushT (pushT s d) (opp d) = s := by
  cases s with
  | nil =>
    show (if d = opp (opp d) then [] else _) = []
    rw [if_pos (opp_opp d).symm]
  | cons t r =>
    show pushT (if t = opp d then r else d :: t :: r) (opp d) = t :: r
    by_cases e : t = opp d
    · rw [if_pos e]
      cases r with
      | nil => rw [e]; rfl
      | cons u r =>
        have := h t u [] r rfl
        show (if u = opp (opp d) then r else opp d :: u :: r) = _
        rw [if_neg (by rw [← e]; exact this), e]
    · rw [if_neg e]
      show (if d = opp (opp d) then t :: r else _) = _
      rw [if_pos (opp_opp d).symm]
theorem push_opp' {s : Wk} (h : RedL s) (d : Dr) : pushT (pushT s (opp d)) d = s := by
  have := push_opp h (opp d)
  rwa [opp_opp] at this
def NN (X : Wk) (v : Wk) : Wk := v.foldr (fun d s => pushT s d) X
theorem NN_red {X : Wk} (h : RedL X) : ∀ v : Wk, RedL (NN X v)
  | [] => h
  | d :: v => (NN_red h v).push d
theorem NN_app (X a b : Wk) : NN X (a ++ b) = NN (NN X b) a := List.foldr_append ..
theorem NN_push {X : Wk} (h : RedL X) (st : Wk) (d : Dr) : NN X (pushT st d).reverse = NN (pushT X d) st.reverse := by
  cases st with
  | nil => rfl
  | cons t r =>
    show NN X (if t = opp d then r else d :: t :: r).reverse = NN (pushT X d) (t :: r).reverse
    rw [List.reverse_cons, NN_app]
    by_cases e : t = opp d
    · rw [if_pos e]
      show _ = NN (pushT (pushT X d) t) r.reverse
      rw [e, push_opp h]
    · rw [if_neg e, List.reverse_cons, NN_app, List.reverse_cons, NN_app]
      rfl
theorem NN_fold {X : Wk} (h : RedL X) : ∀ (v st : Wk), NN X (v.foldl pushT st).reverse = NN (NN X v) st.reverse
  | [], st => rfl
  | d :: v, st => by
    rw [List.foldl_cons, NN_fold h v, NN_push (NN_red h v)]
    rfl
theorem NN_thin {X : Wk} (h : RedL X) (v : Wk) : NN X (thin v) = NN X v := by
  rw [thin_eq, NN_fold h]
  rfl
theorem NN_self : ∀ {w : Wk}, RedL w → NN [] w = w
  | [], _ => rfl
  | [d], _ => rfl
  | d :: t :: r, h => by
    show pushT (NN [] (t :: r)) d = _
    rw [NN_self h.tail]
    show (if t = opp d then r else d :: t :: r) = _
    rw [if_neg (h d t [] r rfl)]
theorem fold_red : ∀ (v st : Wk), RedL st → RedL (v.foldl pushT st)
  | [], _, h => h
  | d :: v, st, h => fold_red v _ (h.push d)
theorem thin_red (v : Wk) : RedL (thin v) := by
  rw [thin_eq]
  exact (fold_red v [] .nil).rev
theorem thin_NN (v : Wk) : thin v = NN [] v := by
  rw [← NN_thin .nil v, NN_self (thin_red v)]
/-- from the last step on -/
theorem thin_law (v : Wk) : (thin v.reverse).reverse = thin v := by
  rw [thin_eq, List.reverse_reverse, thin_NN, NN, List.foldl_reverse]
theorem thin_thin (v : Wk) : thin (thin v) = thin v := by rw [thin_NN (thin v), NN_self (thin_red v)]
theorem NN_back {X : Wk} (h : RedL X) : ∀ v : Wk, NN X (v ++ backW v) = X
  | [] => rfl
  | d :: v => by
    rw [backW_cons]
    show pushT (NN X (v ++ (backW v ++ [opp d]))) d = X
    rw [← List.append_assoc, NN_app]
    show pushT (NN (pushT X (opp d)) (v ++ backW v)) d = X
    rw [NN_back (h.push _) v]
    exact push_opp' h d
theorem thin_back (v : Wk) : thin (v ++ backW v) = [] := by rw [thin_NN, NN_back .nil]
theorem thin_there (u v : Wk) : thin (u ++ backW u ++ v) = thin v := by rw [thin_NN, NN_app, NN_back (NN_red .nil v), thin_NN]
theorem pushE_len (st : Wk) (d : Dr) : (pushE st d).length ≤ st.length + 1 := by
  unfold pushE
  split
  · rw [List.length_dropLast]; omega
  · rw [List.length_append]; exact Nat.le_refl _
theorem fold_len : ∀ (v st : Wk), (v.foldl pushE st).length ≤ st.length + v.length
  | [], st => Nat.le_refl _
  | d :: v, st => by
    have h1 := fold_len v (pushE st d)
    have h2 := pushE_len st d
    rw [List.foldl_cons, List.length_cons]
    omega
theorem thin_len (v : Wk) : (thin v).length ≤ v.length := by
  have := fold_len v []
  rw [List.length_nil, Nat.zero_add] at this
  exact this
theorem goAll_push (p : Pt) (st : Wk) (d : Dr) : goAll p (pushE st d) = go (goAll p st) d := by
  unfold pushE
  split
  · rename_i h
    obtain ⟨s, rfl⟩ := List.getLast?_eq_some_iff.mp h
    rw [List.dropLast_concat, goAll_app]
    show _ = go (go (goAll p s) (opp d)) d
    have := go_opp (goAll p s) (opp d)
    rw [show turnD 2 (opp d) = d from opp_opp d] at this
    exact this.symm
  · rw [goAll_app]
    rfl
def areaW (p : Pt) : Wk → Int
  | [] => 0
  | d :: w => p.1 * d.dy + areaW (go p d) w
theorem areaW_app : ∀ (a b : Wk) (p : Pt), areaW p (a ++ b) = areaW p a + areaW (goAll p a) b
  | [], b, p => by simp [areaW, goAll]
  | d :: a, b, p => by
    show p.1 * d.dy + areaW (go p d) (a ++ b) = p.1 * d.dy + areaW (go p d) a + areaW (goAll (go p d) a) b
    rw [areaW_app a b]
    omega
theorem areaW_snoc (a : Wk) (d : Dr) (p : Pt) : areaW p (a ++ [d]) = areaW p a + (goAll p a).1 * d.dy := by
  rw [areaW_app]
  simp [areaW]
theorem areaW_push (p : Pt) (st : Wk) (d : Dr) : areaW p (pushE st d) = areaW p st + (goAll p st).1 * d.dy := by
  unfold pushE
  split
  · rename_i h
    obtain ⟨s, rfl⟩ := List.getLast?_eq_some_iff.mp h
    rw [List.dropLast_concat, areaW_snoc, goAll_app]
    show _ = _ + (goAll p s).1 * (opp d).dy + (go (goAll p s) (opp d)).1 * d.dy
    generalize goAll p s = q
    cases d <;> simp [opp, turnD, Dr.ix, Dr.of, Dr.dx, Dr.dy, go] <;> omega
  · exact areaW_snoc _ _ _
theorem fold_end (p : Pt) : ∀ (v st : Wk), goAll p (v.foldl pushE st) = goAll (goAll p st) v ∧ areaW p (v.foldl pushE st) = areaW p st + areaW (goAll p st) v
  | [], st => by simp [goAll, areaW]
  | d :: v, st => by
    have h := fold_end p v (pushE st d)
    rw [List.foldl_cons]
    refine ⟨?_, ?_⟩
    · rw [h.1, goAll_push]
      rfl
    · rw [h.2, areaW_push, goAll_push]
      show _ = areaW p st + ((goAll p st).1 * d.dy + areaW (go (goAll p st) d) v)
      omega
theorem thin_end (p : Pt) (v : Wk) : goAll p (thin v) = goAll p v := (fold_end p v []).1
theorem thin_area (p : Pt) (v : Wk) : areaW p (thin v) = areaW p v := by
  have := (fold_end p v []).2
  rw [show areaW p [] = 0 from rfl, show goAll p [] = p from rfl, Int.zero_add] at this
  exact this
/-- by cross products -/
def crossW (p : Pt) : Wk → Int
  | [] => 0
  | d :: w => (p.1 * (go p d).2 - (go p d).1 * p.2) + crossW (go p d) w
theorem crossW_app : ∀ (a b : Wk) (p : Pt), crossW p (a ++ b) = crossW p a + crossW (goAll p a) b
  | [], b, p => by simp [crossW, goAll]
  | d :: a, b, p => by
    show _ + crossW (go p d) (a ++ b) = _ + crossW (go p d) a + crossW (goAll (go p d) a) b
    rw [crossW_app a b]
    omega
theorem crossW_eq : ∀ (w : Wk) (p : Pt), crossW p w = 2 * areaW p w - ((goAll p w).1 * (goAll p w).2 - p.1 * p.2)
  | [], p => by simp [crossW, areaW, goAll]
  | d :: w, p => by
    show p.1 * (p.2 + d.dy) - (p.1 + d.dx) * p.2 + crossW (go p d) w = 2 * (p.1 * d.dy + areaW (go p d) w) - ((goAll (go p d) w).1 * (goAll (go p d) w).2 - p.1 * p.2)
    rw [crossW_eq w (go p d)]
    show _ + (2 * areaW (go p d) w - ((goAll (go p d) w).1 * (goAll (go p d) w).2 - (p.1 + d.dx) * (p.2 + d.dy))) = _
    have : d.dx * d.dy = 0 := by cases d <;> rfl
    have e1 : p.1 * (p.2 + d.dy) = p.1 * p.2 + p.1 * d.dy := Int.mul_add ..
    have e2 : (p.1 + d.dx) * p.2 = p.1 * p.2 + d.dx * p.2 := Int.add_mul ..
    have e3 : (p.1 + d.dx) * (p.2 + d.dy) = p.1 * p.2 + d.dx * p.2 + (p.1 * d.dy + d.dx * d.dy) := by rw [Int.mul_add, Int.add_mul, Int.add_mul]
    rw [e1, e2, e3, this]
    omega
theorem cross_closed {w : Wk} {p : Pt} (h : goAll p w = p) : crossW p w = 2 * areaW p w := by
  rw [crossW_eq, h]
  omega
theorem cross_half {w : Wk} (h : goAll (0, 0) w = (0, 0)) : crossW (0, 0) w / 2 = areaW (0, 0) w := by
  rw [cross_closed h]
  omega
theorem call_anyNo {X : Cx} {n : Nat} (hc : X.calm = true) : CallD X (.builtin "any") [.list (((List.range n).map fun _ => false).map PyData.bool)] (.bool false) := by
  have h := call_anyB (X := X) (bs := (List.range n).map fun _ => false) hc
  have e : ((List.range n).map fun _ => false).any id = false := by simp
  rwa [e] at h
theorem call_allYes {X : Cx} {n : Nat} (hc : X.calm = true) : CallD X (.builtin "all") [.list (((List.range n).map fun _ => true).map PyData.bool)] (.bool true) := by
  have h := call_allB (X := X) (bs := (List.range n).map fun _ => true) hc
  have e : ((List.range n).map fun _ => true).all id = true := by simp
  rwa [e] at h
/-! ### thinned, area -/
def RThin : List PyData → PyData → Prop := fun ds r => ∃ v : Wk, v.length ≤ 9000 ∧ ds = [W v] ∧ r = W (thin v)
def RArea : List PyData → PyData → Prop := fun ds r => ∃ v : Wk, v.length ≤ 9000 ∧ ds = [W v] ∧ r = .int (areaW (0, 0) v)
def RAreaC : List PyData → PyData → Prop := fun ds r => ∃ v : Wk, v.length ≤ 9000 ∧ goAll (0, 0) v = (0, 0) ∧ ds = [W v] ∧ r = .int (areaW (0, 0) v)
theorem pl_L1s (st : Wk) : pl 9 (.list (st.map L1)) = true := pls_map (n := 8) fun d => by cases d <;> decide +kernel
theorem atI_lastW {st : Wk} {t : Dr} (h : st.getLast? = some t) : atI (st.map L1) (-1) = some (L1 t) := atI_neg1 _ _ (by rw [List.getLast?_map, h]; rfl)
theorem cmp_eqLW {X : Cx} {a d : Dr} : Cmp X .Eq (L1 a) (W [d]) (decide (a = d)) := cmp_eqL
theorem nil_iff {st : Wk} {b : Bool} (h : b = decide (st = [])) : b = true ↔ PyData.list (st.map L1) = .list [] := by
  subst h
  rw [decide_eq_true_iff]
  constructor
  · intro h; rw [h]; rfl
  · intro h
    injection h with h
    exact List.map_eq_nil_iff.mp h
theorem pushE_true {st : Wk} {d : Dr} (h : st.getLast? = some (opp d)) : pushE st d = st.dropLast := if_pos h
theorem pushE_false {st : Wk} {d : Dr} (h : ¬ st.getLast? = some (opp d)) : pushE st d = st ++ [d] := if_neg h
theorem thin_snoc (v : Wk) (i : Nat) (h : i < v.length) : thin (v.take (i + 1)) = pushE (thin (v.take i)) (v.getD i .n) := by
  rw [take_getD v .n i h]
  unfold thin
  rw [List.foldl_append]
  rfl
theorem ex_last {st : Wk} (h : st ≠ []) : ∃ t, st.getLast? = some t := ⟨_, List.getLast?_eq_some_getLast h⟩
section
variable {X : Cx} {env : En} {pos : Pos} {e e2 : Expr} {l1 : Expr} {rest : List Expr}
/-- found != [] and found[-1] == turned(letter, 2) -/
theorem et_top {st : Wk} {d : Dr} {k : Nat} {f i o : Expr} {p1 p2 : Pos} (hr : Room k X.A) (hf : Ev X env f (.list (st.map L1))) (hi : st ≠ [] → Ev X env i (.list (st.map L1)) ∧ Ev X env o (W [opp d])) {x1 : Nat} {p3 p4 p5 p6 : Pos} :
    EvT X env (.BoolOp .And [.Compare f [.NotEq] [.List [] p1] p2, .Compare (.Subscript i (.UnaryOp .USub (.Constant (.int 1) x1 p3) p4) p5) [.Eq] [o] p6] pos) (decide (st.getLast? = some (opp d))) := by
  by_cases h : st = []
  · subst h
    refine EvT.is (et_w (ew_and (x := !true) (y := false) (et_cmp hf (EvL.d (evl_lst ea_nil)) (cmp_neD (b := true) hr (pl_L1s _) rfl (nil_iff (by simp))) (nomark _)) fun z => by cases z)) (by rw [List.getLast?_nil]; rfl)
  · obtain ⟨t, ht⟩ := ex_last h
    obtain ⟨hi, ho⟩ := hi h
    refine EvT.is (et_w (ew_and (x := !false) (et_cmp hf (EvL.d (evl_lst ea_nil)) (cmp_neD (b := false) hr (pl_L1s _) rfl (nil_iff (by rw [decide_eq_false h]))) (nomark _)) fun _ => ew_and1 (et_cmp (ev_ix hi (ev_un ev_int un_negI) (ix_L (atI_lastW ht))) ho cmp_eqLW (nomark _)))) (by rw [ht]; simp)
end
section
variable {P : Program} {w : World} {K : PySem.W.Frag} {mg : Str → Option Value} {base : Heap}
end
theorem its_zipP {X : Cx} {H0 : Hp} {env : En} {e e2 : Expr} {elts : List Expr} {kk : Nat} {p pos tpos : Pos} {v : Wk} (hg : Gl X "zip") (hm : X.mg "zip" = none) (he : EvL X env e ((pls0 v).map ptD)) (he2 : Ev X env e2 (W v))
    (hs : starEach [e, e2] X.env = (false, eval e X.env) :: starEach [e2] X.env := by rfl) (hs2 : starEach [e2] X.env = (false, eval e2 X.env) :: starEach [] X.env := by rfl) (hpl : (backTo pos (starEach [e2] X.env)).any (·.1) = false := by rfl) :
    ItS X H0 env (.Tuple elts kk tpos) (.Call (.Name "zip" p) [e, e2] [] pos) v.length (fun i => .tuple [.tuple [.int (goAll (0, 0) (v.take i)).1, .int (goAll (0, 0) (v.take i)).2], L1 (v.getD i .n)]) := by
  have h := its_zipS (H0 := H0) (elts := elts) (kk := kk) (tpos := tpos) (p := p) hg hm he he2 (fzs_map fun p => rfl) hs hs2 hpl
  rw [List.length_map, pls0_len, cps_len, Nat.min_eq_right (by omega)] at h
  refine h.congr fun i hi => ?_
  rw [cps_getD v i hi]
  have e1 : ((pls0 v).map ptD).getD i .none = ptD (goAll (0, 0) (v.take i)) := by
    unfold pls0
    rw [List.getD_eq_getElem?_getD, List.getElem?_map, walkFrom_get v (0, 0) i (by omega)]
    rfl
  rw [e1]
  rfl
theorem areaW_take (v : Wk) (i : Nat) (h : i < v.length) : areaW (0, 0) (v.take (i + 1)) = areaW (0, 0) (v.take i) + (goAll (0, 0) (v.take i)).1 * (v.getD i .n).dy := by rw [take_getD v .n i h, areaW_snoc]
theorem crossW_take (v : Wk) (i : Nat) (h : i < v.length) : crossW (0, 0) (v.take (i + 1)) = crossW (0, 0) (v.take i) + ((goAll (0, 0) (v.take i)).1 * (goAll (0, 0) (v.take (i + 1))).2 - (goAll (0, 0) (v.take (i + 1))).1 * (goAll (0, 0) (v.take i)).2) := by
  rw [take_getD v .n i h, crossW_app, goAll_app]
  simp [crossW, goAll]
theorem pls0_at (v : Wk) (i : Nat) (h : i ≤ v.length) : atI ((pls0 v).map ptD) (i : Int) = some (ptD (goAll (0, 0) (v.take i))) := by
  refine atI_nat ?_
  unfold pls0
  rw [List.getElem?_map, walkFrom_get v (0, 0) i h]
  rfl
theorem take_small (v : Wk) (i : Nat) : (goAll (0, 0) (v.take i)).1.natAbs + (goAll (0, 0) (v.take i)).2.natAbs ≤ v.length := by
  have h := end_small (v.take i)
  rw [List.length_take] at h
  omega
section
variable {P : Program} {w : World} {K : PySem.W.Frag} {mg : Str → Option Value} {base : Heap}
theorem ok_area_of (F : Df K mg "area_of" s_area_of ["walk"]) (hb : Blt mg) (c1 : Cd P w K mg base 2 "walked" (spL K RWalked)) : Cd P w K mg base 3 "area_of" (spD K RArea) := by
  refine cdD F sc_area_of (fun ds r ⟨_, _, e, _⟩ => by rw [e]; rfl) fun f cdv A outer s H E hr nd ds r D ⟨v, hv, e1, e2⟩ hD hN => ?_
  subst e1 e2
  refine run_env (e' := [some (.d (W v)), none, none, none, none]) rfl ?_
  refine rs_F (d := .int 0) rfl nd (.inl rfl) (by walk_at "ev") rfl ?_
  refine rs_for21 (n := v.length) (u := fun i => .int (goAll (0, 0) (v.take i)).1) (v := fun i => .int (goAll (0, 0) (v.take i)).2) (w := fun i => L1 (v.getD i .n)) (fun i => [some (.d (W v)), some (.d (.int (areaW (0, 0) (v.take i)))), none, none, none]) rfl rfl rfl nd (.inl rfl) (.inl rfl) (.inl rfl) PassesOwn.never (its_zipP rfl hb.zip (by walk_at "el") (by walk_at "ev")) (by walk_at "le") (fun i _ => ⟨rfl, rfl, rfl⟩) (fun i Hl D' hi hs hn hrt => ?_) ?_
  · have e1 := areaW_take v i hi
    generalize v.getD i .n = d at *
    generalize areaW (0, 0) (v.take i) = a at *
    generalize goAll (0, 0) (v.take i) = p at *
    refine run_if (z := decide (d = .n)) (by walk_at "et") (fun z => ?_) (fun z => ?_)
    · refine rs_F (d := .int (a + p.1)) rfl nd (.inl rfl) (by walk_at "ev") rfl (run_nx (run_turn hn ?_))
      have e := ofT z
      subst e
      rw [e1, show p.1 * Dr.n.dy = p.1 from Int.mul_one _]
      walk_at "le"
    · refine run_if (z := decide (d = .s)) (by walk_at "et") (fun z2 => ?_) (fun z2 => ?_)
      · refine rs_F (d := .int (a - p.1)) rfl nd (.inl rfl) (by walk_at "ev") rfl (run_nx (run_nx (run_turn hn ?_)))
        have e := ofT z2
        subst e
        rw [e1, show a + p.1 * Dr.s.dy = a - p.1 by simp only [Dr.dy]; omega]
        walk_at "le"
      · refine run_nx (run_nx (run_turn hn ?_))
        have e : d.dy = 0 := by cases d <;> first | rfl | (revert z z2; decide)
        rw [e1, e, Int.mul_zero, Int.add_zero]
        walk_at "le"
  · rw [List.take_length]
    exact run_ret (by walk_at "ev") hD
theorem ok_area (F : Df K mg "area" s_area ["walk"]) (c1 : Cd P w K mg base 3 "asked_closed" (spD K RAskC)) (c2 : Cd P w K mg base 3 "area_of" (spD K RArea)) : Cd P w K mg base 4 "area" (spD K RAreaC) := by
  refine cdD F sc_area (fun ds r ⟨_, _, _, e, _⟩ => by rw [e]; rfl) fun f cdv A outer s H E hr nd ds r D ⟨v, hv, hc, e1, e2⟩ hD hN => ?_
  subst e1 e2
  refine run_env (e' := [some (.d (W v))]) rfl ?_
  refine run_expr (d := .none) (ev_call c1 hr (by decide) rfl (ea_cons (by walk_at "ev") ea_nil) ⟨v, hv, hc, rfl, rfl⟩) ?_
  exact run_ret (by walk_at "ev") hD
theorem ok__law_area (F : Df K mg "_law_area" s__law_area ["_law_walk_here"]) (hb : Blt mg) (c1 : Cd P w K mg base 1 "_law_places" (spL K RWalked)) : Cd P w K mg base 2 "_law_area" (spD K RAreaC) := by
  refine cdD F sc__law_area (fun ds r ⟨_, _, _, e, _⟩ => by rw [e]; rfl) fun f cdv A outer s H E hr nd ds r D ⟨v, hv, hc, e1, e2⟩ hD hN => ?_
  subst e1 e2
  refine run_env (e' := [some (.d (W v)), none, none, none, none, none, none, none]) rfl ?_
  refine rs_B (d := .list ((pls0 v).map ptD)) rfl nd (.inl rfl) (by walk_at "ev") rfl ?_
  refine rs_F (d := .int 0) rfl nd (.inl rfl) (by walk_at "ev") rfl ?_
  refine rs_for (n := v.length) (item := fun i => .int (i : Int)) (fun i => [some (.d (W v)), some (.d (.list ((pls0 v).map ptD))), some (.d (.int (crossW (0, 0) (v.take i)))), none, none, none, none, none]) rfl nd (.inl rfl) PassesOwn.never (its_range1 (n := (v.length : Int)) rfl hb.range (by walk_at "ev") (by omega)) (by walk_at "le") (fun i _ => rfl) (fun i Hl D' hi hs hn hrt => ?_) ?_
  · have e1 := crossW_take v i hi
    have s1 := take_small v i
    have s2 := take_small v (i + 1)
    have a1 := pls0_at v i (by omega)
    have a2 := pls0_at v (i + 1) (by omega)
    rw [show ((i + 1 : Nat) : Int) = (i : Int) + 1 by omega] at a2
    generalize crossW (0, 0) (v.take i) = c at *
    generalize goAll (0, 0) (v.take i) = p at *
    generalize goAll (0, 0) (v.take (i + 1)) = q at *
    refine rs_un2 rfl rfl nd (.inl rfl) (.inl rfl) (a := .int p.1) (b := .int p.2) (ev_ix (by walk_at "ev") (by walk_at "ev") (ix_L a1)) rfl ?_
    refine rs_un2 rfl rfl nd (.inl rfl) (.inl rfl) (a := .int q.1) (b := .int q.2) (ev_ix (by walk_at "ev") (by walk_at "ev") (ix_L a2)) rfl ?_
    refine rs_F (d := .int (c + p.1 * q.2 - q.1 * p.2)) rfl nd (.inl rfl) (ev_bin (ev_bin (by walk_at "ev") (ev_bin (by walk_at "ev") (by walk_at "ev") (bin_mulI (.inl ⟨by omega, by omega⟩))) bin_addI) (ev_bin (by walk_at "ev") (by walk_at "ev") (bin_mulI (.inl ⟨by omega, by omega⟩))) bin_subI) rfl (run_turn hn ?_)
    rw [e1, Int.add_sub_assoc]
    walk_at "le"
  · rw [List.take_length]
    refine run_ret (ev_bin (by walk_at "ev") (by walk_at "ev") (bin_fdivI (by decide))) ?_
    rw [cross_half hc]
    exact hD
end
/-! ### between -/
theorem areaW_back : ∀ (v : Wk) (p : Pt), areaW (goAll p v) (backW v) = - areaW p v
  | [], p => rfl
  | d :: v, p => by
    rw [backW_cons]
    show areaW (goAll (go p d) v) (backW v ++ [turnD 2 d]) = - (p.1 * d.dy + areaW (go p d) v)
    rw [areaW_snoc, areaW_back v]
    have h : goAll (goAll (go p d) v) (backW v) = go p d := by
      have := goAll_back v (go p d)
      rwa [goAll_app] at this
    rw [h]
    cases d <;> simp [turnD, Dr.ix, Dr.of, Dr.dx, Dr.dy, go] <;> omega
theorem btw_eq {a b : Wk} (h : goAll (0, 0) a = goAll (0, 0) b) : areaW (0, 0) (a ++ backW b) = areaW (0, 0) a - areaW (0, 0) b := by
  rw [areaW_app, h, areaW_back]
  omega
theorem btw_closed {a b : Wk} (h : goAll (0, 0) a = goAll (0, 0) b) : goAll (0, 0) (a ++ backW b) = (0, 0) := by
  rw [goAll_app, h, ← goAll_app]
  exact goAll_back b (0, 0)
theorem cnt_perm {a b : Wk} (h : a.Perm b) (c : Dr) : cnt c a = cnt c b := (h.filter _).length_eq
theorem end_perm {a b : Wk} (h : a.Perm b) : goAll (0, 0) a = goAll (0, 0) b := by
  rw [goAll_end, goAll_end, cnt_perm h, cnt_perm h, cnt_perm h, cnt_perm h]
def RBtw : List PyData → PyData → Prop := fun ds r => ∃ a b : Wk, a.length + b.length ≤ 9000 ∧ goAll (0, 0) a = goAll (0, 0) b ∧ ds = [W a, W b] ∧ r = .int (areaW (0, 0) a - areaW (0, 0) b)
section
variable {P : Program} {w : World} {K : PySem.W.Frag} {mg : Str → Option Value} {base : Heap}
theorem ok_between (F : Df K mg "between" s_between ["one", "other"]) (ce : Cd P w K mg base 2 "end" (spD K REnd)) (ca : Cd P w K mg base 3 "area_of" (spD K RArea)) (cb : Cd P w K mg base 2 "back" (spD K RBack)) : Cd P w K mg base 4 "between" (spD K RBtw) := by
  refine cdD F sc_between (fun ds r ⟨_, _, _, _, e, _⟩ => by rw [e]; rfl) fun f cdv A outer s H E hr nd ds r D ⟨a, b, hl, he, e1, e2⟩ hD hN => ?_
  subst e1 e2
  refine run_env (e' := [some (.d (W a)), some (.d (W b))]) rfl ?_
  have lb := backW_len b
  refine run_ifF0 (et_neF (ev_call ce hr (by decide) rfl (ea_cons (by walk_at "ev") ea_nil) ⟨a, by omega, rfl, rfl⟩) (ev_call ce hr (by decide) rfl (ea_cons (by walk_at "ev") ea_nil) ⟨b, by omega, rfl, rfl⟩) (by rw [he]) (neD hr rfl)) ?_
  rw [← btw_eq he] at hD
  exact run_ret (ev_call ca hr (by decide) rfl (ea_cons (ev_bin (by walk_at "ev") (ev_call cb hr (by decide) rfl (ea_cons (by walk_at "ev") ea_nil) ⟨b, by omega, rfl, rfl⟩) (bin_addW (by omega))) ea_nil) ⟨a ++ backW b, by rw [List.length_append]; omega, rfl, rfl⟩) hD
end
end Sw

namespace Sw
open PySem PySem.Spec PyProof.Rows L2
local macro_rules | `(tactic| walk_at "vis") => `(tactic| first | exact .inl rfl | exact .inr (.inl rfl) | exact .inr (.inr rfl))
local macro_rules | `(tactic| walk_at "loc") => `(tactic| first | exact .inl rfl | exact .inr rfl)
local macro_rules | `(tactic| walk_at "str") => `(tactic| first | with_reducible exact s_ | with_reducible exact s_n | with_reducible exact s_w | with_reducible exact s_s | with_reducible exact s_e | with_reducible exact s_ns | with_reducible exact s_nwse | with_reducible exact s_nesw)
local macro_rules | `(tactic| walk_at "len") => `(tactic| first | omega | (simp; done) | (simp; omega))
local macro_rules | `(tactic| walk_at "bin") => `(tactic| first | with_reducible exact bin_addI | with_reducible exact bin_subI | with_reducible exact bin_modI (by omega) | with_reducible exact bin_addW (by walk_at "len"))
local macro_rules | `(tactic| walk_at "cmp") => `(tactic| first | with_reducible exact cmp_eqI | with_reducible exact cmp_neI | with_reducible exact cmp_eqW | with_reducible exact cmp_neW | with_reducible exact cmp_eqLn | with_reducible exact cmp_eqLw | with_reducible exact cmp_eqLs | with_reducible exact cmp_eqLe | with_reducible exact cmp_neLn | with_reducible exact cmp_neLw | with_reducible exact cmp_neLs | with_reducible exact cmp_neLe | with_reducible exact cmp_eqW0 | with_reducible exact cmp_neW0 | with_reducible exact cmp_eqL | with_reducible exact cmp_neL | with_reducible exact cmp_eqS | with_reducible exact cmp_neS | with_reducible exact cmp_ltI | with_reducible exact cmp_leI | with_reducible exact cmp_gtI | with_reducible exact cmp_geI | with_reducible exact cmp_inL | with_reducible exact cmp_inS)
local macro_rules | `(tactic| walk_at "mark") => `(tactic| first | exact nomark _ | rfl)
local macro_rules | `(tactic| walk_at "ea") => `(tactic| first | with_reducible exact ea_nil | (refine' ea_cons ?e ?r; (case e => walk_at "ev"); (case r => walk_at "ea")))
local macro_rules | `(tactic| walk_at "el") => `(tactic| first
  | (refine' evl_call (by assumption) (by assumption) (by decide) rfl ?a ?r; (case a => walk_at "ea"); (case r => walk_at "rel"))
  | (refine' evl_lst ?a ?l; (case a => walk_at "ea"); (case l => simp)))
local macro_rules | `(tactic| walk_at "ev") => `(tactic| first
  | with_reducible exact ev_int
  | (refine' ev_nm rfl ?v rfl rfl; (case v => walk_at "vis"))
  | (refine' ev_strS ?h; (case h => walk_at "str"))
  | (refine' ev_tup ?a ?l; (case a => walk_at "ea"); (case l => simp))
  | (refine' ev_bin ?a ?b ?r; (case a => walk_at "ev"); (case b => walk_at "ev"); (case r => walk_at "bin"))
  | (refine' ev_un ?a ?r; (case a => walk_at "ev"); (case r => exact un_negI))
  | (refine' ev_call (by assumption) (by assumption) (by decide) rfl ?a ?r; (case a => walk_at "ea"); (case r => walk_at "rel"))
  | (refine' ev_callB ?c rfl ?m ?b ?a; (case b => walk_at "boot"); (case a => walk_at "ea"); (case m => walk_at "blt"); (case c => walk_at "call"))
  | (refine' ev_isi ?e rfl ?m rfl ?n ?b ?t ?k; (case b => walk_at "boot"); (case e => walk_at "ev"); (case m => walk_at "blt"); (case n => walk_at "blt"); (case t => walk_at "ty"); (case k => walk_at "kit"))
  | (refine' ev_m1 PySem.F.slot_str_count PySem.F.type_str_count ?m ?t ?o ?e; (case o => walk_at "ev"); (case t => walk_at "ty"); (case e => walk_at "ev"); (case m => first | with_reducible exact mt_countWn | with_reducible exact mt_countWw | with_reducible exact mt_countWs | with_reducible exact mt_countWe))
  | (refine' ev_m1 PySem.F.slot_str_index PySem.F.type_str_index ?m ?t ?o ?e; (case o => walk_at "ev"); (case t => walk_at "ty"); (case e => walk_at "ev"); (case m => exact mt_indexW))
  | (refine' ev_m1 PySem.F.slot_str_strip PySem.F.type_str_strip ?m ?t ?o ?e; (case o => walk_at "ev"); (case t => walk_at "ty"); (case e => walk_at "ev"); (case m => exact mt_stripW (by walk_at "len")))
  | (refine' ev_ix ?a ?b ?r; (case a => walk_at "ev"); (case b => walk_at "ev"); (case r => walk_at "ix"))
  | (refine' EvL.d ?a; (case a => walk_at "el"))
  | exact ev_globS rfl (by assumption)
  | with_reducible exact ev_bl | with_reducible exact ev_non)
local macro_rules | `(tactic| walk_at "blt") => `(tactic| first
  | exact Blt.isinstance (by assumption) | exact Blt.int (by assumption) | exact Blt.bool (by assumption) | exact Blt.str (by assumption) | exact Blt.list (by assumption) | exact Blt.tuple (by assumption) | exact Blt.range (by assumption) | exact Blt.len (by assumption) | exact Blt.sum (by assumption) | exact Blt.abs (by assumption) | exact Blt.min (by assumption) | exact Blt.all (by assumption) | exact Blt.any (by assumption) | exact Blt.sorted (by assumption) | exact Blt.set (by assumption) | exact Blt.enumerate (by assumption) | exact Blt.zip (by assumption) | exact Blt.reversed (by assumption))
local macro_rules | `(tactic| walk_at "call") => `(tactic| first | exact ev_lenW (by walk_at "len") | exact call_lenL | exact call_lenT | exact call_absI | exact call_minI rfl | exact call_sumI rfl)
local macro_rules | `(tactic| walk_at "et") => `(tactic| (refine' EvT.is ?a ?b; (case a => walk_at "et0"); (case b => rfl)))
local macro_rules | `(tactic| walk_at "evg") => `(tactic| (refine' Ev.is ?a ?b; (case a => walk_at "ev"); (case b => rfl)))
local macro_rules | `(tactic| walk_at "et0") => `(tactic| first
  | (refine' et_not ?a; (case a => walk_at "et0"))
  | (refine' et_cmp ?a ?b ?r ?m; (case a => walk_at "ev"); (case b => walk_at "ev"); (case r => walk_at "cmp"); (case m => walk_at "mark"))
  | (refine' et_val ?a ?h; (case a => walk_at "ev"); (case h => (intro _; rfl))))
local macro_rules | `(tactic| walk_at "boot") => `(tactic| first | with_reducible exact b_int | with_reducible exact b_bool | with_reducible exact b_str | with_reducible exact b_list | with_reducible exact b_tuple | with_reducible exact b_range | with_reducible exact b_set | with_reducible exact b_enumerate | with_reducible exact b_zip | with_reducible exact b_reversed | with_reducible exact b_isinstance | with_reducible exact b_len | with_reducible exact b_sum | with_reducible exact b_abs | with_reducible exact b_min | with_reducible exact b_all | with_reducible exact b_any | with_reducible exact b_sorted)
local macro_rules | `(tactic| walk_at "ix") => `(tactic| first | exact ix_lett)
local macro_rules | `(tactic| walk_at "kit") => `(tactic| first | with_reducible exact k_int_int | with_reducible exact k_int_bool | with_reducible exact k_int_str | with_reducible exact k_int_list | with_reducible exact k_int_tuple | with_reducible exact k_bool_int | with_reducible exact k_bool_bool | with_reducible exact k_bool_str | with_reducible exact k_bool_list | with_reducible exact k_bool_tuple | with_reducible exact k_str_int | with_reducible exact k_str_bool | with_reducible exact k_str_str | with_reducible exact k_str_list | with_reducible exact k_str_tuple | with_reducible exact k_list_int | with_reducible exact k_list_bool | with_reducible exact k_list_str | with_reducible exact k_list_list | with_reducible exact k_list_tuple | with_reducible exact k_tuple_int | with_reducible exact k_tuple_bool | with_reducible exact k_tuple_str | with_reducible exact k_tuple_list | with_reducible exact k_tuple_tuple | with_reducible exact k_NoneType_int | with_reducible exact k_NoneType_bool | with_reducible exact k_NoneType_str | with_reducible exact k_NoneType_list | with_reducible exact k_NoneType_tuple)
local macro_rules | `(tactic| walk_at "ty") => `(tactic| first | with_reducible exact ty_int | with_reducible exact ty_W | with_reducible exact ty_ptD | with_reducible exact ty_bool | with_reducible exact ty_str | with_reducible exact ty_list | with_reducible exact ty_tuple | with_reducible exact ty_none)
local macro_rules | `(tactic| walk_at "rel") => `(tactic| first | exact ⟨_, by walk_at "len", rfl, rfl⟩ | exact ⟨_, _, by walk_at "len", rfl, rfl⟩ | exact ⟨_, rfl, rfl⟩ | exact ⟨_, _, rfl, rfl⟩)
local macro_rules | `(tactic| walk_at "ix") => `(tactic| first | exact ix_lett | exact ix_nesw)
local macro_rules | `(tactic| walk_at "le") => `(tactic| repeat first | exact .nil | refine .keep rfl ?_ | refine .skip ?_)
noncomputable def sortW (u : Wk) : Wk := u.mergeSort fun a b => PySem.W.dataLe false id (L1 a) (L1 b)
theorem srt_L1 (u : Wk) : srt (u.map L1) = (sortW u).map L1 := (List.map_mergeSort (r := fun a b => PySem.W.dataLe false id (L1 a) (L1 b)) (s := PySem.W.dataLe false id) (f := L1) (l := u) (fun _ _ _ _ => rfl)).symm
theorem sortW_perm (u : Wk) : (sortW u).Perm u := List.mergeSort_perm ..
theorem sortW_len (u : Wk) : (sortW u).length = u.length := (sortW_perm u).length_eq
theorem call_sortedW {X : Cx} {k : Nat} {u : Wk} (hr : Room k X.A) (hc : X.calm = true) (hL : u.length ≤ 1000000) : CallL X (.builtin "sorted") [W u] ((sortW u).map L1) := by
  have h := call_sortedS (l := cps u) hr hc (by rw [cps_len]; exact hL)
  rw [show (cps u).map (fun c => PyData.str (SX.S [c])) = u.map L1 by unfold cps; rw [List.map_map]; rfl, srt_L1] at h
  exact h
theorem pl_W (u : Wk) : pl 8 (W u) = true := by
  show PyData.strOk (SX.S (cps u)) = true
  unfold PyData.strOk SX.S
  rw [Array.all_eq_true]
  intro i hi
  simp only [List.size_toArray] at hi
  have : (cps u)[i] ∈ cps u := List.getElem_mem hi
  obtain ⟨d, _, hd⟩ := List.mem_map.mp this
  have e : (cps u).toArray[i] = d.code := by simpa using hd.symm
  rw [e]
  cases d <;> decide
def tw (a b : Dr) : Int := a.dx * b.dy - b.dx * a.dy
theorem area_swap (p q : Wk) (a b : Dr) : areaW (0, 0) (p ++ a :: b :: q) - areaW (0, 0) (p ++ b :: a :: q) = tw a b := by
  rw [areaW_app, areaW_app]
  show _ + ((goAll (0, 0) p).1 * a.dy + ((go (goAll (0, 0) p) a).1 * b.dy + areaW (go (go (goAll (0, 0) p) a) b) q)) - (_ + ((goAll (0, 0) p).1 * b.dy + ((go (goAll (0, 0) p) b).1 * a.dy + areaW (go (go (goAll (0, 0) p) b) a) q))) = _
  generalize goAll (0, 0) p = z
  have e : go (go z a) b = go (go z b) a := Prod.ext (by simp [go]; omega) (by simp [go]; omega)
  rw [e]
  unfold tw
  cases a <;> cases b <;> simp [go, Dr.dx, Dr.dy] <;> omega
def enws : Wk := [.e, .n, .w, .s]
def ns2 : Wk := [.n, .s]
theorem s_enws : Str.ofString "enws" = SX.S (cps enws) := rfl
theorem s_ns2 : Str.ofString "ns" = SX.S (cps ns2) := rfl
theorem go_enws (p : Pt) : goAll p enws = p := by refine Prod.ext ?_ ?_ <;> simp [goAll, enws, go, Dr.dx, Dr.dy] <;> omega
theorem go_ns2 (p : Pt) : goAll p ns2 = p := by refine Prod.ext ?_ ?_ <;> simp [goAll, ns2, go, Dr.dx, Dr.dy] <;> omega
theorem area_enws (p : Pt) : areaW p enws = 1 := by simp [areaW, enws, go, Dr.dx, Dr.dy]; omega
theorem area_ns2 (p : Pt) : areaW p ns2 = 0 := by simp [areaW, ns2, go, Dr.dx, Dr.dy]; omega
def upL : List PyData := [W [.e, .n], W [.n, .w], W [.w, .s], W [.s, .e]]
def dnL : List PyData := [W [.n, .e], W [.w, .n], W [.s, .w], W [.e, .s]]
theorem W_inj {a b : Wk} (h : W a = W b) : a = b := by
  unfold W at h
  injection h with h
  exact cps_inj (SX.S_inj h)
theorem mem_up (a b : Dr) : (decide (tw a b = 1) = true) ↔ W [a, b] ∈ upL := by
  have e : upL = ([[.e, .n], [.n, .w], [.w, .s], [.s, .e]] : List Wk).map W := rfl
  rw [e, List.mem_map, decide_eq_true_iff]
  constructor
  · intro h
    refine ⟨[a, b], ?_, rfl⟩
    revert h
    cases a <;> cases b <;> decide
  · rintro ⟨x, hx, hw⟩
    have := W_inj hw
    subst this
    revert hx
    cases a <;> cases b <;> decide
theorem mem_dn (a b : Dr) : (decide (tw a b = -1) = true) ↔ W [a, b] ∈ dnL := by
  have e : dnL = ([[.n, .e], [.w, .n], [.s, .w], [.e, .s]] : List Wk).map W := rfl
  rw [e, List.mem_map, decide_eq_true_iff]
  constructor
  · intro h
    refine ⟨[a, b], ?_, rfl⟩
    revert h
    cases a <;> cases b <;> decide
  · rintro ⟨x, hx, hw⟩
    have := W_inj hw
    subst this
    revert hx
    cases a <;> cases b <;> decide
theorem tw_cases (a b : Dr) : tw a b = 0 ∨ tw a b = 1 ∨ tw a b = -1 := by cases a <;> cases b <;> decide
theorem pl_upL : pl 9 (.list upL) = true := pls_of fun d hd => by
  have e : upL = ([[.e, .n], [.n, .w], [.w, .s], [.s, .e]] : List Wk).map W := rfl
  rw [e] at hd
  obtain ⟨x, _, rfl⟩ := List.mem_map.mp hd
  exact pl_W x
theorem pl_dnL : pl 9 (.list dnL) = true := pls_of fun d hd => by
  have e : dnL = ([[.n, .e], [.w, .n], [.s, .w], [.e, .s]] : List Wk).map W := rfl
  rw [e] at hd
  obtain ⟨x, _, rfl⟩ := List.mem_map.mp hd
  exact pl_W x
theorem pl_W9 (u : Wk) : pl 9 (W u) = true := pl_W u
section
variable {X : Cx} {env : En}
/-- a written text that is a walk -/
theorem ev_strW {x : Str} {u : Wk} {j} {pos : Pos} (h : x = SX.S (cps u)) : Ev X env (.Constant (.str x) j pos) (W u) := ev_strS h
theorem evl_up {p1 p2 p3 p4 p5 : Pos} {j1 j2 j3 j4} : EvL X env (.List [.Constant (.str "en") j1 p1, .Constant (.str "nw") j2 p2, .Constant (.str "ws") j3 p3, .Constant (.str "se") j4 p4] p5) upL := evl_lst (ea_cons (ev_strW rfl) (ea_cons (ev_strW rfl) (ea_cons (ev_strW rfl) (ea_cons (ev_strW rfl) ea_nil)))) (by decide)
theorem evl_dn {p1 p2 p3 p4 p5 : Pos} {j1 j2 j3 j4} : EvL X env (.List [.Constant (.str "ne") j1 p1, .Constant (.str "wn") j2 p2, .Constant (.str "sw") j3 p3, .Constant (.str "es") j4 p4] p5) dnL := evl_lst (ea_cons (ev_strW rfl) (ea_cons (ev_strW rfl) (ea_cons (ev_strW rfl) (ea_cons (ev_strW rfl) ea_nil)))) (by decide)
end
theorem run_join2 {X : Cx} {H0 : Hp} {env : En} {D : Ends} {rest : List Stmt} {st : Stmt} {α : Type} (E : α → En) (ok : α → Prop) (body : (∀ u, ok u → Run X H0 (E u) rest D) → Run X H0 env (st :: rest) D) (tail : ∀ u, ok u → Run X H0 (E u) rest D) : Run X H0 env (st :: rest) D := body tail
section
variable {P : Program} {w : World} {K : PySem.W.Frag} {mg : Str → Option Value} {base : Heap}
set_option maxHeartbeats 40000000 in
theorem ok_law {f : Addr} {fd : FuncData} (F : Fun K "law" "law" s_law f fd) (hb : Blt mg) (cw : Cd P w K mg base 4 "between" (spD K RBtw)) (ca : Cd P w K mg base 4 "area" (spD K RAreaC))
    (lw : Cd P w K mg base 1 "_law_walk" (spD K RLWalk)) (lt : Cd P w K mg base 1 "_law_turned" (spD K RTurned)) (lc : Cd P w K mg base 2 "_law_closed" (spD K RLClosed)) (la : Cd P w K mg base 2 "_law_area" (spD K RAreaC)) :
    FnOk P w K mg base CX0 5 f fd ["_law_script"] (spD K RLaw) := by
  refine fnD1 F sc_law (fun ds r ⟨_, _, e, _⟩ => by rw [e]; rfl) fun f cdv A outer s H E hr nd ds r D ⟨ns, hns, e1, e2⟩ hD hN => ?_
  subst e1 e2
  refine run_env (e' := [some (.d (.list (ns.map PyData.int))), none, none, none, none, none, none, none, none, none, none, none]) rfl ?_
  have hl : (lawW ns).length = ns.length := lawW_len ns
  refine rs_F (d := W (lawW ns)) rfl nd (by walk_at "loc") (ev_call lw hr (by decide) rfl (ea_cons (by walk_at "ev") ea_nil) ⟨ns, by omega, rfl, rfl⟩) rfl ?_
  generalize lawW ns = u at *
  have ho := sortW_len u
  have heo := end_perm (sortW_perm u)
  refine rs_F (d := W (sortW u)) rfl nd (by walk_at "loc") (ev_joinW (w := sortW u) (EvL.d (evl_callB (call_sortedW hr rfl (by omega)) rfl hb.sorted b_sorted (ea_cons (by walk_at "ev") ea_nil))) (by omega)) rfl ?_
  generalize sortW u = o at *
  refine rs_F (d := .int ((u.length : Int) / 2)) rfl nd (by walk_at "loc") (ev_bin (by walk_at "ev") ev_int (bin_fdivI (by decide))) rfl ?_
  obtain ⟨m, hm, hmu⟩ : ∃ m : Nat, (u.length : Int) / 2 = (m : Int) ∧ m ≤ u.length := ⟨u.length / 2, by omega, by omega⟩
  rw [hm]
  have c1 := cut_from u m
  have c2 := cut_to u m
  refine rs_F (d := W (u.drop m ++ u.take m)) rfl nd (by walk_at "loc") (Ev.is (ev_bin (ev_slW (by walk_at "ev") (evp_some (by walk_at "ev")) evp_none (by omega)) (ev_slW (by walk_at "ev") evp_none (evp_some (by walk_at "ev")) (by omega)) (bin_addW (by rw [c1, c2, List.length_drop, List.length_take]; omega))) (by rw [c1, c2])) rfl ?_
  have hto : goAll (0, 0) u = goAll (0, 0) (u.drop m ++ u.take m) := by
    have : (u.take m ++ u.drop m).Perm (u.drop m ++ u.take m) := List.perm_append_comm
    rw [List.take_append_drop] at this
    exact end_perm this
  have hth : (u.drop m ++ u.take m).length = u.length := by rw [List.length_append, List.length_drop, List.length_take]; omega
  generalize u.drop m ++ u.take m = th at *
  clear c1 c2
  have lbo := backW_len o
  refine rs_F (d := .int (areaW (0, 0) u - areaW (0, 0) o)) rfl nd (by walk_at "loc") (Ev.is (ev_call la hr (by decide) rfl (ea_cons (ev_bin (by walk_at "ev") (ev_call lt hr (by decide) rfl (ea_cons (ev_revW (by walk_at "ev") (by omega)) (ea_cons ev_int ea_nil)) ⟨o.reverse, 2, by rw [List.length_reverse]; omega, rfl, rfl⟩) (bin_addW (b := backW o) (by omega))) ea_nil) ⟨u ++ backW o, by rw [List.length_append]; omega, btw_closed heo.symm, rfl, rfl⟩) (by rw [btw_eq heo.symm])) rfl ?_
  refine rs_F (d := .int (areaW (0, 0) u - areaW (0, 0) o)) rfl nd (by walk_at "loc") (ev_call cw hr (by decide) rfl (ea_cons (by walk_at "ev") (ea_cons (by walk_at "ev") ea_nil)) ⟨u, o, by omega, heo.symm, rfl, rfl⟩) rfl ?_
  refine run_ifF0 (et_w (ew_oF (et_neF (by walk_at "ev") (by walk_at "ev") rfl (neD hr rfl)) (ew_oF (et_val (by walk_at "ev")) (ew_oF (et_neF (x := .int (areaW (0, 0) o - areaW (0, 0) u)) (ev_call cw hr (by decide) rfl (ea_cons (by walk_at "ev") (ea_cons (by walk_at "ev") ea_nil)) ⟨o, u, by omega, heo, rfl, rfl⟩) (ev_un (by walk_at "ev") un_negI) (by congr 1; omega) (neD hr rfl)) (ew_or1 (et_neF (ev_call cw hr (by decide) rfl (ea_cons (by walk_at "ev") (ea_cons (by walk_at "ev") ea_nil)) ⟨u, u, by omega, rfl, rfl, rfl⟩) ev_int (by congr 1; omega) (neD hr rfl))))))) ?_
  refine run_ifF0 (et_neF (ev_bin (ev_call cw hr (by decide) rfl (ea_cons (by walk_at "ev") (ea_cons (by walk_at "ev") ea_nil)) ⟨u, th, by omega, hto, rfl, rfl⟩) (ev_call cw hr (by decide) rfl (ea_cons (by walk_at "ev") (ea_cons (by walk_at "ev") ea_nil)) ⟨th, o, by omega, hto.symm.trans heo.symm, rfl, rfl⟩) bin_addI) (by walk_at "ev") (by congr 1; omega) (neD hr rfl)) ?_
  obtain ⟨n, hn1, hn2, hn3⟩ := rgC_of (i := ns.sum % 3) (j := (u.length : Int) - 1) (c := 1 + (u.length : Int) / 9) (by omega) (by omega) (by omega)
  have hstart : 0 ≤ ns.sum % 3 := by omega
  refine rs_for (n := n) (item := fun i => .int (ns.sum % 3 + (i : Nat) * (1 + (u.length : Int) / 9))) (fun _ => [some (.d (.list (ns.map PyData.int))), some (.d (W u)), some (.d (W o)), none, none, some (.d (.int (areaW (0, 0) u - areaW (0, 0) o))), none, none, none, none, none, none]) rfl nd (by walk_at "loc") PassesOwn.never (its_range3 rfl hb.range (ev_bin (by walk_at "ev") ev_int (bin_modI (by decide))) (ev_bin (by walk_at "ev") ev_int bin_subI) (ev_bin ev_int (ev_bin (by walk_at "ev") ev_int (bin_fdivI (by decide))) bin_addI) hn1) (by walk_at "le") (fun i _ => rfl) (fun i Hl D' hi hs hnx hrt => ?_) ?_
  · have hlt := hn2 i hi
    have hpos : 0 ≤ (i : Int) * (1 + (u.length : Int) / 9) := Int.mul_nonneg (by omega) (by omega)
    obtain ⟨at_, hat⟩ : ∃ a : Nat, ns.sum % 3 + (i : Nat) * (1 + (u.length : Int) / 9) = (a : Int) := ⟨_, (Int.toNat_of_nonneg (by omega)).symm⟩
    rw [hat] at hlt ⊢
    obtain ⟨p, a, b, q, e1, e2⟩ : ∃ (p : Wk) (a b : Dr) (q : Wk), u = p ++ a :: b :: q ∧ p.length = at_ := by
      have h1 : at_ < u.length := by omega
      have h2 : at_ + 1 < u.length := by omega
      refine ⟨u.take at_, u[at_], u[at_ + 1], u.drop (at_ + 2), ?_, by rw [List.length_take]; omega⟩
      rw [List.getElem_cons_drop h2, List.getElem_cons_drop h1, List.take_append_drop]
    have k1 : cut u (some (at_ : Int)) (some ((at_ : Int) + 2)) = [a, b] := by
      have := cut_mid u at_ (at_ + 2) (by omega)
      rw [show ((at_ + 2 : Nat) : Int) = (at_ : Int) + 2 by omega] at this
      rw [this, e1, ← e2]
      simp
    have k2 : cut u none (some (at_ : Int)) = p := by
      rw [cut_to, e1, ← e2]
      simp
    have k3 : cut u (some ((at_ : Int) + 2)) none = q := by
      have := cut_from u (at_ + 2)
      rw [show ((at_ + 2 : Nat) : Int) = (at_ : Int) + 2 by omega] at this
      rw [this, e1, ← e2]
      simp
    have lp : p.length + q.length + 2 = u.length := by rw [e1]; simp; omega
    refine rs_F (d := W [a, b]) rfl nd (by walk_at "loc") (Ev.is (ev_slW (by walk_at "ev") (evp_some (by walk_at "ev")) (evp_some (ev_bin (by walk_at "ev") ev_int bin_addI)) (by omega)) (by rw [k1])) rfl ?_
    refine rs_F (d := W (p ++ b :: a :: q)) rfl nd (by walk_at "loc") (Ev.is (ev_bin (ev_bin (x := W p) (y := W [b, a]) (Ev.is (ev_slW (by walk_at "ev") evp_none (evp_some (by walk_at "ev")) (by omega)) (by rw [k2])) (ev_revW (w := [a, b]) (by walk_at "ev") (by simp)) (bin_addW (by simp; omega))) (Ev.is (ev_slW (by walk_at "ev") (evp_some (ev_bin (by walk_at "ev") ev_int bin_addI)) evp_none (by omega)) (show _ = W q by rw [k3])) (bin_addW (by simp; omega))) (by congr 1; simp)) rfl ?_
    refine rs_F (d := .int 0) rfl nd (by walk_at "loc") ev_int rfl ?_
    have hsw := area_swap p q a b
    rw [← e1] at hsw
    have hse : goAll (0, 0) u = goAll (0, 0) (p ++ b :: a :: q) := end_perm (by rw [e1]; exact List.Perm.append_left p (List.Perm.swap b a q))
    have lsw : (p ++ b :: a :: q).length = u.length := by simp; omega
    refine run_join2 (fun c : Int => [some (.d (.list (ns.map PyData.int))), some (.d (W u)), some (.d (W o)), none, none, some (.d (.int (areaW (0, 0) u - areaW (0, 0) o))), none, none, some (.d (W [a, b])), some (.d (W (p ++ b :: a :: q))), some (.d (.int c)), none]) (fun c => c = if tw a b = 1 then 1 else 0) (fun tail => ?_) fun c hc => ?_
    · refine run_if (z := decide (tw a b = 1)) (et_cmp (by walk_at "ev") (EvL.d evl_up) (cmp_inD hr (pl_W9 _) pl_upL (mem_up a b)) rfl) (fun z => ?_) (fun z => run_nx (run_le (by walk_at "le") (tail 0 (by rw [if_neg (ofF z)]))))
      exact rs_F (d := .int 1) rfl nd (by walk_at "loc") ev_int rfl (run_nx (run_le (by walk_at "le") (tail 1 (by rw [if_pos (ofT z)]))))
    refine run_join2 (fun c : Int => [some (.d (.list (ns.map PyData.int))), some (.d (W u)), some (.d (W o)), none, none, some (.d (.int (areaW (0, 0) u - areaW (0, 0) o))), none, none, some (.d (W [a, b])), some (.d (W (p ++ b :: a :: q))), some (.d (.int c)), none]) (fun c => c = tw a b) (fun tail => ?_) fun c hc => ?_
    · have tc := tw_cases a b
      refine run_if (z := decide (tw a b = -1)) (et_cmp (by walk_at "ev") (EvL.d evl_dn) (cmp_inD hr (pl_W9 _) pl_dnL (mem_dn a b)) rfl) (fun z => ?_) (fun z => run_nx (run_le (by walk_at "le") (tail c (by have := ofF z; rw [hc]; split <;> omega))))
      exact rs_F (d := .int (-1)) rfl nd (by walk_at "loc") (ev_un ev_int un_negI) rfl (run_nx (run_le (by walk_at "le") (tail (-1) (by rw [ofT z]))))
    refine run_ifF0 (et_neF (ev_call cw hr (by decide) rfl (ea_cons (by walk_at "ev") (ea_cons (by walk_at "ev") ea_nil)) ⟨u, p ++ b :: a :: q, by omega, hse, rfl, rfl⟩) (by walk_at "ev") (by rw [hsw, hc]) (neD hr rfl)) ?_
    exact run_turn hnx (by walk_at "le")
  have ge := go_enws (goAll (0, 0) u)
  have gn := go_ns2 (goAll (0, 0) u)
  have ae := area_enws (goAll (0, 0) u)
  have an := area_ns2 (goAll (0, 0) u)
  refine run_ifF0 (et_w (ew_oF (et_neF (ev_call cw hr (by decide) rfl (ea_cons (ev_bin (by walk_at "ev") (ev_strW s_enws) (bin_addW (by simp [enws]; omega))) (ea_cons (by walk_at "ev") ea_nil)) ⟨u ++ enws, o, by simp [enws]; omega, by rw [goAll_app, ge, heo], rfl, rfl⟩) (ev_bin (by walk_at "ev") ev_int bin_addI) (by rw [areaW_app, ae]; congr 1; omega) (neD hr rfl)) (ew_or1 (et_neF (ev_call cw hr (by decide) rfl (ea_cons (by walk_at "ev") (ea_cons (ev_bin (by walk_at "ev") (ev_strW s_ns2) (bin_addW (by simp [ns2]; omega))) ea_nil)) ⟨o, u ++ ns2, by simp [ns2]; omega, by rw [goAll_app, gn, heo], rfl, rfl⟩) (ev_un (by walk_at "ev") un_negI) (by rw [areaW_app, an]; congr 1; omega) (neD hr rfl))))) ?_
  have lcl := closed_len ns
  have hcl := closed_end ns
  refine rs_F (d := W (closedW ns)) rfl nd (by walk_at "loc") (ev_call lc hr (by decide) rfl (ea_cons (by walk_at "ev") ea_nil) ⟨ns, by omega, rfl, rfl⟩) rfl ?_
  generalize closedW ns = lo at *
  refine run_ret (ev_aT (ev_eqT (ev_call cw hr (by decide) rfl (ea_cons (by walk_at "ev") (ea_cons (ev_strW (u := []) rfl) ea_nil)) ⟨lo, [], by simp; omega, by rw [hcl]; rfl, rfl, rfl⟩) (ev_call la hr (by decide) rfl (ea_cons (by walk_at "ev") ea_nil) ⟨lo, by omega, hcl, rfl, rfl⟩) (by rw [show areaW (0, 0) [] = 0 from rfl, Int.sub_zero]) (eqD hr rfl)) (ev_one ?_)) hD
  exact ev_eqT (ev_call ca hr (by decide) rfl (ea_cons (ev_bin (by walk_at "ev") (by walk_at "ev") (bin_addW (by omega))) ea_nil) ⟨lo ++ lo, by simp; omega, by rw [goAll_app, hcl, hcl], rfl, rfl⟩) (ev_bin ev_int (ev_call la hr (by decide) rfl (ea_cons (by walk_at "ev") ea_nil) ⟨lo, by omega, hcl, rfl, rfl⟩) (bin_mulI (.inl (by decide)))) (by rw [areaW_app, hcl]; congr 1; omega) (eqD hr rfl)
end
end Sw

namespace Sw
open PySem PySem.Spec PyProof.Rows L2
theorem all_mk {l : PySem.W.OpenLaw} {w : World} {K : PySem.W.Frag} {h : Heap} {mg : Str → Option Value} {fa : Addr} (X : K.In h) (G : h.Ns mainGlobals mg) (hfa : mg "law" = some (.ref fa)) {tL : Tok}
    {f0 : Addr} {od0 an0 : Option Addr} {sl0 : Array (Option Value)} {oc0 kV0 dc0 pm0 cd0 ct0 : Value}
    (a0 : PySem.W.nsIn K mainGlobals "asked_walk" = some (some (.ref f0))) (l0 : K.lookup f0 = some ⟨oc0, od0, .func (PySem.W.fnOf "asked_walk" "asked_walk" (defArgs s_asked_walk) (defBody s_asked_walk) (defScope s_asked_walk) .none kV0 dc0 pm0 an0 cd0 ct0), sl0⟩) (c0 : PySem.W.codeIn K cd0 "asked_walk" = true) (k0 : PySem.W.keepIn K (.ref f0) = true)
    {f1 : Addr} {od1 an1 : Option Addr} {sl1 : Array (Option Value)} {oc1 kV1 dc1 pm1 cd1 ct1 : Value}
    (a1 : PySem.W.nsIn K mainGlobals "stepped" = some (some (.ref f1))) (l1 : K.lookup f1 = some ⟨oc1, od1, .func (PySem.W.fnOf "stepped" "stepped" (defArgs s_stepped) (defBody s_stepped) (defScope s_stepped) .none kV1 dc1 pm1 an1 cd1 ct1), sl1⟩) (c1 : PySem.W.codeIn K cd1 "stepped" = true) (k1 : PySem.W.keepIn K (.ref f1) = true)
    {f2 : Addr} {od2 an2 : Option Addr} {sl2 : Array (Option Value)} {oc2 kV2 dc2 pm2 cd2 ct2 : Value}
    (a2 : PySem.W.nsIn K mainGlobals "walked" = some (some (.ref f2))) (l2 : K.lookup f2 = some ⟨oc2, od2, .func (PySem.W.fnOf "walked" "walked" (defArgs s_walked) (defBody s_walked) (defScope s_walked) .none kV2 dc2 pm2 an2 cd2 ct2), sl2⟩) (c2 : PySem.W.codeIn K cd2 "walked" = true) (k2 : PySem.W.keepIn K (.ref f2) = true)
    {f3 : Addr} {od3 an3 : Option Addr} {sl3 : Array (Option Value)} {oc3 kV3 dc3 pm3 cd3 ct3 : Value}
    (a3 : PySem.W.nsIn K mainGlobals "end" = some (some (.ref f3))) (l3 : K.lookup f3 = some ⟨oc3, od3, .func (PySem.W.fnOf "end" "end" (defArgs s_end) (defBody s_end) (defScope s_end) .none kV3 dc3 pm3 an3 cd3 ct3), sl3⟩) (c3 : PySem.W.codeIn K cd3 "end" = true) (k3 : PySem.W.keepIn K (.ref f3) = true)
    {f4 : Addr} {od4 an4 : Option Addr} {sl4 : Array (Option Value)} {oc4 kV4 dc4 pm4 cd4 ct4 : Value}
    (a4 : PySem.W.nsIn K mainGlobals "asked_closed" = some (some (.ref f4))) (l4 : K.lookup f4 = some ⟨oc4, od4, .func (PySem.W.fnOf "asked_closed" "asked_closed" (defArgs s_asked_closed) (defBody s_asked_closed) (defScope s_asked_closed) .none kV4 dc4 pm4 an4 cd4 ct4), sl4⟩) (c4 : PySem.W.codeIn K cd4 "asked_closed" = true) (k4 : PySem.W.keepIn K (.ref f4) = true)
    {f5 : Addr} {od5 an5 : Option Addr} {sl5 : Array (Option Value)} {oc5 kV5 dc5 pm5 cd5 ct5 : Value}
    (a5 : PySem.W.nsIn K mainGlobals "turned" = some (some (.ref f5))) (l5 : K.lookup f5 = some ⟨oc5, od5, .func (PySem.W.fnOf "turned" "turned" (defArgs s_turned) (defBody s_turned) (defScope s_turned) .none kV5 dc5 pm5 an5 cd5 ct5), sl5⟩) (c5 : PySem.W.codeIn K cd5 "turned" = true) (k5 : PySem.W.keepIn K (.ref f5) = true)
    {f6 : Addr} {od6 an6 : Option Addr} {sl6 : Array (Option Value)} {oc6 kV6 dc6 pm6 cd6 ct6 : Value}
    (a6 : PySem.W.nsIn K mainGlobals "back" = some (some (.ref f6))) (l6 : K.lookup f6 = some ⟨oc6, od6, .func (PySem.W.fnOf "back" "back" (defArgs s_back) (defBody s_back) (defScope s_back) .none kV6 dc6 pm6 an6 cd6 ct6), sl6⟩) (c6 : PySem.W.codeIn K cd6 "back" = true) (k6 : PySem.W.keepIn K (.ref f6) = true)
    {f7 : Addr} {od7 an7 : Option Addr} {sl7 : Array (Option Value)} {oc7 kV7 dc7 pm7 cd7 ct7 : Value}
    (a7 : PySem.W.nsIn K mainGlobals "area_of" = some (some (.ref f7))) (l7 : K.lookup f7 = some ⟨oc7, od7, .func (PySem.W.fnOf "area_of" "area_of" (defArgs s_area_of) (defBody s_area_of) (defScope s_area_of) .none kV7 dc7 pm7 an7 cd7 ct7), sl7⟩) (c7 : PySem.W.codeIn K cd7 "area_of" = true) (k7 : PySem.W.keepIn K (.ref f7) = true)
    {f8 : Addr} {od8 an8 : Option Addr} {sl8 : Array (Option Value)} {oc8 kV8 dc8 pm8 cd8 ct8 : Value}
    (a8 : PySem.W.nsIn K mainGlobals "area" = some (some (.ref f8))) (l8 : K.lookup f8 = some ⟨oc8, od8, .func (PySem.W.fnOf "area" "area" (defArgs s_area) (defBody s_area) (defScope s_area) .none kV8 dc8 pm8 an8 cd8 ct8), sl8⟩) (c8 : PySem.W.codeIn K cd8 "area" = true) (k8 : PySem.W.keepIn K (.ref f8) = true)
    {f9 : Addr} {od9 an9 : Option Addr} {sl9 : Array (Option Value)} {oc9 kV9 dc9 pm9 cd9 ct9 : Value}
    (a9 : PySem.W.nsIn K mainGlobals "between" = some (some (.ref f9))) (l9 : K.lookup f9 = some ⟨oc9, od9, .func (PySem.W.fnOf "between" "between" (defArgs s_between) (defBody s_between) (defScope s_between) .none kV9 dc9 pm9 an9 cd9 ct9), sl9⟩) (c9 : PySem.W.codeIn K cd9 "between" = true) (k9 : PySem.W.keepIn K (.ref f9) = true)
    {f10 : Addr} {od10 an10 : Option Addr} {sl10 : Array (Option Value)} {oc10 kV10 dc10 pm10 cd10 ct10 : Value}
    (a10 : PySem.W.nsIn K mainGlobals "_law_walk" = some (some (.ref f10))) (l10 : K.lookup f10 = some ⟨oc10, od10, .func (PySem.W.fnOf "_law_walk" "_law_walk" (defArgs s__law_walk) (defBody s__law_walk) (defScope s__law_walk) .none kV10 dc10 pm10 an10 cd10 ct10), sl10⟩) (c10 : PySem.W.codeIn K cd10 "_law_walk" = true) (k10 : PySem.W.keepIn K (.ref f10) = true)
    {f11 : Addr} {od11 an11 : Option Addr} {sl11 : Array (Option Value)} {oc11 kV11 dc11 pm11 cd11 ct11 : Value}
    (a11 : PySem.W.nsIn K mainGlobals "_law_places" = some (some (.ref f11))) (l11 : K.lookup f11 = some ⟨oc11, od11, .func (PySem.W.fnOf "_law_places" "_law_places" (defArgs s__law_places) (defBody s__law_places) (defScope s__law_places) .none kV11 dc11 pm11 an11 cd11 ct11), sl11⟩) (c11 : PySem.W.codeIn K cd11 "_law_places" = true) (k11 : PySem.W.keepIn K (.ref f11) = true)
    {f12 : Addr} {od12 an12 : Option Addr} {sl12 : Array (Option Value)} {oc12 kV12 dc12 pm12 cd12 ct12 : Value}
    (a12 : PySem.W.nsIn K mainGlobals "_law_turned" = some (some (.ref f12))) (l12 : K.lookup f12 = some ⟨oc12, od12, .func (PySem.W.fnOf "_law_turned" "_law_turned" (defArgs s__law_turned) (defBody s__law_turned) (defScope s__law_turned) .none kV12 dc12 pm12 an12 cd12 ct12), sl12⟩) (c12 : PySem.W.codeIn K cd12 "_law_turned" = true) (k12 : PySem.W.keepIn K (.ref f12) = true)
    {f13 : Addr} {od13 an13 : Option Addr} {sl13 : Array (Option Value)} {oc13 kV13 dc13 pm13 cd13 ct13 : Value}
    (a13 : PySem.W.nsIn K mainGlobals "_law_closed" = some (some (.ref f13))) (l13 : K.lookup f13 = some ⟨oc13, od13, .func (PySem.W.fnOf "_law_closed" "_law_closed" (defArgs s__law_closed) (defBody s__law_closed) (defScope s__law_closed) .none kV13 dc13 pm13 an13 cd13 ct13), sl13⟩) (c13 : PySem.W.codeIn K cd13 "_law_closed" = true) (k13 : PySem.W.keepIn K (.ref f13) = true)
    {f14 : Addr} {od14 an14 : Option Addr} {sl14 : Array (Option Value)} {oc14 kV14 dc14 pm14 cd14 ct14 : Value}
    (a14 : PySem.W.nsIn K mainGlobals "_law_area" = some (some (.ref f14))) (l14 : K.lookup f14 = some ⟨oc14, od14, .func (PySem.W.fnOf "_law_area" "_law_area" (defArgs s__law_area) (defBody s__law_area) (defScope s__law_area) .none kV14 dc14 pm14 an14 cd14 ct14), sl14⟩) (c14 : PySem.W.codeIn K cd14 "_law_area" = true) (k14 : PySem.W.keepIn K (.ref f14) = true)
    {f15 : Addr} {od15 an15 : Option Addr} {sl15 : Array (Option Value)} {oc15 kV15 dc15 pm15 cd15 ct15 : Value}
    (a15 : PySem.W.nsIn K mainGlobals "law" = some (some (.ref f15))) (l15 : K.lookup f15 = some ⟨oc15, od15, .func (PySem.W.fnOf "law" "law" (defArgs s_law) (defBody s_law) (defScope s_law) .none kV15 dc15 pm15 an15 cd15 ct15), sl15⟩) (c15 : PySem.W.codeIn K cd15 "law" = true) (k15 : PySem.W.keepIn K (.ref f15) = true)
    (z_isinstance : PySem.W.nsIn K mainGlobals "isinstance" = some none)
    (z_int : PySem.W.nsIn K mainGlobals "int" = some none)
    (z_bool : PySem.W.nsIn K mainGlobals "bool" = some none)
    (z_str : PySem.W.nsIn K mainGlobals "str" = some none)
    (z_list : PySem.W.nsIn K mainGlobals "list" = some none)
    (z_tuple : PySem.W.nsIn K mainGlobals "tuple" = some none)
    (z_range : PySem.W.nsIn K mainGlobals "range" = some none)
    (z_len : PySem.W.nsIn K mainGlobals "len" = some none)
    (z_sum : PySem.W.nsIn K mainGlobals "sum" = some none)
    (z_abs : PySem.W.nsIn K mainGlobals "abs" = some none)
    (z_min : PySem.W.nsIn K mainGlobals "min" = some none)
    (z_all : PySem.W.nsIn K mainGlobals "all" = some none)
    (z_any : PySem.W.nsIn K mainGlobals "any" = some none)
    (z_sorted : PySem.W.nsIn K mainGlobals "sorted" = some none)
    (z_set : PySem.W.nsIn K mainGlobals "set" = some none)
    (z_enumerate : PySem.W.nsIn K mainGlobals "enumerate" = some none)
    (z_zip : PySem.W.nsIn K mainGlobals "zip" = some none)
    (z_reversed : PySem.W.nsIn K mainGlobals "reversed" = some none)
    (aL : PySem.W.nsIn K mainGlobals "LETTERS" = some (some (.str (SX.S [110, 119, 115, 101]) tL)))
    : ∃ fd : FuncData, (∀ (s : Shared) (v : Value), BindsTo s fd ⟨[v], []⟩ [("_law_script", v)]) ∧ ∀ base : Heap, K.In base → base.Ns mainGlobals mg → FnOk l.prog w K mg base CX0 5 fa fd ["_law_script"] (spD K RLaw) := by
  have e := hfa.symm.trans (PySem.W.mg_of X G a15)
  cases e
  have hb : Blt mg := ⟨PySem.W.mg_none_of X G z_isinstance, PySem.W.mg_none_of X G z_int, PySem.W.mg_none_of X G z_bool, PySem.W.mg_none_of X G z_str, PySem.W.mg_none_of X G z_list, PySem.W.mg_none_of X G z_tuple, PySem.W.mg_none_of X G z_range, PySem.W.mg_none_of X G z_len, PySem.W.mg_none_of X G z_sum, PySem.W.mg_none_of X G z_abs, PySem.W.mg_none_of X G z_min, PySem.W.mg_none_of X G z_all, PySem.W.mg_none_of X G z_any, PySem.W.mg_none_of X G z_sorted, PySem.W.mg_none_of X G z_set, PySem.W.mg_none_of X G z_enumerate, PySem.W.mg_none_of X G z_zip, PySem.W.mg_none_of X G z_reversed⟩
  have hL : ∃ t, mg "LETTERS" = some (.str (SX.S [110, 119, 115, 101]) t) := ⟨tL, PySem.W.mg_of X G aL⟩
  have F_asked_walk := fun_mk (x := "asked_walk") (qual := "asked_walk") (st := s_asked_walk) l0 c0 k0
  have D_asked_walk : Df K mg "asked_walk" s_asked_walk ["walk"] := ⟨_, _, F_asked_walk, PySem.W.mg_of X G a0, F_asked_walk.binds (ps := ["walk"]) fun _ _ _ _ _ _ us hl => match us, hl with | [_], _ => rfl⟩
  have F_stepped := fun_mk (x := "stepped") (qual := "stepped") (st := s_stepped) l1 c1 k1
  have D_stepped : Df K mg "stepped" s_stepped ["place", "letter"] := ⟨_, _, F_stepped, PySem.W.mg_of X G a1, F_stepped.binds (ps := ["place", "letter"]) fun _ _ _ _ _ _ us hl => match us, hl with | [_, _], _ => rfl⟩
  have F_walked := fun_mk (x := "walked") (qual := "walked") (st := s_walked) l2 c2 k2
  have D_walked : Df K mg "walked" s_walked ["walk"] := ⟨_, _, F_walked, PySem.W.mg_of X G a2, F_walked.binds (ps := ["walk"]) fun _ _ _ _ _ _ us hl => match us, hl with | [_], _ => rfl⟩
  have F_end := fun_mk (x := "end") (qual := "end") (st := s_end) l3 c3 k3
  have D_end : Df K mg "end" s_end ["walk"] := ⟨_, _, F_end, PySem.W.mg_of X G a3, F_end.binds (ps := ["walk"]) fun _ _ _ _ _ _ us hl => match us, hl with | [_], _ => rfl⟩
  have F_asked_closed := fun_mk (x := "asked_closed") (qual := "asked_closed") (st := s_asked_closed) l4 c4 k4
  have D_asked_closed : Df K mg "asked_closed" s_asked_closed ["walk"] := ⟨_, _, F_asked_closed, PySem.W.mg_of X G a4, F_asked_closed.binds (ps := ["walk"]) fun _ _ _ _ _ _ us hl => match us, hl with | [_], _ => rfl⟩
  have F_turned := fun_mk (x := "turned") (qual := "turned") (st := s_turned) l5 c5 k5
  have D_turned : Df K mg "turned" s_turned ["walk", "by"] := ⟨_, _, F_turned, PySem.W.mg_of X G a5, F_turned.binds (ps := ["walk", "by"]) fun _ _ _ _ _ _ us hl => match us, hl with | [_, _], _ => rfl⟩
  have F_back := fun_mk (x := "back") (qual := "back") (st := s_back) l6 c6 k6
  have D_back : Df K mg "back" s_back ["walk"] := ⟨_, _, F_back, PySem.W.mg_of X G a6, F_back.binds (ps := ["walk"]) fun _ _ _ _ _ _ us hl => match us, hl with | [_], _ => rfl⟩
  have F_area_of := fun_mk (x := "area_of") (qual := "area_of") (st := s_area_of) l7 c7 k7
  have D_area_of : Df K mg "area_of" s_area_of ["walk"] := ⟨_, _, F_area_of, PySem.W.mg_of X G a7, F_area_of.binds (ps := ["walk"]) fun _ _ _ _ _ _ us hl => match us, hl with | [_], _ => rfl⟩
  have F_area := fun_mk (x := "area") (qual := "area") (st := s_area) l8 c8 k8
  have D_area : Df K mg "area" s_area ["walk"] := ⟨_, _, F_area, PySem.W.mg_of X G a8, F_area.binds (ps := ["walk"]) fun _ _ _ _ _ _ us hl => match us, hl with | [_], _ => rfl⟩
  have F_between := fun_mk (x := "between") (qual := "between") (st := s_between) l9 c9 k9
  have D_between : Df K mg "between" s_between ["one", "other"] := ⟨_, _, F_between, PySem.W.mg_of X G a9, F_between.binds (ps := ["one", "other"]) fun _ _ _ _ _ _ us hl => match us, hl with | [_, _], _ => rfl⟩
  have F__law_walk := fun_mk (x := "_law_walk") (qual := "_law_walk") (st := s__law_walk) l10 c10 k10
  have D__law_walk : Df K mg "_law_walk" s__law_walk ["_law_cells"] := ⟨_, _, F__law_walk, PySem.W.mg_of X G a10, F__law_walk.binds (ps := ["_law_cells"]) fun _ _ _ _ _ _ us hl => match us, hl with | [_], _ => rfl⟩
  have F__law_places := fun_mk (x := "_law_places") (qual := "_law_places") (st := s__law_places) l11 c11 k11
  have D__law_places : Df K mg "_law_places" s__law_places ["_law_walk_here"] := ⟨_, _, F__law_places, PySem.W.mg_of X G a11, F__law_places.binds (ps := ["_law_walk_here"]) fun _ _ _ _ _ _ us hl => match us, hl with | [_], _ => rfl⟩
  have F__law_turned := fun_mk (x := "_law_turned") (qual := "_law_turned") (st := s__law_turned) l12 c12 k12
  have D__law_turned : Df K mg "_law_turned" s__law_turned ["_law_walk_here", "_law_by"] := ⟨_, _, F__law_turned, PySem.W.mg_of X G a12, F__law_turned.binds (ps := ["_law_walk_here", "_law_by"]) fun _ _ _ _ _ _ us hl => match us, hl with | [_, _], _ => rfl⟩
  have F__law_closed := fun_mk (x := "_law_closed") (qual := "_law_closed") (st := s__law_closed) l13 c13 k13
  have D__law_closed : Df K mg "_law_closed" s__law_closed ["_law_script"] := ⟨_, _, F__law_closed, PySem.W.mg_of X G a13, F__law_closed.binds (ps := ["_law_script"]) fun _ _ _ _ _ _ us hl => match us, hl with | [_], _ => rfl⟩
  have F__law_area := fun_mk (x := "_law_area") (qual := "_law_area") (st := s__law_area) l14 c14 k14
  have D__law_area : Df K mg "_law_area" s__law_area ["_law_walk_here"] := ⟨_, _, F__law_area, PySem.W.mg_of X G a14, F__law_area.binds (ps := ["_law_walk_here"]) fun _ _ _ _ _ _ us hl => match us, hl with | [_], _ => rfl⟩
  have F_law := fun_mk (x := "law") (qual := "law") (st := s_law) l15 c15 k15
  refine ⟨PySem.W.fnOf "law" "law" (defArgs s_law) (defBody s_law) (defScope s_law) .none kV15 dc15 pm15 an15 cd15 ct15, fun s v => .of_eq rfl, fun base _ _ => ?_⟩
  have c_asked_walk := ok_asked_walk (P := l.prog) (w := w) (base := base) D_asked_walk hb hL
  have c_stepped := ok_stepped (P := l.prog) (w := w) (base := base) D_stepped
  have c_walked := ok_walked D_walked c_stepped
  have c_end := ok_end D_end c_asked_walk
  have c_asked_closed := ok_asked_closed D_asked_closed c_end
  have c_turned := ok_turned (P := l.prog) (w := w) (base := base) D_turned hb hL
  have c_back := ok_back D_back c_turned
  have c_area_of := ok_area_of D_area_of hb c_walked
  have c_area := ok_area D_area c_asked_closed c_area_of
  have c_between := ok_between D_between c_end c_area_of c_back
  have l_walk := ok__law_walk (P := l.prog) (w := w) (base := base) D__law_walk
  have l_places := ok__law_places (P := l.prog) (w := w) (base := base) D__law_places
  have l_turned := ok__law_turned (P := l.prog) (w := w) (base := base) D__law_turned
  have l_closed := ok__law_closed D__law_closed hb l_walk l_places
  have l_area := ok__law_area D__law_area hb l_places
  exact ok_law F_law hb c_between c_area l_walk l_turned l_closed l_area
theorem walk {l : PySem.W.OpenLaw} {q : Program} {loose : List Str} {XP : (Str → Option Value) → Heap → Prop} {YP : World → Heap → Prop} {d : DefRec} {K : Params → PySem.W.Frag} (hn : l.most = some 63) (hdf : d.params.defaults = [])
    (hY : ∀ (w : World) (h : Heap), YP w h → (K w.params).In h)
    (F : ∀ (w : World) (mg : Str → Option Value) (fa : Addr) (h : Heap), (K w.params).In h → h.Ns mainGlobals mg → mg d.name = some (.ref fa) →
      ∃ fd : FuncData, (∀ (s : Shared) (u : Value), BindsTo s fd ⟨[u], []⟩ [("_law_script", u)]) ∧ ∀ base : Heap, (K w.params).In base → base.Ns mainGlobals mg → FnOk l.prog w (K w.params) mg base CX0 5 fa fd ["_law_script"] (spD (K w.params) RLaw)) :
    PySem.W.WalkO q loose XP YP l.row.toRowW d [] (fun f vs => PySem.call f vs) :=
  L2.walk_of (n := 63) (k := 5) (x := "_law_script") (CX := fun _ => CX0) (sp := fun w => spD (K w.params) RLaw) hn (by decide) hdf ⟨rfl, by decide, by decide⟩ hY F (fun _ _ a ns hl _ hS => spLaw_of hl hS) fun _ _ _ _ _ z => z
end Sw
open PySem PySem.W PyProof.Rows
set_option maxRecDepth 100000 in
set_option maxHeartbeats 0 in
theorem PySem.Challenge.cw_squarewalk_k05_whole_between_holds : PySem.Challenge.rw_squarewalk_k05_whole_between.Holds := by
  w_on; o_law; k_head; (case hw => w_witness2)
  k_fill
  refine Sw.walk (l := PySem.Challenge.rw_squarewalk_k05_whole_between) rfl rfl (fun w h Y => PySem.W.kIn_of Y) ?F
  case F =>
    intro w mg fa h KX G hmg
    refine' Sw.all_mk KX G hmg ?a0 ?l0 ?c0 ?k0 ?a1 ?l1 ?c1 ?k1 ?a2 ?l2 ?c2 ?k2 ?a3 ?l3 ?c3 ?k3 ?a4 ?l4 ?c4 ?k4 ?a5 ?l5 ?c5 ?k5 ?a6 ?l6 ?c6 ?k6 ?a7 ?l7 ?c7 ?k7 ?a8 ?l8 ?c8 ?k8 ?a9 ?l9 ?c9 ?k9 ?a10 ?l10 ?c10 ?k10 ?a11 ?l11 ?c11 ?k11 ?a12 ?l12 ?c12 ?k12 ?a13 ?l13 ?c13 ?k13 ?a14 ?l14 ?c14 ?k14 ?a15 ?l15 ?c15 ?k15 ?z_isinstance ?z_int ?z_bool ?z_str ?z_list ?z_tuple ?z_range ?z_len ?z_sum ?z_abs ?z_min ?z_all ?z_any ?z_sorted ?z_set ?z_enumerate ?z_zip ?z_reversed ?aL
    (case a0 => k_is)
    (case l0 => k_is)
    (case c0 => k_is)
    (case k0 => k_is)
    (case a1 => k_is)
    (case l1 => k_is)
    (case c1 => k_is)
    (case k1 => k_is)
    (case a2 => k_is)
    (case l2 => k_is)
    (case c2 => k_is)
    (case k2 => k_is)
    (case a3 => k_is)
    (case l3 => k_is)
    (case c3 => k_is)
    (case k3 => k_is)
    (case a4 => k_is)
    (case l4 => k_is)
    (case c4 => k_is)
    (case k4 => k_is)
    (case a5 => k_is)
    (case l5 => k_is)
    (case c5 => k_is)
    (case k5 => k_is)
    (case a6 => k_is)
    (case l6 => k_is)
    (case c6 => k_is)
    (case k6 => k_is)
    (case a7 => k_is)
    (case l7 => k_is)
    (case c7 => k_is)
    (case k7 => k_is)
    (case a8 => k_is)
    (case l8 => k_is)
    (case c8 => k_is)
    (case k8 => k_is)
    (case a9 => k_is)
    (case l9 => k_is)
    (case c9 => k_is)
    (case k9 => k_is)
    (case a10 => k_is)
    (case l10 => k_is)
    (case c10 => k_is)
    (case k10 => k_is)
    (case a11 => k_is)
    (case l11 => k_is)
    (case c11 => k_is)
    (case k11 => k_is)
    (case a12 => k_is)
    (case l12 => k_is)
    (case c12 => k_is)
    (case k12 => k_is)
    (case a13 => k_is)
    (case l13 => k_is)
    (case c13 => k_is)
    (case k13 => k_is)
    (case a14 => k_is)
    (case l14 => k_is)
    (case c14 => k_is)
    (case k14 => k_is)
    (case a15 => k_is)
    (case l15 => k_is)
    (case c15 => k_is)
    (case k15 => k_is)
    (case z_isinstance => k_is)
    (case z_int => k_is)
    (case z_bool => k_is)
    (case z_str => k_is)
    (case z_list => k_is)
    (case z_tuple => k_is)
    (case z_range => k_is)
    (case z_len => k_is)
    (case z_sum => k_is)
    (case z_abs => k_is)
    (case z_min => k_is)
    (case z_all => k_is)
    (case z_any => k_is)
    (case z_sorted => k_is)
    (case z_set => k_is)
    (case z_enumerate => k_is)
    (case z_zip => k_is)
    (case z_reversed => k_is)
    (case aL => k_is)
